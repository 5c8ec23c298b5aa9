import PyProof.Rows.All
import Wide.All
import OpenK.AllK
import Wide.FinOn
import HandS.ExcField
import HandS.ExcInit
import HandS.ForMost
import HandS.ForExc
import HandS.Defaults
import HandS.IsInst
import HandS.Property
import HandS.Head0
import HandS.Head1
import HandS.Head2
import HandS.HeadEnd
import HandS.HeadHook1
import HandS.HeadHook2
import HandS.HeadHook3
import HandS.HeadHook4
import PySem.Challenge.RW_asofhall_k03_one_more_entry
import HandS.Small
import HandS.Conv
import KE.DataEq
import KE.DataCmp
import KE.SortData
import HandS.TupAny
import HandS.CallSlots
import HandS.More
import HandS.Wide
import HandS.DictComp
import HandS.OwnEq
import HandS.Iter
import KE.GoesEnum
import KE.KEqNest
import HandS.ListItems
import KE.KDictList
set_option Elab.async false
set_option linter.all false
set_option maxRecDepth 100000
set_option maxHeartbeats 1000000
/-! Vs: what a head is asked. -/
namespace Vs
open PySem PySem.Spec PyProof.Rows L2
def oexB (K : PySem.W.Frag) (C : Addr) : Bool := (match K.lookup C with
  | some ⟨.type "type", _, .cls cd, sl⟩ => (match cd.mro, sl.toList with
    | .ref C' :: bm, [_, _, _, _, some (.builtin n), _] => C' == C && n == "ValueError.__new__" && !cd.hasDel && cd.hasDict && PySem.HandSPX.refsVE bm
    | _, _ => false)
  | _ => false) && (He.eqO (PySem.W.findIn K (.ref C) "__setattr__") (some (some (.builtin "object.__setattr__"))) && (decide (PySem.W.subIn K (.ref C) (.type "BaseException") = some true) && (decide (PySem.W.typeIn K (.ref C) = some (.type "type")) && PySem.W.keepIn K (.ref C))))
def oexI (K : PySem.W.Frag) (C : Addr) (f : Str) : Bool := He.eqO (PySem.W.findIn K (.ref C) "__init__") (some (some (.ref (He.ma K C "__init__")))) && (decide (PySem.W.typeIn K (.ref (He.ma K C "__init__")) = some (.type "function")) && (He.eqO (PySem.W.findIn K (.ref C) f) (some none) && xfB K C))
def clsIB (K : PySem.W.Frag) (C : Addr) : Bool := He.eqO (PySem.W.findIn K (.ref C) "__class__") (some (some (.builtin "object.__class__"))) && (He.eqO (PySem.W.specialIn K (.builtin "object.__class__") "__get__") (some (some (.builtin "getset_descriptor.__get__"))) && (decide (PySem.W.takesIn K (.builtin "object.__class__") = some true) && decide (PySem.W.mroIn K C (.type "object") = some true)))
def spcB (K : PySem.W.Frag) (C : Addr) (m : Str) : Bool := He.eqO (PySem.W.findIn K (.ref C) m) (some (some (.ref (He.ma K C m)))) && PySem.W.isFn K (.ref (He.ma K C m))
def neB (K : PySem.W.Frag) (C : Addr) : Bool := He.eqO (PySem.W.findIn K (.ref C) "__ne__") (some (some (.builtin "object.__ne__"))) && decide (PySem.W.mroIn K C (.type "object") = some true)
def kitB2 (K : PySem.W.Frag) (t u : Value) (b : Bool) : Bool := decide (PySem.W.kitOne K t u = some b)
structure GetD where
  cls : Str
  prop : Str
  d : He.DefD
section
variable {K : PySem.W.Frag} {g : GetD}
def GetD.p (K : PySem.W.Frag) (g : GetD) : Addr := He.ma K (He.ga K g.cls) g.prop
def GetD.adr (K : PySem.W.Frag) (g : GetD) : Addr := match PySem.W.recIn K (g.p K) "property" with
  | some (.ref a :: _) => a
  | _ => 0
def fnWA (K : PySem.W.Frag) (a : Addr) : He.FnW := match K.lookup a with
  | some ⟨_, _, .func f, _⟩ => some (f.name, f.qualname, f.params, f.body, f.scope, f.globals, f.closure, f.builtins)
  | _ => none
def recB (K : PySem.W.Frag) (p : Addr) : Bool := match PySem.W.recIn K p "property" with
  | some (.ref _ :: _) => true
  | _ => false
def codB (K : PySem.W.Frag) (a : Addr) (q : Str) : Bool := match K.lookup a with
  | some ⟨_, _, .func f, _⟩ => PySem.W.codeIn K f.code q && (He.dflB K f.defaults [] && He.kwdB K f.kwdefaults [])
  | _ => false
def GetD.ok (K : PySem.W.Frag) (g : GetD) : Bool := He.eqO (PySem.W.findIn K (.ref (He.ga K g.cls)) g.prop) (some (some (.ref (g.p K)))) && (He.eqO (PySem.W.specialIn K (.ref (g.p K)) "__get__") (some (some (.builtin "property.__get__"))) && (decide (PySem.W.takesIn K (.ref (g.p K)) = some true) && (recB K (g.p K) && (PySem.W.keepIn K (.ref (g.adr K)) && codB K (g.adr K) g.d.qual))))
theorem GetD.says (e : fnWA K (g.adr K) = g.d.val) (c : g.ok K = true) : PropOf K (He.ga K g.cls) g.prop (g.p K) (g.adr K) ∧ ∃ fd, FunD K g.d.name g.d.qual g.d.params g.d.body g.d.scope [] [] (g.adr K) fd := by
  obtain ⟨c1, c⟩ := He.ba c
  obtain ⟨c2, c⟩ := He.ba c
  obtain ⟨c3, c⟩ := He.ba c
  obtain ⟨c4, c⟩ := He.ba c
  obtain ⟨c5, c6⟩ := He.ba c
  refine ⟨⟨He.eqO_ok c1, He.eqO_ok c2, of_decide_eq_true c3, ?_⟩, ?_⟩
  · unfold recB at c4
    split at c4
    · rename_i a r hr
      refine ⟨r, ?_⟩
      have : g.adr K = a := by unfold GetD.adr; rw [hr]
      rw [this]
      exact hr
    · cases c4
  · unfold fnWA at e
    unfold codB at c6
    cases hl : K.lookup (g.adr K) with
    | none => rw [hl] at c6; cases c6
    | some o =>
      obtain ⟨oc, od, dt, sl⟩ := o
      rw [hl] at c6 e
      cases dt with
      | func f =>
        obtain ⟨x1, x2, x3, x4, x5, x6, x7, x8, x9, y10, y11, y12, y13, y14, y15⟩ := f
        have e2 : (some (x1, x2, x3, x4, x5, x6, x7, y15) : He.FnW) = some (g.d.name, g.d.qual, g.d.params, .stmts g.d.body, g.d.scope, mainGlobals, [], builtinsNs) := e
        simp only [Option.some.injEq, Prod.mk.injEq] at e2
        obtain ⟨rfl, rfl, rfl, rfl, rfl, rfl, rfl, rfl⟩ := e2
        obtain ⟨k1, k2⟩ := He.ba (show (PySem.W.codeIn K y13 g.d.qual && (He.dflB K x8 [] && He.kwdB K x9 [])) = true from c6)
        obtain ⟨k3, k4⟩ := He.ba k2
        exact ⟨_, ⟨oc, od, x8, x9, y10, y11, y12, y13, y14, sl, rfl, hl, k1, He.dflB_ok k3, He.kwdB_ok k4⟩, c5⟩
      | _ => cases c6
def obsG (gs : List GetD) (K : PySem.W.Frag) : Bool × List He.FnW := (gs.all fun g => g.ok K, gs.map fun g => fnWA K (g.adr K))
def valG (gs : List GetD) : Bool × List He.FnW := (true, gs.map fun g => g.d.val)
def SaysG (gs : List GetD) (K : PySem.W.Frag) : Prop := obsG gs K = valG gs
theorem SaysG.get {gs : List GetD} (s : SaysG gs K) (i : Nat) {g : GetD} (h : gs[i]? = some g := by rfl) : PropOf K (He.ga K g.cls) g.prop (g.p K) (g.adr K) ∧ ∃ fd, FunD K g.d.name g.d.qual g.d.params g.d.body g.d.scope [] [] (g.adr K) fd := by
  have e1 : (gs.all fun g => g.ok K) = true := congrArg (·.1) s
  have e2 : (gs.map fun g => fnWA K (g.adr K)) = gs.map fun g => g.d.val := congrArg (·.2) s
  refine GetD.says ?_ (List.all_eq_true.mp e1 g (List.mem_of_getElem? h))
  have e3 : (gs.map fun g => fnWA K (g.adr K))[i]? = (gs.map fun g => g.d.val)[i]? := by rw [e2]
  rw [List.getElem?_map, List.getElem?_map, h] at e3
  exact Option.some.inj e3
def hookP (n : Nat) (fa : List He.Fa) (fn : List He.DefD) (gs : List GetD) (ex : PySem.W.Frag → Bool) : PySem.W.Hook where
  α := He.AlX × (Bool × List He.FnW)
  obs := fun s => (He.obsX n fa fn [] [] ex s.heap.get?, obsG gs (He.frT s.heap.get? (He.asD s.heap.get? n)))
  val := fun w => (He.valX fn [] w, valG gs)
  says := fun w h => ∃ K : PySem.W.Frag, K.In h ∧ He.SaysX fa fn [] [] ex w h K ∧ SaysG gs K
  of := fun w s e => ⟨He.frT s.heap.get? (He.asD s.heap.get? n), He.frT_in, He.saysX_of (Prod.mk.inj e).1, (Prod.mk.inj e).2⟩
  keeps := fun _ _ _ ⟨K, hK, c, cg⟩ k => ⟨K, PySem.W.Frag.In.keeps hK k, ⟨c.t, c.more, c.hd, c.out, fun p hp => k _ _ (c.empty p hp)⟩, cg⟩
def obsP (n : Nat) (fa : List He.Fa) (fn : List He.DefD) (gs : List GetD) (ex : PySem.W.Frag → Bool) (g : Addr → Option Obj) : He.AlX × (Bool × List He.FnW) := (He.obsX n fa fn [] [] ex g, obsG gs (He.frT g (He.asD g n)))
theorem obsP_eq {n : Nat} {fa : List He.Fa} {fn : List He.DefD} {gs : List GetD} {ex : PySem.W.Frag → Bool} {g : Addr → Option Obj} {s : Shared} (h : ∀ a, g a = s.heap.get? a) : obsP n fa fn gs ex g = (hookP n fa fn gs ex).obs s := by
  have e : g = s.heap.get? := funext h
  subst e
  rfl
end
/-- an empty tuple of the module -/
def tup0B (K : PySem.W.Frag) (a : Addr) : Bool := match K.lookup a with
  | some ⟨.type c, _, .seq its _, _⟩ => decide (c = "tuple") && decide (its.size = 0)
  | _ => false
end Vs

set_option Elab.async false
set_option linter.all false
set_option maxRecDepth 100000
set_option maxHeartbeats 0
namespace Law
open PySem PySem.Spec PyProof.Rows L2 Vs
def top (i : Nat) : Stmt := PySem.Challenge.pw_asofhall_k03_one_more_entry.main.body.getD i (.Pass ⟨0, 0, 0, 0⟩)
def inCls (i j : Nat) : Stmt := (match top i with
  | .ClassDef _ _ _ body _ _ _ _ _ _ _ => body
  | _ => []).getD j (.Pass ⟨0, 0, 0, 0⟩)
/-- where the first default of a def stands -/
def dvA (K : PySem.W.Frag) (p : Str × Option Str) : Addr := match K.lookup (He.fAd K p) with
  | some ⟨_, _, .func fd, _⟩ => (match fd.defaults with
    | .ref t => (match K.lookup t with
      | some ⟨_, _, .seq its _, _⟩ => (match (its : Array Value)[0]? with
        | some (Value.ref a) => a
        | _ => 0)
      | _ => 0)
    | _ => 0)
  | _ => 0
def d_BadName___init__ : He.DefD := ⟨("BadName", some "__init__"), "__init__", "BadName.__init__", defArgs (inCls 3 0), defBody (inCls 3 0), defScope (inCls 3 0), [], []⟩
def d_BadBook___init__ : He.DefD := ⟨("BadBook", some "__init__"), "__init__", "BadBook.__init__", defArgs (inCls 4 0), defBody (inCls 4 0), defScope (inCls 4 0), [], []⟩
def d_BadEntry___init__ : He.DefD := ⟨("BadEntry", some "__init__"), "__init__", "BadEntry.__init__", defArgs (inCls 5 0), defBody (inCls 5 0), defScope (inCls 5 0), [], []⟩
def d_BadMoment___init__ : He.DefD := ⟨("BadMoment", some "__init__"), "__init__", "BadMoment.__init__", defArgs (inCls 6 0), defBody (inCls 6 0), defScope (inCls 6 0), [], []⟩
def d_is_integer : He.DefD := ⟨("is_integer", none), "is_integer", "is_integer", defArgs (top 10), defBody (top 10), defScope (top 10), [], []⟩
def d_is_row : He.DefD := ⟨("is_row", none), "is_row", "is_row", defArgs (top 11), defBody (top 11), defScope (top 11), [], []⟩
def d_is_name : He.DefD := ⟨("is_name", none), "is_name", "is_name", defArgs (top 12), defBody (top 12), defScope (top 12), [], []⟩
def d_check_name : He.DefD := ⟨("check_name", none), "check_name", "check_name", defArgs (top 13), defBody (top 13), defScope (top 13), [], []⟩
def d_check_moment : He.DefD := ⟨("check_moment", none), "check_moment", "check_moment", defArgs (top 14), defBody (top 14), defScope (top 14), [], []⟩
def d_are_lates : He.DefD := ⟨("are_lates", none), "are_lates", "are_lates", defArgs (top 18), defBody (top 18), defScope (top 18), [], []⟩
def d_Book___init__ : He.DefD := ⟨("Book", some "__init__"), "__init__", "Book.__init__", defArgs (inCls 19 0), defBody (inCls 19 0), defScope (inCls 19 0), [], []⟩
def d_Book___eq__ : He.DefD := ⟨("Book", some "__eq__"), "__eq__", "Book.__eq__", defArgs (inCls 19 1), defBody (inCls 19 1), defScope (inCls 19 1), [], []⟩
def d_Book_has : He.DefD := ⟨("Book", some "has"), "has", "Book.has", defArgs (inCls 19 3), defBody (inCls 19 3), defScope (inCls 19 3), [], []⟩
def d_Book_late : He.DefD := ⟨("Book", some "late"), "late", "Book.late", defArgs (inCls 19 4), defBody (inCls 19 4), defScope (inCls 19 4), [], []⟩
def d_is_id : He.DefD := ⟨("is_id", none), "is_id", "is_id", defArgs (top 25), defBody (top 25), defScope (top 25), [], []⟩
def d_is_entry : He.DefD := ⟨("is_entry", none), "is_entry", "is_entry", defArgs (top 26), defBody (top 26), defScope (top 26), [], []⟩
def d_are_integers : He.DefD := ⟨("are_integers", none), "are_integers", "are_integers", defArgs (top 27), defBody (top 27), defScope (top 27), [], []⟩
def d_in_time : He.DefD := ⟨("in_time", none), "in_time", "in_time", defArgs (top 28), defBody (top 28), defScope (top 28), [], []⟩
def d_is_good : He.DefD := ⟨("is_good", none), "is_good", "is_good", defArgs (top 29), defBody (top 29), defScope (top 29), [], []⟩
def d_state_behind : He.DefD := ⟨("state_behind", none), "state_behind", "state_behind", defArgs (top 30), defBody (top 30), defScope (top 30), [], []⟩
def d_first_bad : He.DefD := ⟨("first_bad", none), "first_bad", "first_bad", defArgs (top 31), defBody (top 31), defScope (top 31), [], []⟩
def d_states_of : He.DefD := ⟨("states_of", none), "states_of", "states_of", defArgs (top 32), defBody (top 32), defScope (top 32), [], []⟩
def d_standing_rows : He.DefD := ⟨("standing_rows", none), "standing_rows", "standing_rows", defArgs (top 33), defBody (top 33), defScope (top 33), [], []⟩
def d_Journal___init__ : He.DefD := ⟨("Journal", some "__init__"), "__init__", "Journal.__init__", defArgs (inCls 34 0), defBody (inCls 34 0), defScope (inCls 34 0), [.adr fun K => dvA K ("Journal", some "__init__")], []⟩
def d_Journal___len__ : He.DefD := ⟨("Journal", some "__len__"), "__len__", "Journal.__len__", defArgs (inCls 34 3), defBody (inCls 34 3), defScope (inCls 34 3), [], []⟩
def d_Journal___eq__ : He.DefD := ⟨("Journal", some "__eq__"), "__eq__", "Journal.__eq__", defArgs (inCls 34 4), defBody (inCls 34 4), defScope (inCls 34 4), [], []⟩
def d_Journal_then : He.DefD := ⟨("Journal", some "then"), "then", "Journal.then", defArgs (inCls 34 7), defBody (inCls 34 7), defScope (inCls 34 7), [], []⟩
def d_Journal_heard : He.DefD := ⟨("Journal", some "heard"), "heard", "Journal.heard", defArgs (inCls 34 8), defBody (inCls 34 8), defScope (inCls 34 8), [], []⟩
def d_Journal_rows : He.DefD := ⟨("Journal", some "rows"), "rows", "Journal.rows", defArgs (inCls 34 9), defBody (inCls 34 9), defScope (inCls 34 9), [], []⟩
def d__law_pool : He.DefD := ⟨("_law_pool", none), "_law_pool", "_law_pool", defArgs (top 36), defBody (top 36), defScope (top 36), [], []⟩
def d__law_draw : He.DefD := ⟨("_law_draw", none), "_law_draw", "_law_draw", defArgs (top 37), defBody (top 37), defScope (top 37), [], []⟩
def d__law_names : He.DefD := ⟨("_law_names", none), "_law_names", "_law_names", defArgs (top 38), defBody (top 38), defScope (top 38), [], []⟩
def d__law_lates : He.DefD := ⟨("_law_lates", none), "_law_lates", "_law_lates", defArgs (top 39), defBody (top 39), defScope (top 39), [], []⟩
def d__law_amount : He.DefD := ⟨("_law_amount", none), "_law_amount", "_law_amount", defArgs (top 40), defBody (top 40), defScope (top 40), [], []⟩
def d__law_entry : He.DefD := ⟨("_law_entry", none), "_law_entry", "_law_entry", defArgs (top 41), defBody (top 41), defScope (top 41), [], []⟩
def d__law_put : He.DefD := ⟨("_law_put", none), "_law_put", "_law_put", defArgs (top 42), defBody (top 42), defScope (top 42), [], []⟩
def d__law_entries : He.DefD := ⟨("_law_entries", none), "_law_entries", "_law_entries", defArgs (top 43), defBody (top 43), defScope (top 43), [], []⟩
def d__law_begin : He.DefD := ⟨("_law_begin", none), "_law_begin", "_law_begin", defArgs (top 44), defBody (top 44), defScope (top 44), [], []⟩
def d__law_then : He.DefD := ⟨("_law_then", none), "_law_then", "_law_then", defArgs (top 45), defBody (top 45), defScope (top 45), [], []⟩
def d__law_heard : He.DefD := ⟨("_law_heard", none), "_law_heard", "_law_heard", defArgs (top 46), defBody (top 46), defScope (top 46), [], []⟩
def d__law_arrival : He.DefD := ⟨("_law_arrival", none), "_law_arrival", "_law_arrival", defArgs (top 47), defBody (top 47), defScope (top 47), [], []⟩
def d__law_bad : He.DefD := ⟨("_law_bad", none), "_law_bad", "_law_bad", defArgs (top 48), defBody (top 48), defScope (top 48), [], []⟩
def d__law_at_the_end : He.DefD := ⟨("_law_at_the_end", none), "_law_at_the_end", "_law_at_the_end", defArgs (top 49), defBody (top 49), defScope (top 49), [], []⟩
def d_law : He.DefD := ⟨("law", none), "law", "law", defArgs (top 50), defBody (top 50), defScope (top 50), [], []⟩
def fnL : List He.DefD := [d_BadName___init__, d_BadBook___init__, d_BadEntry___init__, d_BadMoment___init__, d_is_integer, d_is_row, d_is_name, d_check_name, d_check_moment, d_are_lates, d_Book___init__, d_Book___eq__, d_Book_has, d_Book_late, d_is_id, d_is_entry, d_are_integers, d_in_time, d_is_good, d_state_behind, d_first_bad, d_states_of, d_standing_rows, d_Journal___init__, d_Journal___len__, d_Journal___eq__, d_Journal_then, d_Journal_heard, d_Journal_rows, d__law_pool, d__law_draw, d__law_names, d__law_lates, d__law_amount, d__law_entry, d__law_put, d__law_entries, d__law_begin, d__law_then, d__law_heard, d__law_arrival, d__law_bad, d__law_at_the_end, d_law]
def faL : List He.Fa := [.glo "_wall", .glo "HallError", .glo "BadName", .glo "BadBook", .glo "BadEntry", .glo "BadMoment", .glo "is_integer", .glo "is_row", .glo "is_name", .glo "check_name", .glo "check_moment", .glo "are_lates", .glo "Book", .glo "is_id", .glo "is_entry", .glo "are_integers", .glo "in_time", .glo "is_good", .glo "state_behind", .glo "first_bad", .glo "states_of", .glo "standing_rows", .glo "Journal", .glo "_law_pool", .glo "_law_draw", .glo "_law_names", .glo "_law_lates", .glo "_law_amount", .glo "_law_entry", .glo "_law_put", .glo "_law_entries", .glo "_law_begin", .glo "_law_then", .glo "_law_heard", .glo "_law_arrival", .glo "_law_bad", .glo "_law_at_the_end", .glo "law", .free "len", .free "list", .free "int", .free "tuple", .free "all", .free "range", .free "isinstance", .free "enumerate", .free "sorted", .free "max", .free "min", .free "bool", .free "str", .free "dict", .str "LETTERS" "abcdefghijklmnopqrstuvwxyz", .int "LONGEST_NAME" 8, .int "MOST_STREAMS" 8, .int "MOST_LATE" 1000000, .int "MOST_ENTRIES" 400, .int "ROW_SIZE" 7, .int "FIX_SIZE" 5, .int "GONE_SIZE" 3, .cls "Book", .mkr "Book", .cls "Journal", .mkr "Journal", .noat "Book" "_lates", .meth "Book" "has", .meth "Book" "late", .noat "Journal" "_book", .noat "Journal" "_entries", .meth "Journal" "then", .meth "Journal" "heard", .meth "Journal" "rows", .exm "BadName" "BadName" true, .exm "BadName" "BadBook" false, .exm "BadName" "BadEntry" false, .exm "BadName" "BadMoment" false, .exm "BadBook" "BadName" false, .exm "BadBook" "BadBook" true, .exm "BadBook" "BadEntry" false, .exm "BadBook" "BadMoment" false, .exm "BadEntry" "BadName" false, .exm "BadEntry" "BadBook" false, .exm "BadEntry" "BadEntry" true, .exm "BadEntry" "BadMoment" false, .exm "BadMoment" "BadName" false, .exm "BadMoment" "BadBook" false, .exm "BadMoment" "BadEntry" false, .exm "BadMoment" "BadMoment" true]
def g_Journal_book : GetD := ⟨"Journal", "book", ⟨("Journal", some "book"), "book", "Journal.book", defArgs (inCls 34 1), defBody (inCls 34 1), defScope (inCls 34 1), [], []⟩⟩
def g_Journal_entries : GetD := ⟨"Journal", "entries", ⟨("Journal", some "entries"), "entries", "Journal.entries", defArgs (inCls 34 2), defBody (inCls 34 2), defScope (inCls 34 2), [], []⟩⟩
def gtL : List GetD := [g_Journal_book, g_Journal_entries]
def looseL : List Str := ([("_wall" : Str), ("__name__" : Str), ("HallError" : Str), ("BadName" : Str), ("BadBook" : Str), ("BadEntry" : Str), ("BadMoment" : Str), ("LETTERS" : Str), ("LONGEST_NAME" : Str), ("is_integer" : Str), ("is_row" : Str), ("is_name" : Str), ("check_name" : Str), ("check_moment" : Str), ("MOST_STREAMS" : Str), ("MOST_LATE" : Str), ("are_lates" : Str), ("Book" : Str), ("MOST_ENTRIES" : Str), ("ROW_SIZE" : Str), ("FIX_SIZE" : Str), ("GONE_SIZE" : Str), ("is_id" : Str), ("is_entry" : Str), ("are_integers" : Str), ("in_time" : Str), ("is_good" : Str), ("state_behind" : Str), ("first_bad" : Str), ("states_of" : Str)] : List Str) ++ ([("standing_rows" : Str), ("Journal" : Str), ("_law_pool" : Str), ("_law_draw" : Str), ("_law_names" : Str), ("_law_lates" : Str), ("_law_amount" : Str), ("_law_entry" : Str), ("_law_put" : Str), ("_law_entries" : Str), ("_law_begin" : Str), ("_law_then" : Str), ("_law_heard" : Str), ("_law_arrival" : Str), ("_law_bad" : Str), ("_law_at_the_end" : Str)] : List Str)
abbrev RR : PySem.W.OpenRow := PySem.W.OpenLaw.row PySem.Challenge.rw_asofhall_k03_one_more_entry
def exL : List (PySem.W.Frag → Bool) := [fun K => oexB K (He.ga K "BadName"), fun K => oexI K (He.ga K "BadName") "value", fun K => oexB K (He.ga K "BadBook"), fun K => oexI K (He.ga K "BadBook") "value", fun K => oexB K (He.ga K "BadEntry"), fun K => oexI K (He.ga K "BadEntry") "at", fun K => oexB K (He.ga K "BadMoment"), fun K => oexI K (He.ga K "BadMoment") "value", fun K => clsIB K (He.ga K "Book"), fun K => neB K (He.ga K "Book"), fun K => spcB K (He.ga K "Book") "__eq__", fun K => kitB2 K (.type "NoneType") (.ref (He.ga K "Book")) false, fun K => kitB2 K (.type "bool") (.ref (He.ga K "Book")) false, fun K => kitB2 K (.ref (He.ga K "Book")) (.type "bool") false, fun K => kitB2 K (.type "int") (.ref (He.ga K "Book")) false, fun K => kitB2 K (.ref (He.ga K "Book")) (.type "int") false, fun K => kitB2 K (.type "str") (.ref (He.ga K "Book")) false, fun K => kitB2 K (.ref (He.ga K "Book")) (.type "str") false, fun K => kitB2 K (.type "list") (.ref (He.ga K "Book")) false, fun K => kitB2 K (.ref (He.ga K "Book")) (.type "list") false, fun K => kitB2 K (.type "tuple") (.ref (He.ga K "Book")) false, fun K => kitB2 K (.ref (He.ga K "Book")) (.type "tuple") false, fun K => kitB2 K (.type "dict") (.ref (He.ga K "Book")) false, fun K => kitB2 K (.ref (He.ga K "Book")) (.type "dict") false, fun K => kitB2 K (.ref (He.ga K "Book")) (.ref (He.ga K "Book")) true, fun K => kitB2 K (.ref (He.ga K "Book")) (.ref (He.ga K "Journal")) false, fun K => clsIB K (He.ga K "Journal"), fun K => neB K (He.ga K "Journal"), fun K => spcB K (He.ga K "Journal") "__len__", fun K => spcB K (He.ga K "Journal") "__eq__", fun K => kitB2 K (.type "NoneType") (.ref (He.ga K "Journal")) false, fun K => kitB2 K (.type "bool") (.ref (He.ga K "Journal")) false, fun K => kitB2 K (.ref (He.ga K "Journal")) (.type "bool") false, fun K => kitB2 K (.type "int") (.ref (He.ga K "Journal")) false, fun K => kitB2 K (.ref (He.ga K "Journal")) (.type "int") false, fun K => kitB2 K (.type "str") (.ref (He.ga K "Journal")) false, fun K => kitB2 K (.ref (He.ga K "Journal")) (.type "str") false, fun K => kitB2 K (.type "list") (.ref (He.ga K "Journal")) false, fun K => kitB2 K (.ref (He.ga K "Journal")) (.type "list") false, fun K => kitB2 K (.type "tuple") (.ref (He.ga K "Journal")) false, fun K => kitB2 K (.ref (He.ga K "Journal")) (.type "tuple") false, fun K => kitB2 K (.type "dict") (.ref (He.ga K "Journal")) false, fun K => kitB2 K (.ref (He.ga K "Journal")) (.type "dict") false, fun K => kitB2 K (.ref (He.ga K "Journal")) (.ref (He.ga K "Book")) false, fun K => kitB2 K (.ref (He.ga K "Journal")) (.ref (He.ga K "Journal")) true, fun K => tup0B K (dvA K ("Journal", some "__init__"))]
def exK (K : PySem.W.Frag) : Bool := exL.all fun f => f K
abbrev hkL : PySem.W.Hook := hookP 6 faL fnL gtL exK
def obL (s : PySem.W.SharedT) : He.AlX × (Bool × List He.FnW) := obsP 6 faL fnL gtL exK (HandSHeadRun.getT s)
theorem ob_eqL (s : PySem.W.SharedT) : obL s = hkL.obs s.abs := obsP_eq (HandSHeadRun.getT_eq s)
theorem runL (w : World) : HandSHeadRun.RunEq RR (PySem.W.view RR.prog [50]) hkL obL 4000 looseL w := by
  intro os
  kernel_rfl
end Law

set_option Elab.async false
set_option linter.all false
set_option maxRecDepth 100000
set_option maxHeartbeats 1000000
/-! Vs: value semantics with ownership over the hand layer: plain data, owned things, states. -/
namespace Vs
open PySem L2
abbrev Fg := PySem.W.Frag

/-- plain data -/
inductive D where
  | non | bl (b : Bool) | int (i : Int) | str (x : Str) | ty (n : String)
  | lst (xs : List D) | tup (xs : List D) | dic (kvs : List (Key × D)) | obj (C : Addr) (fs : List (Str × D))
/-- what a name or an expression holds: shared data; an owned list, dict, instance; what slot i owns -/
inductive A where
  | v (d : D)
  | lst (xs : List D) | dic (kvs : List (Key × D)) | obj (C : Addr) (fs : List (Str × A))
  | loc (i : Nat)

mutual
def Rep (K : Fg) (S : Hp) : D → V → Prop
  | .non, v => v = .non
  | .bl b, v => v = .bl b
  | .int i, v => v = .int i
  | .str x, v => v = .str x
  | .ty n, v => v = .ty n
  | .lst xs, v => ∃ a vs, v = .ref a ∧ SqL K S a vs ∧ RepL K S xs vs
  | .tup xs, v => ∃ a vs, v = .ref a ∧ SqT K S a vs ∧ RepL K S xs vs
  | .dic kvs, v => ∃ a ws, v = .ref a ∧ Rd S a (.dK ws) ∧ RepK K S kvs ws
  | .obj C fs, v => ∃ a dx ws, v = .ref a ∧ S a = some (.ins C dx ws) ∧ RepF K S fs ws
def RepL (K : Fg) (S : Hp) : List D → List V → Prop
  | [], vs => vs = []
  | x :: xs, vs => ∃ v r, vs = v :: r ∧ Rep K S x v ∧ RepL K S xs r
def RepK (K : Fg) (S : Hp) : List (Key × D) → List (Key × V) → Prop
  | [], vs => vs = []
  | (k, x) :: xs, vs => ∃ v r, vs = (k, v) :: r ∧ Rep K S x v ∧ RepK K S xs r
def RepF (K : Fg) (S : Hp) : List (Str × D) → List (Str × V) → Prop
  | [], vs => vs = []
  | (k, x) :: xs, vs => ∃ v r, vs = (k, v) :: r ∧ Rep K S x v ∧ RepF K S xs r
end
mutual
def A.toD : A → D
  | .v d => d
  | .lst xs => .lst xs
  | .dic kvs => .dic kvs
  | .obj C fs => .obj C (A.toDs fs)
  | .loc _ => .non
def A.toDs : List (Str × A) → List (Str × D)
  | [] => []
  | (k, x) :: r => (k, x.toD) :: A.toDs r
end
mutual
def RepA (K : Fg) (S H : Hp) : A → V → List Addr → Prop
  | .v d, v, fp => Rep K S d v ∧ fp = []
  | .lst xs, v, fp => ∃ a vs, v = .ref a ∧ H a = some (.lst vs) ∧ RepL K S xs vs ∧ fp = [a]
  | .dic kvs, v, fp => ∃ a ws, v = .ref a ∧ H a = some (.dK ws) ∧ RepK K S kvs ws ∧ fp = [a]
  | .obj C fs, v, fp => ∃ a dx ws g, v = .ref a ∧ H a = some (.ins C dx ws) ∧ RepAF K S H fs ws g ∧ fp = a :: g
  | .loc _, _, _ => False
def RepAF (K : Fg) (S H : Hp) : List (Str × A) → List (Str × V) → List Addr → Prop
  | [], vs, fp => vs = [] ∧ fp = []
  | (k, x) :: xs, vs, fp => ∃ v r g h, vs = (k, v) :: r ∧ RepA K S H x v g ∧ RepAF K S H xs r h ∧ fp = g ++ h
end

/-! ### heaps -/
/-- S is part of H; a dict may be locked there -/
def Le (S H : Hp) : Prop := ∀ a o, S a = some o → H a = some o ∨ ∃ ob ws, o = .dK ws ∧ H a = some (.frz ob (.dK ws))
theorem Le.of_same {S H : Hp} (h : Same S H) : Le S H := fun a o e => .inl (h a o e)
theorem Same.up {H : Hp} {p : Addr} {o : HO} (h : H p = none) : Same H (upd H p o) := fun a u e => by
  rw [upd_ne (ne_of_none e h)]; exact e
theorem Le.up {S H : Hp} {p : Addr} {o : HO} (h : Le S H) (hn : S p = none) : Le S (upd H p o) := fun a u e => by
  have ne : a ≠ p := ne_of_none e hn
  rcases h a u e with q | ⟨ob, ws, q1, q2⟩
  · exact .inl (by rw [upd_ne ne]; exact q)
  · exact .inr ⟨ob, ws, q1, by rw [upd_ne ne]; exact q2⟩
theorem Le.none {S H : Hp} {p : Addr} (h : Le S H) (hn : H p = none) : S p = none := by
  cases e : S p with
  | none => rfl
  | some o =>
    rcases h p o e with q | ⟨_, _, _, q⟩
    · rw [hn] at q; cases q
    · rw [hn] at q; cases q
theorem Same.none {S H : Hp} {p : Addr} (h : Same S H) (hn : H p = none) : S p = none := by
  cases e : S p with
  | none => rfl
  | some o => have := h p o e; rw [hn] at this; cases this
theorem Le.trans {S S' H : Hp} (h : Same S S') (h' : Le S' H) : Le S H := fun a o e => h' a o (h a o e)
theorem Rd.le {S H : Hp} {a : Addr} {u : HO} (hl : Le S H) (hu : (∃ xs, u = .lst xs) ∨ (∃ xs, u = .tup xs) ∨ ∃ ws, u = .dK ws) (h : Rd S a u) : Rd H a u := by
  rcases h with h | ⟨o, h⟩
  · rcases hl a u h with q | ⟨ob, ws, q1, q2⟩
    · exact .inl q
    · subst q1; exact .inr ⟨ob, q2⟩
  · rcases hl a _ h with q | ⟨ob, ws, q1, q2⟩
    · exact .inr ⟨o, q⟩
    · cases q1
theorem SqL.le {K : Fg} {S H : Hp} {a : Addr} {xs : List V} (hl : Le S H) (h : SqL K S a xs) : SqL K H a xs := by
  rcases h with h | h
  · exact .inl (Rd.le hl (.inl ⟨_, rfl⟩) h)
  · exact .inr h
theorem SqT.le {K : Fg} {S H : Hp} {a : Addr} {xs : List V} (hl : Le S H) (h : SqT K S a xs) : SqT K H a xs := by
  rcases h with h | h
  · exact .inl (Rd.le hl (.inr (.inl ⟨_, rfl⟩)) h)
  · exact .inr h
theorem ins_le {S H : Hp} {a C dx : Addr} {ws : List (Str × V)} (hl : Le S H) (h : S a = some (.ins C dx ws)) : H a = some (.ins C dx ws) := by
  rcases hl a _ h with q | ⟨_, _, q1, _⟩
  · exact q
  · cases q1
/-! ### data stay while the heap grows -/
section
variable {K : Fg} {S H : Hp}
mutual
theorem Rep.le (hl : Le S H) : ∀ (d : D) (v : V), Rep K S d v → Rep K H d v
  | .non, v, h => by simpa only [Rep] using h
  | .bl _, v, h => by simpa only [Rep] using h
  | .int _, v, h => by simpa only [Rep] using h
  | .str _, v, h => by simpa only [Rep] using h
  | .ty _, v, h => by simpa only [Rep] using h
  | .lst xs, v, h => by
    simp only [Rep] at h ⊢
    obtain ⟨a, vs, e, h1, h2⟩ := h
    exact ⟨a, vs, e, SqL.le hl h1, RepL.le hl xs vs h2⟩
  | .tup xs, v, h => by
    simp only [Rep] at h ⊢
    obtain ⟨a, vs, e, h1, h2⟩ := h
    exact ⟨a, vs, e, SqT.le hl h1, RepL.le hl xs vs h2⟩
  | .dic xs, v, h => by
    simp only [Rep] at h ⊢
    obtain ⟨a, vs, e, h1, h2⟩ := h
    exact ⟨a, vs, e, Rd.le hl (.inr (.inr ⟨_, rfl⟩)) h1, RepK.le hl xs vs h2⟩
  | .obj C fs, v, h => by
    simp only [Rep] at h ⊢
    obtain ⟨a, dx, vs, e, h1, h2⟩ := h
    exact ⟨a, dx, vs, e, ins_le hl h1, RepF.le hl fs vs h2⟩
theorem RepL.le (hl : Le S H) : ∀ (xs : List D) (vs : List V), RepL K S xs vs → RepL K H xs vs
  | [], vs, h => by simpa only [RepL] using h
  | x :: xs, vs, h => by
    simp only [RepL] at h ⊢
    obtain ⟨v, r, e, h1, h2⟩ := h
    exact ⟨v, r, e, Rep.le hl x v h1, RepL.le hl xs r h2⟩
theorem RepK.le (hl : Le S H) : ∀ (xs : List (Key × D)) (vs : List (Key × V)), RepK K S xs vs → RepK K H xs vs
  | [], vs, h => by simpa only [RepK] using h
  | (k, x) :: xs, vs, h => by
    simp only [RepK] at h ⊢
    obtain ⟨v, r, e, h1, h2⟩ := h
    exact ⟨v, r, e, Rep.le hl x v h1, RepK.le hl xs r h2⟩
theorem RepF.le (hl : Le S H) : ∀ (xs : List (Str × D)) (vs : List (Str × V)), RepF K S xs vs → RepF K H xs vs
  | [], vs, h => by simpa only [RepF] using h
  | (k, x) :: xs, vs, h => by
    simp only [RepF] at h ⊢
    obtain ⟨v, r, e, h1, h2⟩ := h
    exact ⟨v, r, e, Rep.le hl x v h1, RepF.le hl xs r h2⟩
end
mutual
/-- an owned thing stays while S grows and its own cells are as they were -/
theorem RepA.keep {S' H' : Hp} (hs : Same S S') : ∀ (x : A) (v : V) (fp : List Addr), (∀ a ∈ fp, H' a = H a) → RepA K S H x v fp → RepA K S' H' x v fp
  | .v d, v, fp, _, h => by
    simp only [RepA] at h ⊢
    exact ⟨Rep.le (Le.of_same hs) d v h.1, h.2⟩
  | .lst xs, v, fp, hk, h => by
    simp only [RepA] at h ⊢
    obtain ⟨a, vs, e, h1, h2, h3⟩ := h
    exact ⟨a, vs, e, by rw [hk a (by simp [h3])]; exact h1, RepL.le (Le.of_same hs) xs vs h2, h3⟩
  | .dic xs, v, fp, hk, h => by
    simp only [RepA] at h ⊢
    obtain ⟨a, vs, e, h1, h2, h3⟩ := h
    exact ⟨a, vs, e, by rw [hk a (by simp [h3])]; exact h1, RepK.le (Le.of_same hs) xs vs h2, h3⟩
  | .obj C fs, v, fp, hk, h => by
    simp only [RepA] at h ⊢
    obtain ⟨a, dx, vs, g, e, h1, h2, h3⟩ := h
    exact ⟨a, dx, vs, g, e, by rw [hk a (by simp [h3])]; exact h1, RepAF.keep hs fs vs g (fun b hb => hk b (by simp [h3, hb])) h2, h3⟩
  | .loc i, v, fp, hk, h => by
    simp only [RepA] at h
theorem RepAF.keep {S' H' : Hp} (hs : Same S S') : ∀ (xs : List (Str × A)) (vs : List (Str × V)) (fp : List Addr), (∀ a ∈ fp, H' a = H a) → RepAF K S H xs vs fp → RepAF K S' H' xs vs fp
  | [], vs, fp, _, h => by simpa only [RepAF] using h
  | (k, x) :: xs, vs, fp, hk, h => by
    simp only [RepAF] at h ⊢
    obtain ⟨v, r, g, g', e, h1, h2, h3⟩ := h
    exact ⟨v, r, g, g', e, RepA.keep hs x v g (fun b hb => hk b (by simp [h3, hb])) h1, RepAF.keep hs xs r g' (fun b hb => hk b (by simp [h3, hb])) h2, h3⟩
end
mutual
/-- the own cells stand in H -/
theorem RepA.there : ∀ (x : A) (v : V) (fp : List Addr), RepA K S H x v fp → ∀ a ∈ fp, H a ≠ none
  | .v d, v, fp, h, a, ha => by
    simp only [RepA] at h
    simp [h.2] at ha
  | .lst xs, v, fp, h, b, hb => by
    simp only [RepA] at h
    obtain ⟨a, vs, e, h1, h2, h3⟩ := h
    have : b = a := by simpa [h3] using hb
    rw [this, h1]; simp
  | .dic xs, v, fp, h, b, hb => by
    simp only [RepA] at h
    obtain ⟨a, vs, e, h1, h2, h3⟩ := h
    have : b = a := by simpa [h3] using hb
    rw [this, h1]; simp
  | .obj C fs, v, fp, h, b, hb => by
    simp only [RepA] at h
    obtain ⟨a, dx, vs, g, e, h1, h2, h3⟩ := h
    rw [h3] at hb
    rcases List.mem_cons.mp hb with q | q
    · rw [q, h1]; simp
    · exact RepAF.there fs vs g h2 b q
  | .loc i, v, fp, h, _, _ => by
    simp only [RepA] at h
theorem RepAF.there : ∀ (xs : List (Str × A)) (vs : List (Str × V)) (fp : List Addr), RepAF K S H xs vs fp → ∀ a ∈ fp, H a ≠ none
  | [], vs, fp, h, a, ha => by
    simp only [RepAF] at h
    simp [h.2] at ha
  | (k, x) :: xs, vs, fp, h, a, ha => by
    simp only [RepAF] at h
    obtain ⟨v, r, g, g', e, h1, h2, h3⟩ := h
    rw [h3] at ha
    rcases List.mem_append.mp ha with q | q
    · exact RepA.there x v g h1 a q
    · exact RepAF.there xs r g' h2 a q
end
mutual
theorem RepA.fp_eq : ∀ (x : A) (v : V) (f g : List Addr), RepA K S H x v f → RepA K S H x v g → f = g
  | .v d, v, f, g, h, h2 => by
    simp only [RepA] at h h2
    rw [h.2, h2.2]
  | .lst xs, v, f, g, h, h2 => by
    simp only [RepA] at h h2
    obtain ⟨a, vs, e, _, _, h3⟩ := h
    obtain ⟨b, ws, e2, _, _, h4⟩ := h2
    rw [e] at e2; cases e2
    rw [h3, h4]
  | .dic xs, v, f, g, h, h2 => by
    simp only [RepA] at h h2
    obtain ⟨a, vs, e, _, _, h3⟩ := h
    obtain ⟨b, ws, e2, _, _, h4⟩ := h2
    rw [e] at e2; cases e2
    rw [h3, h4]
  | .obj C fs, v, f, g, h, h2 => by
    simp only [RepA] at h h2
    obtain ⟨a, dx, vs, g1, e, h1, q1, h3⟩ := h
    obtain ⟨b, dy, ws, g2, e2, h4, q2, h5⟩ := h2
    rw [e] at e2; cases e2
    rw [h1] at h4; cases h4
    rw [h3, h5, RepAF.fp_eq fs vs g1 g2 q1 q2]
  | .loc i, v, f, g, h, _ => by
    simp only [RepA] at h
theorem RepAF.fp_eq : ∀ (xs : List (Str × A)) (vs : List (Str × V)) (f g : List Addr), RepAF K S H xs vs f → RepAF K S H xs vs g → f = g
  | [], vs, f, g, h, h2 => by
    simp only [RepAF] at h h2
    rw [h.2, h2.2]
  | (k, x) :: xs, vs, f, g, h, h2 => by
    simp only [RepAF] at h h2
    obtain ⟨v, r, g1, g2, e, a1, a2, a3⟩ := h
    obtain ⟨v2, r2, g3, g4, e2, b1, b2, b3⟩ := h2
    rw [e] at e2
    injection e2 with e3 e4
    injection e3 with _ e5
    subst e4 e5
    rw [a3, b3, RepA.fp_eq x v g1 g3 a1 b1, RepAF.fp_eq xs r g2 g4 a2 b2]
end
/-- the own cells of a thing, added to the shared part -/
def addF (S H : Hp) (fp : List Addr) : Hp := fun a => if a ∈ fp then H a else S a
theorem addF_in {fp : List Addr} {a : Addr} (h : a ∈ fp) : addF S H fp a = H a := if_pos h
theorem addF_out {fp : List Addr} {a : Addr} (h : a ∉ fp) : addF S H fp a = S a := if_neg h
theorem addF_same {fp : List Addr} (h : ∀ a ∈ fp, S a = none) : Same S (addF S H fp) := fun a o e => by
  by_cases q : a ∈ fp
  · rw [h a q] at e; cases e
  · rw [addF_out q]; exact e
theorem addF_le {fp : List Addr} (hl : Le S H) : Le (addF S H fp) H := fun a o e => by
  by_cases q : a ∈ fp
  · rw [addF_in q] at e; exact .inl e
  · rw [addF_out q] at e; exact hl a o e
mutual
/-- an owned thing seen as plain data, in any heap that has S and its cells -/
theorem RepA.plain {T : Hp} (hs : Le S T) : ∀ (x : A) (v : V) (fp : List Addr), (∀ a ∈ fp, ∀ o, H a = some o → T a = some o) → RepA K S H x v fp → Rep K T x.toD v
  | .v d, v, fp, _, h => by
    simp only [RepA] at h
    exact Rep.le hs d v h.1
  | .lst xs, v, fp, hk, h => by
    simp only [RepA] at h
    obtain ⟨a, vs, e, h1, h2, h3⟩ := h
    simp only [A.toD, Rep]
    exact ⟨a, vs, e, SqL.of (hk a (by simp [h3]) _ h1), RepL.le hs xs vs h2⟩
  | .dic xs, v, fp, hk, h => by
    simp only [RepA] at h
    obtain ⟨a, vs, e, h1, h2, h3⟩ := h
    simp only [A.toD, Rep]
    exact ⟨a, vs, e, .inl (hk a (by simp [h3]) _ h1), RepK.le hs xs vs h2⟩
  | .obj C fs, v, fp, hk, h => by
    simp only [RepA] at h
    obtain ⟨a, dx, vs, g, e, h1, h2, h3⟩ := h
    simp only [A.toD, Rep]
    exact ⟨a, dx, vs, e, hk a (by simp [h3]) _ h1, RepAF.plain hs fs vs g (fun b hb => hk b (by simp [h3, hb])) h2⟩
  | .loc i, v, fp, hk, h => by
    simp only [RepA] at h
theorem RepAF.plain {T : Hp} (hs : Le S T) : ∀ (xs : List (Str × A)) (vs : List (Str × V)) (fp : List Addr), (∀ a ∈ fp, ∀ o, H a = some o → T a = some o) → RepAF K S H xs vs fp → RepF K T (A.toDs xs) vs
  | [], vs, fp, _, h => by
    simp only [RepAF] at h
    simpa only [A.toDs, RepF] using h.1
  | (k, x) :: xs, vs, fp, hk, h => by
    simp only [RepAF] at h
    obtain ⟨v, r, g, g', e, h1, h2, h3⟩ := h
    simp only [A.toDs, RepF]
    exact ⟨v, r, e, RepA.plain hs x v g (fun b hb => hk b (by simp [h3, hb])) h1, RepAF.plain hs xs r g' (fun b hb => hk b (by simp [h3, hb])) h2⟩
end
end

/-! ### resources -/
/-- several things, each with its own cells -/
def RepP (K : Fg) (S H : Hp) : List (V × A) → List Addr → Prop
  | [], fp => fp = []
  | (v, x) :: r, fp => ∃ g h, RepA K S H x v g ∧ RepP K S H r h ∧ fp = g ++ h
section
variable {K : Fg} {S H : Hp}
theorem RepP.perm {ps qs : List (V × A)} (p : ps.Perm qs) : ∀ {fp : List Addr}, RepP K S H ps fp → ∃ fq, RepP K S H qs fq ∧ fp.Perm fq := by
  induction p with
  | nil => intro fp h; exact ⟨fp, h, .refl _⟩
  | cons x p ih =>
    obtain ⟨v, x⟩ := x
    intro fp h
    obtain ⟨g, h', h1, h2, h3⟩ := h
    obtain ⟨fq, q1, q2⟩ := ih h2
    exact ⟨g ++ fq, ⟨g, fq, h1, q1, rfl⟩, by rw [h3]; exact List.Perm.append_left _ q2⟩
  | swap x y l =>
    obtain ⟨v, x⟩ := x
    obtain ⟨u, y⟩ := y
    intro fp h
    obtain ⟨g, h', h1, ⟨g2, h4, h5, h6, h7⟩, h3⟩ := h
    subst h7 h3
    refine ⟨g2 ++ (g ++ h4), ⟨g2, g ++ h4, h5, ⟨g, h4, h1, h6, rfl⟩, rfl⟩, ?_⟩
    rw [← List.append_assoc, ← List.append_assoc]
    exact List.Perm.append_right _ List.perm_append_comm
  | trans p q ih1 ih2 =>
    intro fp h
    obtain ⟨f1, h1, p1⟩ := ih1 h
    obtain ⟨f2, h2, p2⟩ := ih2 h1
    exact ⟨f2, h2, p1.trans p2⟩
theorem RepP.append {ps qs : List (V × A)} : ∀ {fp : List Addr}, RepP K S H (ps ++ qs) fp → ∃ f1 f2, RepP K S H ps f1 ∧ RepP K S H qs f2 ∧ fp = f1 ++ f2 := by
  induction ps with
  | nil => intro fp h; exact ⟨[], fp, rfl, h, rfl⟩
  | cons x ps ih =>
    obtain ⟨v, x⟩ := x
    intro fp h
    obtain ⟨g, h', h1, h2, h3⟩ := h
    obtain ⟨f1, f2, q1, q2, q3⟩ := ih h2
    exact ⟨g ++ f1, f2, ⟨g, f1, h1, q1, rfl⟩, q2, by rw [h3, q3, List.append_assoc]⟩
theorem RepP.join {ps qs : List (V × A)} : ∀ {f1 f2 : List Addr}, RepP K S H ps f1 → RepP K S H qs f2 → RepP K S H (ps ++ qs) (f1 ++ f2) := by
  induction ps with
  | nil => intro f1 f2 h1 h2; cases h1; exact h2
  | cons x ps ih =>
    obtain ⟨v, x⟩ := x
    intro f1 f2 h1 h2
    obtain ⟨g, h', q1, q2, q3⟩ := h1
    exact ⟨g, h' ++ f2, q1, ih q2 h2, by rw [q3, List.append_assoc]⟩
theorem RepP.keep {S' H' : Hp} (hs : Same S S') : ∀ {ps : List (V × A)} {fp : List Addr}, (∀ a ∈ fp, H' a = H a) → RepP K S H ps fp → RepP K S' H' ps fp := by
  intro ps
  induction ps with
  | nil => intro fp _ h; exact h
  | cons x ps ih =>
    obtain ⟨v, x⟩ := x
    intro fp hk h
    obtain ⟨g, h', h1, h2, h3⟩ := h
    subst h3
    exact ⟨g, h', h1.keep hs x v g (fun a ha => hk a (List.mem_append_left _ ha)), ih (fun a ha => hk a (List.mem_append_right _ ha)) h2, rfl⟩
theorem RepP.there : ∀ {ps : List (V × A)} {fp : List Addr}, RepP K S H ps fp → ∀ a ∈ fp, H a ≠ none := by
  intro ps
  induction ps with
  | nil => intro fp h a ha; cases h; simp at ha
  | cons x ps ih =>
    obtain ⟨v, x⟩ := x
    intro fp h a ha
    obtain ⟨g, h', h1, h2, h3⟩ := h
    subst h3
    rcases List.mem_append.mp ha with q | q
    · exact h1.there x v g a q
    · exact ih h2 a q
end

/-! ### the state -/
abbrev AEnv := List (Option A)
/-- the names' things -/
def envP : AEnv → L2.St → List (V × A)
  | some x :: ρ, some v :: σ => (v, x) :: envP ρ σ
  | _ :: ρ, _ :: σ => envP ρ σ
  | _, _ => []
/-- every name that holds a thing holds a value -/
def EnvOk : AEnv → L2.St → Prop
  | [], σ => σ = []
  | o :: ρ, σ => ∃ w r, σ = w :: r ∧ (∀ x, o = some x → (∃ v, w = some v) ∧ ∀ i, x ≠ .loc i) ∧ EnvOk ρ r
/-- what is held beside: owned or shared things; loc: the value of slot i -/
def tmpP (τ : List (V × A)) : List (V × A) := τ.filter fun p => match p.2 with
  | .loc _ => false
  | _ => true
/-- what does not change through a def's body -/
structure Ctx where
  R : Hp
  S0 : Hp
  os : List (Nat × V)
structure Stt (K : Fg) (c : Ctx) (S H : Hp) (σ : L2.St) (ρ : AEnv) (τ : List (V × A)) : Prop where
  own : ∃ fp, RepP K S H (envP ρ σ ++ tmpP τ) fp ∧ fp.Nodup ∧ ∀ a ∈ fp, S a = none ∧ c.R a = none
  env : EnvOk ρ σ
  loc : ∀ v i, (v, .loc i) ∈ τ → σ[i]? = some (some v) ∧ ∃ y, ρ[i]? = some (some y)
  le : Le S H
  r : Same c.R H
  new : ∀ a, c.R a ≠ none → S a = c.S0 a
  up : Same c.S0 S
  os : ∀ p ∈ c.os, σ[p.1]? = some (some p.2)

end Vs

set_option Elab.async false
set_option linter.all false
set_option maxRecDepth 100000
set_option maxHeartbeats 1000000
/-! Vs: moves of states. -/
namespace Vs
open PySem L2
/-! ### the names' things, one taken out -/
theorem envP_some : ∀ {ρ : AEnv} {σ : L2.St} {i : Nat} {y : A} {v : V}, i < ρ.length → σ[i]? = some (some v) → (envP (ρ.set i (some y)) σ).Perm ((v, y) :: envP (ρ.set i none) σ)
  | [], _, _, _, _, h, _ => by simp at h
  | o :: ρ, [], _, _, _, _, h => by simp at h
  | o :: ρ, w :: σ, 0, y, v, _, h => by
    have e : w = some v := by simpa using h
    subst e
    simp only [List.set_cons_zero, envP]
    exact .refl _
  | o :: ρ, w :: σ, i + 1, y, v, hl, h => by
    have ih := envP_some (ρ := ρ) (σ := σ) (i := i) (y := y) (v := v) (by simpa using hl) (by simpa using h)
    simp only [List.set_cons_succ]
    cases o with
    | none => cases w <;> simpa only [envP] using ih
    | some x =>
      cases w with
      | none => simpa only [envP] using ih
      | some u =>
        simp only [envP]
        exact (List.Perm.cons _ ih).trans (.swap _ _ _)
theorem envP_none : ∀ {ρ : AEnv} {σ : L2.St} {i : Nat} {w : Option V}, envP (ρ.set i none) (σ.set i w) = envP (ρ.set i none) σ
  | [], _, _, _ => by simp [envP]
  | o :: ρ, [], i, _ => by simp
  | o :: ρ, u :: σ, 0, w => by cases u <;> cases w <;> simp [envP]
  | o :: ρ, u :: σ, i + 1, w => by
    have ih := envP_none (ρ := ρ) (σ := σ) (i := i) (w := w)
    simp only [List.set_cons_succ]
    cases o <;> cases u <;> simp [envP, ih]
theorem set_self : ∀ {ρ : AEnv} {i : Nat} {o : Option A}, ρ[i]? = some o → ρ.set i o = ρ
  | [], _, _, h => by simp at h
  | a :: ρ, 0, o, h => by
    have e : a = o := by simpa using h
    simp [e]
  | a :: ρ, i + 1, o, h => by
    simp only [List.set_cons_succ]
    rw [set_self (ρ := ρ) (i := i) (o := o) (by simpa using h)]
theorem lt_of_get {α : Type} {l : List α} {i : Nat} {x : α} (h : l[i]? = some x) : i < l.length := (List.getElem?_eq_some_iff.mp h).1
theorem envP_take {ρ : AEnv} {σ : L2.St} {i : Nat} {y : A} {v : V} (h : ρ[i]? = some (some y)) (hv : σ[i]? = some (some v)) : (envP ρ σ).Perm ((v, y) :: envP (ρ.set i none) σ) := by
  have p := envP_some (ρ := ρ) (σ := σ) (i := i) (y := y) (v := v) (lt_of_get h) hv
  rwa [set_self h] at p
/-- where a name holds nothing -/
theorem envP_unset : ∀ {ρ : AEnv} {σ : L2.St} {i : Nat}, ρ[i]? = some none → ρ.set i none = ρ := fun h => set_self h
theorem set_set {α : Type} (l : List α) (i : Nat) (a b : α) : (l.set i a).set i b = l.set i b := by simp
theorem EnvOk.get : ∀ {ρ : AEnv} {σ : L2.St} {i : Nat} {y : A}, EnvOk ρ σ → ρ[i]? = some (some y) → (∃ v, σ[i]? = some (some v)) ∧ ∀ j, y ≠ .loc j
  | [], _, _, _, _, h => by simp at h
  | o :: ρ, σ, 0, y, he, h => by
    obtain ⟨w, r, rfl, h1, h2⟩ := he
    have e : o = some y := by simpa using h
    obtain ⟨⟨v, hv⟩, h3⟩ := h1 y e
    exact ⟨⟨v, by simp [hv]⟩, h3⟩
  | o :: ρ, σ, i + 1, y, he, h => by
    obtain ⟨w, r, rfl, h1, h2⟩ := he
    obtain ⟨⟨v, hv⟩, h3⟩ := h2.get (i := i) (y := y) (by simpa using h)
    exact ⟨⟨v, by simpa using hv⟩, h3⟩
theorem EnvOk.len : ∀ {ρ : AEnv} {σ : L2.St}, EnvOk ρ σ → σ.length = ρ.length
  | [], σ, h => by cases h; rfl
  | o :: ρ, σ, h => by
    obtain ⟨w, r, rfl, h1, h2⟩ := h
    simp [h2.len]
/-- one name's thing is exchanged -/
theorem EnvOk.put : ∀ {ρ : AEnv} {σ : L2.St} {i : Nat} {o : Option A}, EnvOk ρ σ → (∀ y, o = some y → (∃ v, σ[i]? = some (some v)) ∧ ∀ j, y ≠ .loc j) → EnvOk (ρ.set i o) σ
  | [], _, _, _, he, _ => by simpa using he
  | u :: ρ, σ, 0, o, he, h => by
    obtain ⟨w, r, rfl, h1, h2⟩ := he
    refine ⟨w, r, rfl, fun y hy => ?_, h2⟩
    obtain ⟨⟨v, hv⟩, h3⟩ := h y hy
    exact ⟨⟨v, by simpa using hv⟩, h3⟩
  | u :: ρ, σ, i + 1, o, he, h => by
    obtain ⟨w, r, rfl, h1, h2⟩ := he
    refine ⟨w, r, rfl, h1, h2.put (i := i) (o := o) fun y hy => ?_⟩
    obtain ⟨⟨v, hv⟩, h3⟩ := h y hy
    exact ⟨⟨v, by simpa using hv⟩, h3⟩
/-- a name gets a value -/
theorem EnvOk.store : ∀ {ρ : AEnv} {σ : L2.St} {i : Nat} {o : Option A} {w : Option V}, EnvOk ρ σ → (∀ y, o = some y → (∃ v, w = some v) ∧ ∀ j, y ≠ .loc j) → EnvOk (ρ.set i o) (σ.set i w)
  | [], σ, _, _, _, he, _ => by
    cases he
    simp [EnvOk]
  | u :: ρ, σ, 0, o, w', he, h => by
    obtain ⟨w, r, rfl, h1, h2⟩ := he
    exact ⟨w', r, rfl, h, h2⟩
  | u :: ρ, σ, i + 1, o, w', he, h => by
    obtain ⟨w, r, rfl, h1, h2⟩ := he
    exact ⟨w, r.set i w', rfl, h1, h2.store (i := i) (o := o) (w := w') h⟩

theorem RepA.ofv {K : Fg} {S H : Hp} {d : D} {v : V} (h : Rep K S d v) : RepA K S H (.v d) v [] := by
  simp only [RepA]
  exact ⟨h, trivial⟩
def isLoc : A → Bool
  | .loc _ => true
  | _ => false
theorem tmpP_cons {v : V} {x : A} {τ : List (V × A)} (h : isLoc x = false) : tmpP ((v, x) :: τ) = (v, x) :: tmpP τ := by
  cases x <;> first | rfl | cases h
theorem tmpP_loc {v : V} {i : Nat} {τ : List (V × A)} : tmpP ((v, .loc i) :: τ) = tmpP τ := rfl
theorem isLoc_of {x : A} (h : ∀ j, x ≠ .loc j) : isLoc x = false := by
  cases x <;> first | rfl | exact absurd rfl (h _)
theorem not_loc {x : A} (h : isLoc x = false) : ∀ j, x ≠ .loc j := by
  intro j e; subst e; cases h

section
variable {K : Fg} {c : Ctx} {S H : Hp} {σ : L2.St} {ρ : AEnv} {τ : List (V × A)} {v : V} {x y : A} {i : Nat}
theorem loc_tail {α : Type} {P : V → Nat → Prop} (h : ∀ v' i, (v', A.loc i) ∈ (v, x) :: τ → P v' i) : ∀ v' i, (v', A.loc i) ∈ τ → P v' i := fun v' i m => h v' i (List.mem_cons_of_mem _ m)
/-- what is held is let go -/
theorem Stt.drop (s : Stt K c S H σ ρ ((v, x) :: τ)) : Stt K c S H σ ρ τ := by
  refine ⟨?_, s.env, fun v' i m => s.loc v' i (List.mem_cons_of_mem _ m), s.le, s.r, s.new, s.up, s.os⟩
  obtain ⟨fp, h1, h2, h3⟩ := s.own
  by_cases hx : isLoc x = true
  · cases x with
    | loc j => exact ⟨fp, h1, h2, h3⟩
    | _ => cases hx
  · have hx' : isLoc x = false := by simpa using hx
    rw [tmpP_cons hx'] at h1
    obtain ⟨fq, q1, q2⟩ := RepP.perm (List.perm_middle (l₁ := envP ρ σ) (a := (v, x)) (l₂ := tmpP τ)) h1
    obtain ⟨g, h', a1, a2, a3⟩ := q1
    subst a3
    have nd : (g ++ h').Nodup := q2.nodup_iff.mp h2
    exact ⟨h', a2, (List.nodup_append.mp nd).2.1, fun a ha => h3 a (q2.symm.subset (List.mem_append_right _ ha))⟩
theorem Stt.drops {τ' : List (V × A)} : ∀ {ts : List (V × A)}, Stt K c S H σ ρ (ts ++ τ') → Stt K c S H σ ρ τ'
  | [], s => s
  | (v, x) :: ts, s => Stt.drops (ts := ts) s.drop
/-- one held thing ahead: its own cells, those of all else -/
theorem Stt.top (s : Stt K c S H σ ρ ((v, x) :: τ)) (hx : isLoc x = false) :
    ∃ g h, RepA K S H x v g ∧ RepP K S H (envP ρ σ ++ tmpP τ) h ∧ (g ++ h).Nodup ∧ ∀ a ∈ g ++ h, S a = none ∧ c.R a = none := by
  obtain ⟨fp, h1, h2, h3⟩ := s.own
  rw [tmpP_cons hx] at h1
  obtain ⟨fq, q1, q2⟩ := RepP.perm (List.perm_middle (l₁ := envP ρ σ) (a := (v, x)) (l₂ := tmpP τ)) h1
  obtain ⟨g, h', a1, a2, a3⟩ := q1
  subst a3
  exact ⟨g, h', a1, a2, q2.nodup_iff.mp h2, fun a ha => h3 a (q2.symm.subset ha)⟩
/-- from such parts a state -/
theorem Stt.push {S' H' : Hp} {ρ' : AEnv} {τ' : List (V × A)} {g h : List Addr} (hx : isLoc x = false) (h1 : RepA K S' H' x v g) (h2 : RepP K S' H' (envP ρ' σ ++ tmpP τ') h) (nd : (g ++ h).Nodup)
    (h3 : ∀ a ∈ g ++ h, S' a = none ∧ c.R a = none) (he : EnvOk ρ' σ) (hl : ∀ v i, (v, .loc i) ∈ τ' → σ[i]? = some (some v) ∧ ∃ y, ρ'[i]? = some (some y)) (le : Le S' H') (r : Same c.R H') (new : ∀ a, c.R a ≠ none → S' a = c.S0 a) (up : Same c.S0 S')
    (os : ∀ p ∈ c.os, σ[p.1]? = some (some p.2)) : Stt K c S' H' σ ρ' ((v, x) :: τ') := by
  refine ⟨?_, he, fun v' j m => ?_, le, r, new, up, os⟩
  · obtain ⟨fq, q1, q2⟩ := RepP.perm (List.perm_middle (l₁ := envP ρ' σ) (a := (v, x)) (l₂ := tmpP τ')).symm (show RepP K S' H' ((v, x) :: (envP ρ' σ ++ tmpP τ')) (g ++ h) from ⟨g, h, h1, h2, rfl⟩)
    exact ⟨fq, by rw [tmpP_cons hx]; exact q1, q2.nodup_iff.mp nd, fun a ha => h3 a (q2.symm.subset ha)⟩
  · rcases List.mem_cons.mp m with q | q
    · injection q with q1 q2; subst q2; cases hx
    · exact hl v' j q
/-- a shared datum is held -/
theorem Stt.hold {d : D} (s : Stt K c S H σ ρ τ) (h : Rep K S d v) : Stt K c S H σ ρ ((v, .v d) :: τ) := by
  obtain ⟨fp, h1, h2, h3⟩ := s.own
  exact Stt.push (g := []) (h := fp) rfl (RepA.ofv h) h1 (by simpa using h2) (by simpa using h3) s.env s.loc s.le s.r s.new s.up s.os
/-- what is held is shared data: they stand in S -/
theorem Stt.data {d : D} (s : Stt K c S H σ ρ ((v, .v d) :: τ)) : Rep K S d v := by
  obtain ⟨g, h, h1, _⟩ := s.top rfl
  simp only [RepA] at h1
  exact h1.1
theorem Stt.dataMem {d : D} (s : Stt K c S H σ ρ τ) (m : (v, .v d) ∈ τ) : Rep K S d v := by
  obtain ⟨fp, h1, _, _⟩ := s.own
  have m2 : (v, A.v d) ∈ envP ρ σ ++ tmpP τ := List.mem_append_right _ (List.mem_filter.mpr ⟨m, rfl⟩)
  have key : ∀ (ps : List (V × A)) (fp : List Addr), RepP K S H ps fp → (v, A.v d) ∈ ps → Rep K S d v := by
    intro ps
    induction ps with
    | nil => intro _ _ z; simp at z
    | cons p ps ih =>
      obtain ⟨u, y⟩ := p
      intro fp h z
      obtain ⟨g, h', a1, a2, _⟩ := h
      rcases List.mem_cons.mp z with q | q
      · injection q with q1 q2; subst q1 q2
        simp only [RepA] at a1
        exact a1.1
      · exact ih h' a2 q
  exact key _ _ h1 m2
/-- a slot that holds shared data -/
theorem Stt.slot {d : D} (s : Stt K c S H σ ρ τ) (h : ρ[i]? = some (some (.v d))) : ∃ v, σ[i]? = some (some v) ∧ Rep K S d v := by
  obtain ⟨⟨v, hv⟩, _⟩ := s.env.get h
  refine ⟨v, hv, ?_⟩
  obtain ⟨fp, h1, _, _⟩ := s.own
  obtain ⟨f1, f2, q1, q2, q3⟩ := h1.append
  obtain ⟨fq, z1, z2⟩ := RepP.perm (envP_take h hv) q1
  obtain ⟨g, h', a1, _, _⟩ := z1
  simp only [RepA] at a1
  exact a1.1
/-- an order of what is held -/
theorem Stt.swap {τ' : List (V × A)} (s : Stt K c S H σ ρ τ) (p : τ.Perm τ') : Stt K c S H σ ρ τ' := by
  refine ⟨?_, s.env, fun v' i m => s.loc v' i (p.symm.subset m), s.le, s.r, s.new, s.up, s.os⟩
  obtain ⟨fp, h1, h2, h3⟩ := s.own
  obtain ⟨fq, q1, q2⟩ := RepP.perm (List.Perm.append_left (envP ρ σ) (p.filter _)) h1
  exact ⟨fq, q1, q2.nodup_iff.mp h2, fun a ha => h3 a (q2.symm.subset ha)⟩
/-- what a thing is now -/
def dat (x : A) (ρ : AEnv) : Option D := match x with
  | .loc i => (match ρ[i]? with
    | some (some y) => some y.toD
    | _ => none)
  | y => some y.toD
theorem RepP.pick {ps : List (V × A)} : ∀ {fp : List Addr}, RepP K S H ps fp → (v, x) ∈ ps → ∃ g, RepA K S H x v g ∧ ∀ a ∈ g, a ∈ fp := by
  induction ps with
  | nil => intro _ _ z; simp at z
  | cons p ps ih =>
    obtain ⟨u, y⟩ := p
    intro fp h z
    obtain ⟨g, h', a1, a2, a3⟩ := h
    subst a3
    rcases List.mem_cons.mp z with q | q
    · injection q with q1 q2; subst q1 q2
      exact ⟨g, a1, fun a ha => List.mem_append_left _ ha⟩
    · obtain ⟨g', b1, b2⟩ := ih a2 q
      exact ⟨g', b1, fun a ha => List.mem_append_right _ (b2 a ha)⟩
/-- .. in the heap -/
theorem Stt.dat {d : D} (s : Stt K c S H σ ρ τ) (m : (v, x) ∈ τ) (h : dat x ρ = some d) : Rep K H d v := by
  obtain ⟨fp, h1, _, _⟩ := s.own
  cases hx : isLoc x with
  | false =>
    have e : x.toD = d := by
      cases x <;> first | exact Option.some.inj h | cases hx
    have m2 : (v, x) ∈ envP ρ σ ++ tmpP τ := List.mem_append_right _ (List.mem_filter.mpr ⟨m, by cases x <;> first | rfl | cases hx⟩)
    obtain ⟨g, a1, _⟩ := h1.pick m2
    rw [← e]
    exact a1.plain s.le x v g (fun _ _ _ q => q)
  | true =>
    cases x with
    | loc i =>
      obtain ⟨hv, y, hy⟩ := s.loc v i m
      have e : y.toD = d := by
        simp only [Vs.dat, hy] at h
        exact Option.some.inj h
      obtain ⟨f1, f2, q1, q2, q3⟩ := h1.append
      obtain ⟨fq, z1, z2⟩ := RepP.perm (envP_take hy hv) q1
      obtain ⟨g, h', a1, _, _⟩ := z1
      rw [← e]
      exact a1.plain s.le y v g (fun _ _ _ q => q)
    | _ => cases hx

/-! ### new cells -/
theorem Stt.fresh (s : Stt K c S H σ ρ τ) {p : Addr} (h : H p = none) : S p = none ∧ c.R p = none ∧ ∀ fp, RepP K S H (envP ρ σ ++ tmpP τ) fp → p ∉ fp :=
  ⟨s.le.none h, Same.none s.r h, fun fp q z => q.there p z h⟩
/-- a new owned cell -/
theorem Stt.alloc {p : Addr} {o : HO} (s : Stt K c S H σ ρ τ) (hp : H p = none) (hx : isLoc x = false) (h : RepA K S (upd H p o) x (.ref p) [p]) : Stt K c S (upd H p o) σ ρ ((.ref p, x) :: τ) := by
  obtain ⟨f1, f2, f3⟩ := s.fresh hp
  obtain ⟨fp, h1, h2, h3⟩ := s.own
  have np := f3 fp h1
  refine Stt.push (g := [p]) (h := fp) hx h ?_ ?_ ?_ s.env s.loc (s.le.up f1) (fun a o e => ?_) s.new s.up s.os
  · exact h1.keep (Same.refl S) fun a ha => upd_ne (fun z => np (z ▸ ha))
  · exact List.nodup_cons.mpr ⟨np, h2⟩
  · intro a ha
    rcases List.mem_cons.mp ha with q | q
    · exact ⟨by rw [q]; exact f1, by rw [q]; exact f2⟩
    · exact h3 a q
  · rw [upd_ne (ne_of_none e f2)]; exact s.r a o e
/-- a new shared cell -/
theorem Stt.share {p : Addr} {o : HO} {d : D} (s : Stt K c S H σ ρ τ) (hp : H p = none) (h : Rep K (upd S p o) d (.ref p)) : Stt K c (upd S p o) (upd H p o) σ ρ ((.ref p, .v d) :: τ) := by
  obtain ⟨f1, f2, f3⟩ := s.fresh hp
  obtain ⟨fp, h1, h2, h3⟩ := s.own
  have np := f3 fp h1
  refine Stt.push (g := []) (h := fp) rfl (RepA.ofv h) ?_ (by simpa using h2) ?_ s.env s.loc ?_ (fun a o e => ?_) (fun a ha => ?_) (fun a u e => ?_) s.os
  · exact h1.keep (Same.up f1) fun a ha => upd_ne (fun z => np (z ▸ ha))
  · intro a ha
    have ha : a ∈ fp := by simpa using ha
    obtain ⟨q1, q2⟩ := h3 a ha
    exact ⟨by rw [upd_ne (show a ≠ p from fun z => np (z ▸ ha))]; exact q1, q2⟩
  · intro a u e
    by_cases q : a = p
    · subst q
      rw [upd_same] at e
      exact .inl (by rw [upd_same]; exact e)
    · rw [upd_ne q] at e
      rcases s.le a u e with z | ⟨ob, ws, z1, z2⟩
      · exact .inl (by rw [upd_ne q]; exact z)
      · exact .inr ⟨ob, ws, z1, by rw [upd_ne q]; exact z2⟩
  · rw [upd_ne (ne_of_none e f2)]; exact s.r a o e
  · rw [upd_ne (show a ≠ p from fun z => ha (by rw [z]; exact f2))]; exact s.new a ha
  · rw [upd_ne (ne_of_none (s.up a u e) f1)]; exact s.up a u e
/-- an untracked cell comes beside (an instance's own dict) -/
theorem Stt.beside {p : Addr} {o : HO} (s : Stt K c S H σ ρ τ) (hp : H p = none) : Stt K c S (upd H p o) σ ρ τ := by
  obtain ⟨f1, f2, f3⟩ := s.fresh hp
  obtain ⟨fp, h1, h2, h3⟩ := s.own
  have np := f3 fp h1
  refine ⟨⟨fp, h1.keep (Same.refl S) fun a ha => upd_ne (fun z => np (z ▸ ha)), h2, h3⟩, s.env, s.loc, s.le.up f1, fun a o e => ?_, s.new, s.up, s.os⟩
  rw [upd_ne (ne_of_none e f2)]; exact s.r a o e

/-! ### a held thing becomes shared -/
theorem Stt.freeze (s : Stt K c S H σ ρ ((v, x) :: τ)) (hx : isLoc x = false) : ∃ S', Same S S' ∧ Stt K c S' H σ ρ ((v, .v x.toD) :: τ) := by
  obtain ⟨g, h, h1, h2, nd, h3⟩ := s.top hx
  have hg : ∀ a ∈ g, S a = none := fun a ha => (h3 a (List.mem_append_left _ ha)).1
  have sm : Same S (addF S H g) := addF_same hg
  refine ⟨addF S H g, sm, Stt.push (g := []) (h := h) rfl ?_ (h2.keep sm fun _ _ => rfl) (List.nodup_append.mp nd).2.1 ?_ s.env (fun v' i m => s.loc v' i (List.mem_cons_of_mem _ m)) (addF_le s.le) s.r (fun a ha => ?_) (fun a o e => sm a o (s.up a o e)) s.os⟩
  · exact RepA.ofv (h1.plain (Le.of_same sm) x v g fun a ha o e => by rw [addF_in ha]; exact e)
  · intro a ha
    have ha : a ∈ h := by simpa using ha
    have ng : a ∉ g := fun z => (List.nodup_append.mp nd).2.2 a z a ha rfl
    exact ⟨by rw [addF_out ng]; exact (h3 a (List.mem_append_right _ ha)).1, (h3 a (List.mem_append_right _ ha)).2⟩
  · have ng : a ∉ g := fun z => ha (h3 a (List.mem_append_left _ z)).2
    rw [addF_out ng]; exact s.new a ha
/-- a slot's thing is taken into the hand -/
theorem Stt.takeSlot (s : Stt K c S H σ ρ τ) (h : ρ[i]? = some (some y)) (hv : σ[i]? = some (some v)) (hn : ∀ u, (u, A.loc i) ∉ τ) : Stt K c S H σ (ρ.set i none) ((v, y) :: τ) := by
  have hy := isLoc_of (s.env.get h).2
  refine ⟨?_, s.env.put (fun _ e => nomatch e), fun v' j m => ?_, s.le, s.r, s.new, s.up, s.os⟩
  · obtain ⟨fp, h1, h2, h3⟩ := s.own
    have p : (envP ρ σ ++ tmpP τ).Perm (envP (ρ.set i none) σ ++ tmpP ((v, y) :: τ)) := by
      rw [tmpP_cons hy]
      exact (List.Perm.append_right _ (envP_take h hv)).trans List.perm_middle.symm
    obtain ⟨fq, q1, q2⟩ := RepP.perm p h1
    exact ⟨fq, q1, q2.nodup_iff.mp h2, fun a ha => h3 a (q2.symm.subset ha)⟩
  · rcases List.mem_cons.mp m with q | q
    · injection q with q1 q2; subst q2; cases hy
    · obtain ⟨z1, z2, z3⟩ := s.loc v' j q
      have ne : i ≠ j := fun e => hn v' (e ▸ q)
      exact ⟨z1, z2, by rw [List.getElem?_set_ne ne]; exact z3⟩
/-- .. and put back, or another thing of the same value -/
theorem Stt.putSlot (s : Stt K c S H σ ρ ((v, y) :: τ)) (h : ρ[i]? = some none) (hv : σ[i]? = some (some v)) (hy : isLoc y = false) : Stt K c S H σ (ρ.set i (some y)) τ := by
  refine ⟨?_, s.env.put (fun z e => by cases e; exact ⟨⟨v, hv⟩, not_loc hy⟩), fun v' j m => ?_, s.le, s.r, s.new, s.up, s.os⟩
  · obtain ⟨fp, h1, h2, h3⟩ := s.own
    have p : (envP ρ σ ++ tmpP ((v, y) :: τ)).Perm (envP (ρ.set i (some y)) σ ++ tmpP τ) := by
      rw [tmpP_cons hy]
      have q := envP_some (ρ := ρ) (σ := σ) (i := i) (y := y) (v := v) (lt_of_get h) hv
      rw [set_self h] at q
      exact List.perm_middle.trans (List.Perm.append_right _ q.symm)
    obtain ⟨fq, q1, q2⟩ := RepP.perm p h1
    exact ⟨fq, q1, q2.nodup_iff.mp h2, fun a ha => h3 a (q2.symm.subset ha)⟩
  · obtain ⟨z1, z, z2⟩ := s.loc v' j (List.mem_cons_of_mem _ m)
    by_cases e : i = j
    · subst e; exact ⟨z1, y, by rw [List.getElem?_set_self (lt_of_get h)]⟩
    · exact ⟨z1, z, by rw [List.getElem?_set_ne e]; exact z2⟩
/-- a slot's thing is exchanged for what is done with it -/
theorem Stt.slotTo {S' H' : Hp} {y' : A} (s : Stt K c S H σ ρ τ) (h : ρ[i]? = some (some y)) (hv : σ[i]? = some (some v))
    (step : ∀ g f, RepA K S H y v g → RepP K S H (envP (ρ.set i none) σ ++ tmpP τ) f → (g ++ f).Nodup → (∀ a ∈ g ++ f, S a = none ∧ c.R a = none) →
      ∃ g', RepA K S' H' y' v g' ∧ (g' ++ f).Nodup ∧ (∀ a ∈ g' ++ f, S' a = none ∧ c.R a = none) ∧ (∀ a ∈ f, H' a = H a) ∧ Same S S' ∧ Le S' H' ∧ Same c.R H' ∧ ∀ a, c.R a ≠ none → S' a = c.S0 a)
    (hy : isLoc y' = false) : Stt K c S' H' σ (ρ.set i (some y')) τ := by
  obtain ⟨fp, h1, h2, h3⟩ := s.own
  have p : (envP ρ σ ++ tmpP τ).Perm ((v, y) :: (envP (ρ.set i none) σ ++ tmpP τ)) := List.Perm.append_right _ (envP_take h hv)
  obtain ⟨fq, q1, q2⟩ := RepP.perm p h1
  obtain ⟨g, f, a1, a2, a3⟩ := q1
  subst a3
  obtain ⟨g', b1, b2, b3, b4, b5, b6, b7, b8⟩ := step g f a1 a2 (q2.nodup_iff.mp h2) (fun a ha => h3 a (q2.symm.subset ha))
  have p2 : ((v, y') :: (envP (ρ.set i none) σ ++ tmpP τ)).Perm (envP (ρ.set i (some y')) σ ++ tmpP τ) := List.Perm.append_right _ (envP_some (lt_of_get h) hv).symm
  obtain ⟨fr, c1, c2⟩ := RepP.perm p2 (show RepP K S' H' ((v, y') :: (envP (ρ.set i none) σ ++ tmpP τ)) (g' ++ f) from ⟨g', f, b1, a2.keep b5 b4, rfl⟩)
  refine ⟨⟨fr, c1, c2.nodup_iff.mp b2, fun a ha => b3 a (c2.symm.subset ha)⟩, s.env.put (fun z e => by cases e; exact ⟨⟨v, hv⟩, not_loc hy⟩), fun v' j m => ?_, b6, b7, b8, fun a o e => b5 a o (s.up a o e), s.os⟩
  obtain ⟨z1, z, z2⟩ := s.loc v' j m
  by_cases e : i = j
  · subst e; exact ⟨z1, y', by rw [List.getElem?_set_self (lt_of_get h)]⟩
  · exact ⟨z1, z, by rw [List.getElem?_set_ne e]; exact z2⟩
/-- a slot's thing becomes shared -/
theorem Stt.freezeSlot (s : Stt K c S H σ ρ τ) (h : ρ[i]? = some (some y)) : ∃ S', Same S S' ∧ Stt K c S' H σ (ρ.set i (some (.v y.toD))) τ := by
  obtain ⟨⟨v, hv⟩, hy⟩ := s.env.get h
  obtain ⟨fp, h1, h2, h3⟩ := s.own
  have p : (envP ρ σ ++ tmpP τ).Perm ((v, y) :: (envP (ρ.set i none) σ ++ tmpP τ)) := List.Perm.append_right _ (envP_take h hv)
  obtain ⟨fq, q1, q2⟩ := RepP.perm p h1
  obtain ⟨g, f, a1, a2, a3⟩ := q1
  refine ⟨addF S H g, addF_same fun a ha => (h3 a (q2.symm.subset (by rw [a3]; exact List.mem_append_left _ ha))).1, s.slotTo (y' := .v y.toD) h hv (fun g' f' b1 b2 nd b3 => ?_) rfl⟩
  have eg : g' = g := RepA.fp_eq y v g' g b1 a1
  subst eg
  have hg : ∀ a ∈ g', S a = none := fun a ha => (b3 a (List.mem_append_left _ ha)).1
  have sm : Same S (addF S H g') := addF_same hg
  refine ⟨[], ?_, by simpa using (List.nodup_append.mp nd).2.1, fun a ha => ?_, fun _ _ => rfl, sm, addF_le s.le, s.r, fun a ha => ?_⟩
  · exact RepA.ofv (b1.plain (Le.of_same sm) y v g' fun a ha o e => by rw [addF_in ha]; exact e)
  · have ha : a ∈ f' := by simpa using ha
    have ng : a ∉ g' := fun z => (List.nodup_append.mp nd).2.2 a z a ha rfl
    exact ⟨by rw [addF_out ng]; exact (b3 a (List.mem_append_right _ ha)).1, (b3 a (List.mem_append_right _ ha)).2⟩
  · have ng : a ∉ g' := fun z => ha (b3 a (List.mem_append_left _ z)).2
    rw [addF_out ng]; exact s.new a ha
end
end Vs

set_option Elab.async false
set_option linter.all false
set_option maxRecDepth 100000
set_option maxHeartbeats 1000000
/-! Vs: promises on plain data, a call. -/
namespace Vs
open PySem L2
/-! ### what is wanted -/
abbrev AX := Addr → List (Str × D) → AEnv → Prop
abbrev AK := A → AEnv → Prop
abbrev AE := AX → AEnv → AK → Prop
abbrev AT := AX → AEnv → (Bool → AEnv → Prop) → Prop
abbrev AA := AX → AEnv → (List A → AEnv → Prop) → Prop
structure AEnds where
  nx : AEnv → Prop
  rt : A → AEnv → Prop
  bk : AEnv → Prop
  ct : AEnv → Prop
  ex : AX
abbrev AS := AEnds → AEnv → Prop
/-- what an exception's own dict tells -/
def XD (K : Fg) (S H : Hp) (dd : Option Addr) (fs : List (Str × D)) : Prop := (fs = [] ∧ dd = none) ∨ ∃ d ws, dd = some d ∧ H d = some (.xd ws) ∧ RepF K S fs ws
def XOk (K : Fg) (c : Ctx) (W : WX) (EA : AX) : Prop := ∀ S H σ ρ C fs dd, Stt K c S H σ ρ [] → XD K S H dd fs → EA C fs ρ → W (.ref C) dd σ H
/-- what follows an expression -/
def KE (K : Fg) (c : Ctx) (σ : L2.St) (τ : List (V × A)) (Q : AK) : VK := fun v H => ∃ S ρ x, Stt K c S H σ ρ ((v, x) :: τ) ∧ Q x ρ
def KT (K : Fg) (c : Ctx) (σ : L2.St) (τ : List (V × A)) (Q : Bool → AEnv → Prop) : Bool → Hp → Prop := fun b H => ∃ S ρ, Stt K c S H σ ρ τ ∧ Q b ρ
def KA (K : Fg) (c : Ctx) (σ : L2.St) (τ : List (V × A)) (Q : List A → AEnv → Prop) : List V → Hp → Prop := fun vs H => ∃ S ρ xs, vs.length = xs.length ∧ Stt K c S H σ ρ (vs.zip xs ++ τ) ∧ Q xs ρ
/-- the wish about exceptions; the slots that are never stored to -/
structure Pm where
  W : WX
  O : List Nat
def OsIn (c : Ctx) (O : List Nat) : Prop := (∀ p ∈ c.os, p.1 ∈ O) ∧ ∀ j ∈ O, ∃ v, (j, v) ∈ c.os
def SimE (K : Fg) (P : Pm) (te : TE) (ae : AE) : Prop := ∀ c EA, OsIn c P.O → XOk K c P.W EA → ∀ τ S H σ ρ Q (R : VK), Stt K c S H σ ρ τ → ae EA ρ Q → (∀ v H', KE K c σ τ Q v H' → R v H') → te σ H R
def SimT (K : Fg) (P : Pm) (tt : TT) (at_ : AT) : Prop := ∀ c EA, OsIn c P.O → XOk K c P.W EA → ∀ τ S H σ ρ Q (R : Bool → Hp → Prop), Stt K c S H σ ρ τ → at_ EA ρ Q → (∀ b H', KT K c σ τ Q b H' → R b H') → tt σ H R
def SimA (K : Fg) (P : Pm) (ta : TA) (aa : AA) : Prop := ∀ c EA, OsIn c P.O → XOk K c P.W EA → ∀ τ S H σ ρ Q (R : List V → Hp → Prop), Stt K c S H σ ρ τ → aa EA ρ Q → (∀ vs H', KA K c σ τ Q vs H' → R vs H') → ta σ H R
/-- the ends of a statement -/
structure Link (K : Fg) (c : Ctx) (D : Ends) (DA : AEnds) : Prop where
  nx : ∀ S H σ ρ, Stt K c S H σ ρ [] → DA.nx ρ → D.nx σ H
  rt : ∀ S H σ ρ v x, Stt K c S H σ ρ [(v, x)] → isLoc x = false → DA.rt x ρ → D.rt v H
  bk : ∀ S H σ ρ, Stt K c S H σ ρ [] → DA.bk ρ → D.bk σ H
  ct : ∀ S H σ ρ, Stt K c S H σ ρ [] → DA.ct ρ → D.ct σ H
def SimS (K : Fg) (P : Pm) (ts : TS) (as : AS) : Prop := ∀ c D DA, OsIn c P.O → XOk K c P.W DA.ex → Link K c D DA → ∀ S H σ ρ, Stt K c S H σ ρ [] → as DA ρ → ts D σ H

/-! ### promises -/
structure ASp where
  pre : List A → Prop
  post : List A → A → List A → Prop
  exc : List A → Addr → List (Str × D) → List A → Prop := fun _ _ _ _ => False
def lift (K : Fg) (sp : ASp) : Sp := fun vs H Q E => ∃ (c : Ctx) (S : Hp) (xs : List A), vs.length = xs.length ∧ c.os = [] ∧ Stt K c S H (vs.map some) (xs.map some) [] ∧ Same c.S0 S ∧ Same S c.S0 ∧ sp.pre xs ∧
  (∀ r xs' v H' S', sp.post xs r xs' → vs.length = xs'.length → isLoc r = false → Stt K c S' H' (vs.map some) (xs'.map some) [(v, r)] → Q v H') ∧
  (∀ C fs xs' dd H' S', sp.exc xs C fs xs' → vs.length = xs'.length → Stt K c S' H' (vs.map some) (xs'.map some) [] → XD K S' H' dd fs → E (.ref C) dd H')

theorem lift_mono {K : Fg} {sp : ASp} {vs : List V} {H : Hp} {Q Q' : VK} {E E' : XK} (h : lift K sp vs H Q E) (hq : ∀ v H, Q v H → Q' v H) (he : ∀ a b H, E a b H → E' a b H) : lift K sp vs H Q' E' := by
  obtain ⟨c, S, xs, h1, h2, h3, h4, h5, h6, h7, h8⟩ := h
  exact ⟨c, S, xs, h1, h2, h3, h4, h5, h6, fun r xs' v H' S' a b d e => hq _ _ (h7 r xs' v H' S' a b d e), fun C fs xs' dd H' S' a b d e => he _ _ _ (h8 C fs xs' dd H' S' a b d e)⟩
/-! ### how arguments are passed: an owned thing is handed over, and handed back -/
def pass : List A → AEnv → Option (List A × AEnv)
  | [], ρ => some ([], ρ)
  | .loc i :: xs, ρ => (match ρ[i]? with
    | some (some y) => (match pass xs (ρ.set i none) with
      | some (ys, ρ') => some (y :: ys, ρ')
      | none => none)
    | _ => none)
  | x :: xs, ρ => (match pass xs ρ with
    | some (ys, ρ') => some (x :: ys, ρ')
    | none => none)
/-- what was handed over comes back -/
def give : List A → List A → AEnv → AEnv
  | .loc i :: xs, y :: ys, ρ => give xs ys (ρ.set i (some y))
  | _ :: xs, _ :: ys, ρ => give xs ys ρ
  | _, _, ρ => ρ
/-! ### a call -/
theorem zip_some : ∀ {vs : List V} {xs : List A}, vs.length = xs.length → envP (xs.map some) (vs.map some) = vs.zip xs
  | [], [], _ => rfl
  | [], _ :: _, h => by simp at h
  | _ :: _, [], h => by simp at h
  | v :: vs, x :: xs, h => by
    simp only [List.map_cons, envP, List.zip_cons_cons]
    rw [zip_some (by simpa using h)]
theorem envOk_some : ∀ {vs : List V} {xs : List A}, vs.length = xs.length → (∀ x ∈ xs, isLoc x = false) → EnvOk (xs.map some) (vs.map some)
  | [], [], _, _ => rfl
  | [], _ :: _, h, _ => by simp at h
  | _ :: _, [], h, _ => by simp at h
  | v :: vs, x :: xs, h, hx => ⟨some v, vs.map some, rfl, fun y e => by
      have e2 : x = y := Option.some.inj e
      exact ⟨⟨v, rfl⟩, e2 ▸ not_loc (hx x (by simp))⟩, envOk_some (by simpa using h) fun y hy => hx y (by simp [hy])⟩
theorem EnvOk.noloc : ∀ {xs : List A} {σ : L2.St}, EnvOk (xs.map some) σ → ∀ x ∈ xs, isLoc x = false
  | [], _, _, x, hx => by simp at hx
  | y :: xs, σ, h, x, hx => by
    obtain ⟨w, r, rfl, h1, h2⟩ := h
    rcases List.mem_cons.mp hx with e | e
    · rw [e]; exact isLoc_of (h1 y rfl).2
    · exact EnvOk.noloc h2 x e
/-- S without some cells -/
def cutF (S : Hp) (fp : List Addr) : Hp := fun a => if a ∈ fp then none else S a
section
variable {K : Fg} {c : Ctx} {S H : Hp} {σ : L2.St} {ρ : AEnv} {τ : List (V × A)}
theorem cutF_in {fp : List Addr} {a : Addr} (h : a ∈ fp) : cutF S fp a = none := if_pos h
theorem cutF_out {fp : List Addr} {a : Addr} (h : a ∉ fp) : cutF S fp a = S a := if_neg h
theorem RepP.noloc : ∀ {vs : List V} {xs : List A} {fp : List Addr}, vs.length = xs.length → RepP K S H (vs.zip xs) fp → ∀ x ∈ xs, isLoc x = false
  | [], [], _, _, _, x, hx => by simp at hx
  | [], _ :: _, _, h, _, _, _ => by simp at h
  | _ :: _, [], _, h, _, _, _ => by simp at h
  | v :: vs, y :: xs, fp, hl, h, x, hx => by
    obtain ⟨g, f, h1, h2, _⟩ := h
    rcases List.mem_cons.mp hx with e | e
    · rw [e]
      cases y <;> first | rfl | (simp only [RepA] at h1)
    · exact RepP.noloc (by simpa using hl) h2 x e
theorem pass_len : ∀ {xs : List A} {ρ ρ' : AEnv} {ys : List A}, pass xs ρ = some (ys, ρ') → ys.length = xs.length
  | [], ρ, ρ', ys, h => by
    simp only [pass] at h
    injection h with h3
    injection h3 with h4 h5
    rw [← h4]
  | x :: xs, ρ, ρ', ys, h => by
    cases hx : isLoc x with
    | false =>
      have e : pass (x :: xs) ρ = (match pass xs ρ with
        | some (ys, ρ') => some (x :: ys, ρ')
        | none => none) := by cases x <;> first | rfl | cases hx
      rw [e] at h
      cases q : pass xs ρ with
      | none => rw [q] at h; cases h
      | some z =>
        obtain ⟨zs, ρ1⟩ := z
        rw [q] at h
        injection h with h3
        injection h3 with h4 h5
        rw [← h4]
        simp [pass_len q]
    | true =>
      cases x with
      | loc i =>
        cases hy : ρ[i]? with
        | none => simp [pass, hy] at h
        | some o =>
          cases o with
          | none => simp [pass, hy] at h
          | some y =>
            simp only [pass, hy] at h
            cases q : pass xs (ρ.set i none) with
            | none => rw [q] at h; cases h
            | some z =>
              obtain ⟨zs, ρ1⟩ := z
              rw [q] at h
              injection h with h3
              injection h3 with h4 h5
              rw [← h4]
              simp [pass_len q]
      | _ => cases hx
/-- the things: what is handed over, and the rest -/
theorem pass_perm : ∀ {xs : List A} {vs : List V} {ρ ρ' : AEnv} {ys : List A}, vs.length = xs.length → pass xs ρ = some (ys, ρ') → (∀ v i, (v, A.loc i) ∈ vs.zip xs → σ[i]? = some (some v)) →
    (envP ρ σ ++ tmpP (vs.zip xs)).Perm (vs.zip ys ++ envP ρ' σ)
  | [], vs, ρ, ρ', ys, hl, h, _ => by
    have e : vs = [] := by simpa using hl
    subst e
    simp only [pass] at h
    injection h with h3
    injection h3 with h4 h5
    subst h4 h5
    simp [tmpP]
  | x :: xs, [], ρ, ρ', ys, hl, h, _ => by simp at hl
  | x :: xs, v :: vs, ρ, ρ', ys, hl, h, hs => by
    have hl' : vs.length = xs.length := by simpa using hl
    have hs' : ∀ v i, (v, A.loc i) ∈ vs.zip xs → σ[i]? = some (some v) := fun v i q => hs v i (by simp [q])
    cases hx : isLoc x with
    | false =>
      have e : pass (x :: xs) ρ = (match pass xs ρ with
        | some (ys, ρ') => some (x :: ys, ρ')
        | none => none) := by cases x <;> first | rfl | cases hx
      rw [e] at h
      cases q : pass xs ρ with
      | none => rw [q] at h; cases h
      | some z =>
        obtain ⟨zs, ρ1⟩ := z
        rw [q] at h
        injection h with h3
        injection h3 with h4 h5
        subst h4 h5
        have ih := pass_perm hl' q hs'
        rw [List.zip_cons_cons, tmpP_cons hx, List.zip_cons_cons]
        exact List.perm_middle.trans (List.Perm.cons _ ih)
    | true =>
      cases x with
      | loc i =>
        have hv : σ[i]? = some (some v) := hs v i (by simp)
        rw [List.zip_cons_cons, tmpP_loc]
        cases hy : ρ[i]? with
        | none => simp [pass, hy] at h
        | some o =>
          cases o with
          | none => simp [pass, hy] at h
          | some y =>
            simp only [pass, hy] at h
            cases q : pass xs (ρ.set i none) with
            | none => rw [q] at h; cases h
            | some z =>
              obtain ⟨zs, ρ1⟩ := z
              rw [q] at h
              injection h with h3
              injection h3 with h4 h5
              subst h4 h5
              have ih := pass_perm hl' q hs'
              rw [List.zip_cons_cons]
              exact (List.Perm.append_right _ (envP_take hy hv)).trans (List.Perm.cons _ ih)
      | _ => cases hx
theorem getElem?_none_set {ρ : AEnv} {i j : Nat} (h : ρ[j]? = some none) : (ρ.set i none)[j]? = some none := by
  by_cases e : i = j
  · subst e; rw [List.getElem?_set_self (lt_of_get h)]
  · rw [List.getElem?_set_ne e]; exact h
/-- a slot that is empty stays so while others are handed over -/
theorem pass_keep : ∀ {xs : List A} {ρ ρ' : AEnv} {ys : List A}, pass xs ρ = some (ys, ρ') → ρ'.length = ρ.length ∧ (∀ j : Nat, ρ[j]? = some none → ρ'[j]? = some none) ∧ (∀ i : Nat, A.loc i ∈ xs → ρ'[i]? = some none) ∧
    (∀ j : Nat, A.loc j ∉ xs → ρ'[j]? = ρ[j]?) ∧ ∀ {σ : L2.St}, EnvOk ρ σ → EnvOk ρ' σ
  | [], ρ, ρ', ys, h => by
    simp only [pass] at h
    injection h with h3
    injection h3 with h4 h5
    subst h5
    exact ⟨rfl, fun _ q => q, fun _ q => by simp at q, fun _ _ => rfl, fun q => q⟩
  | x :: xs, ρ, ρ', ys, h => by
    cases hx : isLoc x with
    | false =>
      have e : pass (x :: xs) ρ = (match pass xs ρ with
        | some (ys, ρ') => some (x :: ys, ρ')
        | none => none) := by cases x <;> first | rfl | cases hx
      rw [e] at h
      cases q : pass xs ρ with
      | none => rw [q] at h; cases h
      | some z =>
        obtain ⟨zs, ρ1⟩ := z
        rw [q] at h
        injection h with h3
        injection h3 with h4 h5
        subst h5
        obtain ⟨a1, a2, a3, a4, a5⟩ := pass_keep q
        refine ⟨a1, a2, fun i m => ?_, fun j m => a4 j fun z => m (List.mem_cons_of_mem _ z), a5⟩
        rcases List.mem_cons.mp m with z | z
        · rw [← z] at hx; cases hx
        · exact a3 i z
    | true =>
      cases x with
      | loc i =>
        cases hy : ρ[i]? with
        | none => simp [pass, hy] at h
        | some o =>
          cases o with
          | none => simp [pass, hy] at h
          | some y =>
            simp only [pass, hy] at h
            cases q : pass xs (ρ.set i none) with
            | none => rw [q] at h; cases h
            | some z =>
              obtain ⟨zs, ρ1⟩ := z
              rw [q] at h
              injection h with h3
              injection h3 with h4 h5
              subst h5
              obtain ⟨a1, a2, a3, a4, a5⟩ := pass_keep q
              refine ⟨by simpa using a1, fun j hj => a2 j (getElem?_none_set hj), fun j m => ?_, fun j m => ?_, fun he => a5 (he.put fun _ z => nomatch z)⟩
              · rcases List.mem_cons.mp m with z | z
                · injection z with z; subst z
                  exact a2 j (by rw [List.getElem?_set_self (lt_of_get hy)])
                · exact a3 j z
              · have nj : i ≠ j := fun z => m (by simp [z])
                rw [a4 j fun z => m (List.mem_cons_of_mem _ z), List.getElem?_set_ne nj]
      | _ => cases hx
/-- no slot is handed over twice -/
theorem pass_nodup : ∀ {xs : List A} {ρ ρ' : AEnv} {ys : List A}, pass xs ρ = some (ys, ρ') → ∀ i, ρ[i]? = some none → A.loc i ∉ xs
  | [], ρ, ρ', ys, h, i, _ => by simp
  | x :: xs, ρ, ρ', ys, h, i, hi => by
    cases hx : isLoc x with
    | false =>
      have e : pass (x :: xs) ρ = (match pass xs ρ with
        | some (ys, ρ') => some (x :: ys, ρ')
        | none => none) := by cases x <;> first | rfl | cases hx
      rw [e] at h
      cases q : pass xs ρ with
      | none => rw [q] at h; cases h
      | some z =>
        intro m
        rcases List.mem_cons.mp m with z' | z'
        · rw [← z'] at hx; cases hx
        · exact pass_nodup (ρ' := z.2) (ys := z.1) q i hi z'
    | true =>
      cases x with
      | loc j =>
        cases hy : ρ[j]? with
        | none => simp [pass, hy] at h
        | some o =>
          cases o with
          | none => simp [pass, hy] at h
          | some y =>
            simp only [pass, hy] at h
            cases q : pass xs (ρ.set j none) with
            | none => rw [q] at h; cases h
            | some z =>
              intro m
              rcases List.mem_cons.mp m with z' | z'
              · injection z' with z'; subst z'; rw [hi] at hy; cases hy
              · exact pass_nodup (ρ' := z.2) (ys := z.1) q i (getElem?_none_set hi) z'
      | _ => cases hx
/-- the passed things that stand in no slot, as they are in the end -/
def backT : List A → List V → List A → List (V × A)
  | .loc _ :: xs, _ :: vs, _ :: ys => backT xs vs ys
  | _ :: xs, v :: vs, y :: ys => (v, y) :: backT xs vs ys
  | _, _, _ => []
theorem backT_cons {x y : A} {v : V} {xs ys : List A} {vs : List V} (h : isLoc x = false) : backT (x :: xs) (v :: vs) (y :: ys) = (v, y) :: backT xs vs ys := by
  cases x <;> first | rfl | cases h
/-- back: the things again -/
theorem give_perm : ∀ {xs : List A} {vs : List V} {ρ : AEnv} {ys : List A}, vs.length = xs.length → vs.length = ys.length → (∀ v i, (v, A.loc i) ∈ vs.zip xs → σ[i]? = some (some v)) → (∀ i, A.loc i ∈ xs → ρ[i]? = some none) → (xs.filter isLoc).Nodup →
    (vs.zip ys ++ envP ρ σ).Perm (backT xs vs ys ++ envP (give xs ys ρ) σ)
  | [], vs, ρ, ys, hl, hl2, _, _, _ => by
    have e : vs = [] := by simpa using hl
    subst e
    have e2 : give [] ys ρ = ρ := by cases ys <;> rfl
    rw [e2]
    simp [backT]
  | x :: xs, [], ρ, ys, hl, hl2, _, _, _ => by simp at hl
  | x :: xs, v :: vs, ρ, [], hl, hl2, _, _, _ => by simp at hl2
  | x :: xs, v :: vs, ρ, y :: ys, hl, hl2, hs, hn, hd => by
    have hl' : vs.length = xs.length := by simpa using hl
    have hl2' : vs.length = ys.length := by simpa using hl2
    have hs' : ∀ v i, (v, A.loc i) ∈ vs.zip xs → σ[i]? = some (some v) := fun v i q => hs v i (by simp [q])
    cases hx : isLoc x with
    | false =>
      have e : give (x :: xs) (y :: ys) ρ = give xs ys ρ := by cases x <;> first | rfl | cases hx
      rw [e, backT_cons hx, List.zip_cons_cons]
      rw [List.filter_cons_of_neg (by rw [hx]; exact Bool.false_ne_true)] at hd
      exact List.Perm.cons _ (give_perm hl' hl2' hs' (fun i m => hn i (List.mem_cons_of_mem _ m)) hd)
    | true =>
      cases x with
      | loc i =>
        have hv : σ[i]? = some (some v) := hs v i (by simp)
        have hi : ρ[i]? = some none := hn i (by simp)
        have hd' : A.loc i ∉ xs ∧ (xs.filter isLoc).Nodup := by
          rw [List.filter_cons_of_pos (by exact hx)] at hd
          obtain ⟨d1, d2⟩ := List.nodup_cons.mp hd
          exact ⟨fun m => d1 (List.mem_filter.mpr ⟨m, rfl⟩), d2⟩
        have hn' : ∀ j, A.loc j ∈ xs → (ρ.set i (some y))[j]? = some none := fun j m => by
          have ne : i ≠ j := fun z => hd'.1 (z ▸ m)
          rw [List.getElem?_set_ne ne]
          exact hn j (List.mem_cons_of_mem _ m)
        have ih := give_perm (ρ := ρ.set i (some y)) hl' hl2' hs' hn' hd'.2
        have p : (envP (ρ.set i (some y)) σ).Perm ((v, y) :: envP ρ σ) := by
          have q := envP_some (ρ := ρ) (σ := σ) (i := i) (y := y) (v := v) (lt_of_get hi) hv
          rwa [set_self hi] at q
        show ((v, y) :: (vs.zip ys ++ envP ρ σ)).Perm (backT xs vs ys ++ envP (give xs ys (ρ.set i (some y))) σ)
        exact (List.perm_middle.symm.trans (List.Perm.append_left _ p.symm)).trans ih
      | _ => cases hx
theorem give_ok : ∀ {xs : List A} {vs : List V} {ρ : AEnv} {ys : List A}, vs.length = xs.length → vs.length = ys.length → (∀ v i, (v, A.loc i) ∈ vs.zip xs → σ[i]? = some (some v)) → (∀ i, A.loc i ∈ xs → ρ[i]? = some none) → (xs.filter isLoc).Nodup → (∀ y ∈ ys, isLoc y = false) →
    EnvOk ρ σ → EnvOk (give xs ys ρ) σ ∧ (∀ (j : Nat) y, ρ[j]? = some (some y) → (give xs ys ρ)[j]? = some (some y)) ∧ ∀ i : Nat, A.loc i ∈ xs → ∃ y, (give xs ys ρ)[i]? = some (some y)
  | [], vs, ρ, ys, hl, hl2, _, _, _, _, he => by
    have e : give [] ys ρ = ρ := by cases ys <;> rfl
    rw [e]
    exact ⟨he, fun _ _ q => q, fun _ q => by simp at q⟩
  | x :: xs, [], ρ, ys, hl, hl2, _, _, _, _, he => by simp at hl
  | x :: xs, v :: vs, ρ, [], hl, hl2, _, _, _, _, he => by simp at hl2
  | x :: xs, v :: vs, ρ, y :: ys, hl, hl2, hs, hn, hd, hy, he => by
    have hl' : vs.length = xs.length := by simpa using hl
    have hl2' : vs.length = ys.length := by simpa using hl2
    have hs' : ∀ v i, (v, A.loc i) ∈ vs.zip xs → σ[i]? = some (some v) := fun v i q => hs v i (by simp [q])
    have hy' : ∀ y ∈ ys, isLoc y = false := fun z m => hy z (List.mem_cons_of_mem _ m)
    cases hx : isLoc x with
    | false =>
      have e : give (x :: xs) (y :: ys) ρ = give xs ys ρ := by cases x <;> first | rfl | cases hx
      rw [e]
      rw [List.filter_cons_of_neg (by rw [hx]; exact Bool.false_ne_true)] at hd
      obtain ⟨b4, b5, b6⟩ := give_ok hl' hl2' hs' (fun i m => hn i (List.mem_cons_of_mem _ m)) hd hy' he
      refine ⟨b4, b5, fun i m => ?_⟩
      rcases List.mem_cons.mp m with z | z
      · rw [← z] at hx; cases hx
      · exact b6 i z
    | true =>
      cases x with
      | loc i =>
        have hv : σ[i]? = some (some v) := hs v i (by simp)
        have hi : ρ[i]? = some none := hn i (by simp)
        have hd' : A.loc i ∉ xs ∧ (xs.filter isLoc).Nodup := by
          rw [List.filter_cons_of_pos (by exact hx)] at hd
          obtain ⟨d1, d2⟩ := List.nodup_cons.mp hd
          exact ⟨fun m => d1 (List.mem_filter.mpr ⟨m, rfl⟩), d2⟩
        have hn' : ∀ j, A.loc j ∈ xs → (ρ.set i (some y))[j]? = some none := fun j m => by
          have ne : i ≠ j := fun z => hd'.1 (z ▸ m)
          rw [List.getElem?_set_ne ne]
          exact hn j (List.mem_cons_of_mem _ m)
        obtain ⟨b4, b5, b6⟩ := give_ok hl' hl2' hs' hn' hd'.2 hy' (he.put (o := some y) (i := i) fun z e => by cases e; exact ⟨⟨v, hv⟩, not_loc (hy y (by simp))⟩)
        refine ⟨b4, fun j z hj => b5 j z ?_, fun j m => ?_⟩
        · have ne : i ≠ j := fun q => by subst q; rw [hi] at hj; cases hj
          rw [List.getElem?_set_ne ne]; exact hj
        · rcases List.mem_cons.mp m with z | z
          · injection z with z; subst z
            exact ⟨y, b5 j y (by rw [List.getElem?_set_self (lt_of_get hi)])⟩
          · exact b6 j z
      | _ => cases hx
theorem pass_locs : ∀ {xs : List A} {ρ ρ' : AEnv} {ys : List A}, pass xs ρ = some (ys, ρ') → (xs.filter isLoc).Nodup
  | [], ρ, ρ', ys, h => by simp
  | x :: xs, ρ, ρ', ys, h => by
    cases hx : isLoc x with
    | false =>
      have e : pass (x :: xs) ρ = (match pass xs ρ with
        | some (ys, ρ') => some (x :: ys, ρ')
        | none => none) := by cases x <;> first | rfl | cases hx
      rw [e] at h
      cases q : pass xs ρ with
      | none => rw [q] at h; cases h
      | some z =>
        rw [List.filter_cons_of_neg (by rw [hx]; exact Bool.false_ne_true)]
        exact pass_locs (ρ' := z.2) (ys := z.1) q
    | true =>
      cases x with
      | loc j =>
        cases hy : ρ[j]? with
        | none => simp [pass, hy] at h
        | some o =>
          cases o with
          | none => simp [pass, hy] at h
          | some y =>
            simp only [pass, hy] at h
            cases q : pass xs (ρ.set j none) with
            | none => rw [q] at h; cases h
            | some z =>
              rw [List.filter_cons_of_pos (by exact hx)]
              refine List.nodup_cons.mpr ⟨fun m => ?_, pass_locs (ρ' := z.2) (ys := z.1) q⟩
              exact pass_nodup (ρ' := z.2) (ys := z.1) q j (by rw [List.getElem?_set_self (lt_of_get hy)]) (List.mem_filter.mp m).1
      | _ => cases hx

/-- THE CALL -/
def callA (sp : ASp) (xs : List A) : AE := fun EA ρ Q => ∃ ys ρ', pass xs ρ = some (ys, ρ') ∧ sp.pre ys ∧ (∀ r ys', sp.post ys r ys' → ys'.length = ys.length → Q r (give xs ys' ρ')) ∧ ∀ C fs ys', sp.exc ys C fs ys' → ys'.length = ys.length → EA C fs (give xs ys' ρ')
theorem call_core {xs ys : List A} {vs : List V} {ρ' : AEnv} (hl : vs.length = xs.length) (s : Stt K c S H σ ρ (vs.zip xs ++ τ)) (hp : pass xs ρ = some (ys, ρ')) :
    ∃ c' : Ctx, c'.os = [] ∧ c'.S0 = S ∧ vs.length = ys.length ∧ Stt K c' S H (vs.map some) (ys.map some) [] ∧
      ∀ {H' S' : Hp} {ys' : List A} {τ' : List (V × A)}, ys'.length = ys.length → (∀ p ∈ τ', isLoc p.2 = false) → Stt K c' S' H' (vs.map some) (ys'.map some) τ' → Stt K c S' H' σ (give xs ys' ρ') (τ' ++ (backT xs vs ys' ++ τ)) := by
  obtain ⟨fp, h1, h2, h3⟩ := s.own
  have hlen : ys.length = xs.length := pass_len hp
  have hlv : vs.length = ys.length := hl.trans hlen.symm
  have hs : ∀ v i, (v, A.loc i) ∈ vs.zip xs → σ[i]? = some (some v) := fun v i m => (s.loc v i (List.mem_append_left _ m)).1
  obtain ⟨k1, k2, k3, k4, k5⟩ := pass_keep hp
  have he' : EnvOk ρ' σ := k5 s.env
  have p : (envP ρ σ ++ tmpP (vs.zip xs ++ τ)).Perm (vs.zip ys ++ (envP ρ' σ ++ tmpP τ)) := by
    have e : tmpP (vs.zip xs ++ τ) = tmpP (vs.zip xs) ++ tmpP τ := List.filter_append ..
    rw [e, ← List.append_assoc, ← List.append_assoc]
    exact List.Perm.append_right _ (pass_perm hl hp hs)
  obtain ⟨fq, q1, q2⟩ := RepP.perm p h1
  obtain ⟨fh, fr, r1, r2, r3⟩ := q1.append
  subst r3
  have nd : (fh ++ fr).Nodup := q2.nodup_iff.mp h2
  have h3' : ∀ a ∈ fh ++ fr, S a = none ∧ c.R a = none := fun a ha => h3 a (q2.symm.subset ha)
  have dj : ∀ a ∈ fh, a ∉ fr := fun a ha hb => (List.nodup_append.mp nd).2.2 a ha a hb rfl
  let c' : Ctx := ⟨cutF H fh, S, []⟩
  have nl : ∀ x ∈ ys, isLoc x = false := RepP.noloc hlv r1
  have s0 : Stt K c' S H (vs.map some) (ys.map some) [] := by
    refine ⟨⟨fh, ?_, (List.nodup_append.mp nd).1, fun a ha => ⟨(h3' a (List.mem_append_left _ ha)).1, cutF_in ha⟩⟩, envOk_some hlv nl, fun _ _ m => by simp at m, s.le, fun a o e => ?_, fun _ _ => rfl, Same.refl S, fun p m => by cases m⟩
    · rw [zip_some hlv]
      simpa [tmpP] using r1
    · by_cases q : a ∈ fh
      · rw [show c'.R a = none from cutF_in q] at e; cases e
      · rw [show c'.R a = H a from cutF_out q] at e; exact e
  refine ⟨c', rfl, rfl, hlv, s0, ?_⟩
  intro H' S' ys' τ' hl' hτ s'
  obtain ⟨gp, g1, g2, g3⟩ := s'.own
  have hlv' : vs.length = ys'.length := hlv.trans hl'.symm
  rw [zip_some hlv'] at g1
  have Rfe : ∀ a ∈ fr, cutF H fh a = H a := fun a ha => cutF_out fun z => dj a z ha
  have same : ∀ a ∈ fr, H' a = H a := fun a ha => by
    have th : H a ≠ none := r2.there a ha
    cases e : H a with
    | none => exact absurd e th
    | some o => exact s'.r a o ((Rfe a ha).trans e)
  have Ssame : Same S S' := s'.up
  have none' : ∀ a ∈ fr, S' a = none := fun a ha => by
    have th : H a ≠ none := r2.there a ha
    rw [s'.new a (by rw [show c'.R a = H a from Rfe a ha]; exact th)]
    exact (h3' a (List.mem_append_right _ ha)).1
  have djg : ∀ a ∈ gp, a ∉ fr := fun a ha hb => by
    have z : cutF H fh a = none := (g3 a ha).2
    rw [Rfe a hb] at z
    exact r2.there a hb z
  have RR : ∀ a o, c.R a = some o → cutF H fh a = some o := fun a o e => by
    have na : a ∉ fh := fun z => by rw [(h3' a (List.mem_append_left _ z)).2] at e; cases e
    rw [cutF_out na]; exact s.r a o e
  have inR : ∀ a, cutF H fh a = none → c.R a = none := fun a e => by
    cases z : c.R a with
    | none => rfl
    | some o => rw [RR a o z] at e; cases e
  have v1 : RepP K S' H' (envP ρ' σ ++ tmpP τ) fr := r2.keep Ssame same
  have big : RepP K S' H' ((vs.zip ys' ++ tmpP τ') ++ (envP ρ' σ ++ tmpP τ)) (gp ++ fr) := g1.join v1
  have nl' : ∀ x ∈ ys', isLoc x = false := EnvOk.noloc s'.env
  have gpm := give_perm (σ := σ) (ρ := ρ') hl hlv' hs (fun i m => k3 i m) (pass_locs hp)
  obtain ⟨w4, w5, w6⟩ := give_ok (σ := σ) (ρ := ρ') hl hlv' hs (fun i m => k3 i m) (pass_locs hp) nl' he'
  have tb : tmpP (backT xs vs ys') = backT xs vs ys' := by
    have : ∀ p ∈ backT xs vs ys', isLoc p.2 = false := by
      have key : ∀ (xs : List A) (vs : List V) (zs : List A), (∀ z ∈ zs, isLoc z = false) → ∀ p ∈ backT xs vs zs, isLoc p.2 = false := by
        intro xs
        induction xs with
        | nil => intro vs zs _ p m; simp [backT] at m
        | cons x xs ih =>
          intro vs zs hz p m
          cases vs with
          | nil => cases x <;> simp [backT] at m
          | cons v vs =>
            cases zs with
            | nil => cases x <;> simp [backT] at m
            | cons z zs =>
              cases hx : isLoc x with
              | false =>
                rw [backT_cons hx] at m
                rcases List.mem_cons.mp m with e | e
                · rw [e]; exact hz z (by simp)
                · exact ih vs zs (fun y hy => hz y (List.mem_cons_of_mem _ hy)) p e
              | true =>
                cases x with
                | loc i => exact ih vs zs (fun y hy => hz y (List.mem_cons_of_mem _ hy)) p m
                | _ => cases hx
      exact key xs vs ys' nl'
    refine List.filter_eq_self.mpr fun p m => ?_
    have q := this p m
    obtain ⟨u, z⟩ := p
    cases z <;> first | rfl | cases q
  have etmp : tmpP (τ' ++ (backT xs vs ys' ++ τ)) = tmpP τ' ++ (backT xs vs ys' ++ tmpP τ) := by
    unfold tmpP at tb ⊢
    rw [List.filter_append, List.filter_append, tb]
  have pm : ((vs.zip ys' ++ tmpP τ') ++ (envP ρ' σ ++ tmpP τ)).Perm (envP (give xs ys' ρ') σ ++ tmpP (τ' ++ (backT xs vs ys' ++ τ))) := by
    rw [etmp]
    have a1 : ((vs.zip ys' ++ tmpP τ') ++ (envP ρ' σ ++ tmpP τ)).Perm ((vs.zip ys' ++ envP ρ' σ) ++ (tmpP τ' ++ tmpP τ)) := by
      rw [List.append_assoc, List.append_assoc]
      refine List.Perm.append_left _ ?_
      rw [← List.append_assoc, ← List.append_assoc]
      exact List.Perm.append_right _ List.perm_append_comm
    have a2 := List.Perm.append_right (tmpP τ' ++ tmpP τ) gpm
    have a3 : ((backT xs vs ys' ++ envP (give xs ys' ρ') σ) ++ (tmpP τ' ++ tmpP τ)).Perm (envP (give xs ys' ρ') σ ++ (tmpP τ' ++ (backT xs vs ys' ++ tmpP τ))) := by
      refine (List.Perm.append_right _ List.perm_append_comm).trans ?_
      rw [List.append_assoc]
      refine List.Perm.append_left _ ?_
      rw [← List.append_assoc, ← List.append_assoc]
      exact List.Perm.append_right _ List.perm_append_comm
    exact (a1.trans a2).trans a3
  obtain ⟨fz, z1, z2⟩ := RepP.perm pm big
  have ndb : (gp ++ fr).Nodup := List.nodup_append.mpr ⟨g2, (List.nodup_append.mp nd).2.1, fun a ha b hb e => djg a ha (e ▸ hb)⟩
  refine ⟨⟨fz, z1, z2.nodup_iff.mp ndb, fun a ha => ?_⟩, w4, fun v i m => ?_, s'.le, fun a o e => s'.r a o (RR a o e), fun a ha => ?_, fun a o e => Ssame a o (s.up a o e), s.os⟩
  · rcases List.mem_append.mp (z2.symm.subset ha) with y | y
    · exact ⟨(g3 a y).1, inR a (g3 a y).2⟩
    · exact ⟨none' a y, (h3' a (List.mem_append_right _ y)).2⟩
  · rcases List.mem_append.mp m with z | z
    · have := hτ _ z; cases this
    · rcases List.mem_append.mp z with z | z
      · have tb2 : (v, A.loc i) ∈ tmpP (backT xs vs ys') := by rw [tb]; exact z
        have := (List.mem_filter.mp tb2).2
        cases this
      · obtain ⟨y1, y, y2⟩ := s.loc v i (List.mem_append_right _ z)
        refine ⟨y1, ?_⟩
        by_cases e : A.loc i ∈ xs
        · exact w6 i e
        · exact ⟨y, w5 i y (by rw [k4 i e]; exact y2)⟩
  · have z : cutF H fh a ≠ none := fun e => by
      cases y : c.R a with
      | none => exact ha y
      | some o => rw [RR a o y] at e; cases e
    rw [s'.new a z]; exact s.new a ha
theorem call_sim {sp : ASp} {xs : List A} {vs : List V} {W : WX} {EA : AX} {Q : AK} (hw : XOk K c W EA) (hl : vs.length = xs.length) (s : Stt K c S H σ ρ (vs.zip xs ++ τ)) (h : callA sp xs EA ρ Q) :
    lift K sp vs H (KE K c σ τ Q) (fun cls d H' => W cls d σ H') := by
  obtain ⟨ys, ρ', hp, hpre, hq, hx⟩ := h
  obtain ⟨c', h1, h2, hlv, s0, back⟩ := call_core hl s hp
  refine ⟨c', S, ys, hlv, h1, s0, by rw [h2]; exact Same.refl S, by rw [h2]; exact Same.refl S, hpre, fun r xs' v H' S' hpo hl' hr s' => ?_, fun C fs xs' dd H' S' hex hl' s' hd => ?_⟩
  · have s2 := back (hl'.symm.trans hlv) (τ' := [(v, r)]) (fun p m => by
      have e : p = (v, r) := by simpa using m
      rw [e]; exact hr) s'
    refine ⟨S', give xs xs' ρ', r, ?_, hq r xs' hpo (hl'.symm.trans hlv)⟩
    have s3 : Stt K c S' H' σ (give xs xs' ρ') (backT xs vs xs' ++ ((v, r) :: τ)) := s2.swap (by
      rw [List.cons_append, List.nil_append]
      exact List.perm_middle.symm)
    exact s3.drops
  · have s2 : Stt K c S' H' σ (give xs xs' ρ') (backT xs vs xs' ++ τ) := back (τ' := []) (hl'.symm.trans hlv) (fun p m => by simp at m) s'
    exact hw S' H' σ (give xs xs' ρ') C fs dd (Stt.drops (τ' := []) (ts := backT xs vs xs' ++ τ) (by simpa using s2)) hd (hx C fs xs' hex (hl'.symm.trans hlv))
/-- a new instance is passed first, and is what is made -/
theorem make_lift {C : Addr} {sp : ASp} {W : WX} {EA : AX} {ρ' : AEnv} {vs : List V} {xs ys : List A} {xa : Addr} {Q : AK} {R : VK} (hw : XOk K c W EA) (hl : (V.ref xa :: vs).length = (A.obj C [] :: xs).length)
    (s : Stt K c S H σ ρ ((V.ref xa :: vs).zip (A.obj C [] :: xs) ++ τ)) (hp : pass (A.obj C [] :: xs) ρ = some (A.obj C [] :: ys, ρ')) (hpre : sp.pre (A.obj C [] :: ys))
    (hq : ∀ r zs, sp.post (A.obj C [] :: ys) r zs → zs.length = (A.obj C [] :: ys).length → ∃ y ys', zs = y :: ys' ∧ r = .v .non ∧ Q y (give xs ys' ρ'))
    (hex : ∀ Ce fs zs, sp.exc (A.obj C [] :: ys) Ce fs zs → zs.length = (A.obj C [] :: ys).length → EA Ce fs (give (A.obj C [] :: xs) zs ρ'))
    (kk : ∀ v H', KE K c σ τ Q v H' → R v H') : lift K sp (.ref xa :: vs) H (fun v H2 => v = .non ∧ R (.ref xa) H2) (fun cls d H' => W cls d σ H') := by
  obtain ⟨c', h1, h2, hlv, s0, back⟩ := call_core hl s hp
  refine ⟨c', S, _, hlv, h1, s0, by rw [h2]; exact Same.refl S, by rw [h2]; exact Same.refl S, hpre, fun r xs' v H' S' hpo hl' hr s' => ?_, fun Ce fs xs' dd H' S' hex' hl' s' hd => ?_⟩
  · have s2 := back (hl'.symm.trans hlv) (τ' := [(v, r)]) (fun p m => by
      have e : p = (v, r) := by simpa using m
      rw [e]; exact hr) s'
    obtain ⟨y, ys', rfl, rfl, hQ⟩ := hq r xs' hpo (hl'.symm.trans hlv)
    have rv := s2.data
    simp only [Rep] at rv
    refine ⟨rv, kk _ _ ⟨S', give xs ys' ρ', y, ?_, hQ⟩⟩
    have s3 : Stt K c S' H' σ (give xs ys' ρ') ((V.ref xa, y) :: backT xs vs ys' ++ τ) := s2.drop
    have s4 : Stt K c S' H' σ (give xs ys' ρ') (backT xs vs ys' ++ ((V.ref xa, y) :: τ)) := s3.swap (by
      rw [List.cons_append]
      exact List.perm_middle.symm)
    exact s4.drops
  · have s2 : Stt K c S' H' σ (give (A.obj C [] :: xs) xs' ρ') (backT (A.obj C [] :: xs) (V.ref xa :: vs) xs' ++ τ) := back (τ' := []) (hl'.symm.trans hlv) (fun p m => by simp at m) s'
    exact hw S' H' σ _ Ce fs dd (Stt.drops (τ' := []) (ts := backT (A.obj C [] :: xs) (V.ref xa :: vs) xs' ++ τ) (by simpa using s2)) hd (hex Ce fs xs' hex' (hl'.symm.trans hlv))
end
end Vs

set_option Elab.async false
set_option linter.all false
set_option maxRecDepth 100000
set_option maxHeartbeats 1000000
/-! Vs: rules. -/
namespace Vs
open PySem L2
/-! ### judgements -/
structure QE (X : Cx) (P : Pm) (e : Expr) (ae : AE) : Prop where
  ex : ∃ te, PE X e te ∧ SimE X.K P te ae
structure QT (X : Cx) (P : Pm) (e : Expr) (a : AT) : Prop where
  ex : ∃ t, PT X e t ∧ SimT X.K P t a
structure QW (X : Cx) (P : Pm) (e : Expr) (a : AT) : Prop where
  ex : ∃ t, PW X e t ∧ SimT X.K P t a
structure QA (X : Cx) (P : Pm) (es : List Expr) (a : AA) : Prop where
  ex : ∃ t, PA X es t ∧ SimA X.K P t a
structure QS (X : Cx) (P : Pm) (st : Stmt) (a : AS) : Prop where
  ex : ∃ t, PS X st t ∧ SimS X.K P t a
structure QSs (X : Cx) (P : Pm) (st : List Stmt) (a : AS) : Prop where
  ex : ∃ t, PSs X st t ∧ SimS X.K P t a

/-! ### shared data of a held thing -/
def useA (x : A) (ρ : AEnv) (k : D → AEnv → Prop) : Prop := match x with
  | .loc i => ∃ y, ρ[i]? = some (some y) ∧ k y.toD (ρ.set i (some (.v y.toD)))
  | y => k y.toD ρ
section
variable {K : Fg} {c : Ctx} {S H : Hp} {σ : L2.St} {ρ : AEnv} {τ : List (V × A)} {v : V} {x y : A} {i : Nat}
theorem use_sim {k : D → AEnv → Prop} (s : Stt K c S H σ ρ ((v, x) :: τ)) (h : useA x ρ k) : ∃ S' d ρ', Same S S' ∧ Stt K c S' H σ ρ' ((v, .v d) :: τ) ∧ k d ρ' := by
  cases hx : isLoc x with
  | false =>
    obtain ⟨S', sm, s'⟩ := s.freeze hx
    refine ⟨S', x.toD, ρ, sm, s', ?_⟩
    cases x <;> first | exact h | cases hx
  | true =>
    cases x with
    | loc i =>
      obtain ⟨y, hy, hk⟩ := h
      obtain ⟨S', sm, s'⟩ := s.freezeSlot hy
      have hv : σ[i]? = some (some v) := (s.loc v i (List.mem_cons_self ..)).1
      obtain ⟨v', hv', hr⟩ := s'.slot (i := i) (d := y.toD) (by rw [List.getElem?_set_self (lt_of_get hy)])
      rw [hv] at hv'
      cases hv'
      exact ⟨S', y.toD, _, sm, s'.drop.hold hr, hk⟩
    | _ => cases hx
def usesA : List A → AEnv → (List D → AEnv → Prop) → Prop
  | [], ρ, k => k [] ρ
  | x :: xs, ρ, k => useA x ρ fun d ρ' => usesA xs ρ' fun ds ρ'' => k (d :: ds) ρ''
theorem uses_sim : ∀ {xs : List A} {vs : List V} {S : Hp} {ρ : AEnv} {k : List D → AEnv → Prop}, vs.length = xs.length → Stt K c S H σ ρ (vs.zip xs ++ τ) → usesA xs ρ k → ∃ S' ds ρ', Same S S' ∧ RepL K S' ds vs ∧ Stt K c S' H σ ρ' τ ∧ k ds ρ'
  | [], vs, S, ρ, k, hl, s, h => by
    have e : vs = [] := by simpa using hl
    subst e
    exact ⟨S, [], ρ, Same.refl S, by simp only [RepL], by simpa using s, h⟩
  | x :: xs, [], S, ρ, k, hl, s, h => by simp at hl
  | x :: xs, v :: vs, S, ρ, k, hl, s, h => by
    obtain ⟨S1, d, ρ1, sm, s1, h1⟩ := use_sim (τ := vs.zip xs ++ τ) (by simpa using s) h
    have hr := s1.data
    obtain ⟨S2, ds, ρ2, sm2, r2, s2, h2⟩ := uses_sim (by simpa using hl) s1.drop h1
    exact ⟨S2, d :: ds, ρ2, sm.trans sm2, by simp only [RepL]; exact ⟨v, vs, rfl, Rep.le (Le.of_same sm2) d v hr, r2⟩, s2, h2⟩
end

/-! ### expressions -/
section
variable {X : Cx} {P : Pm} {K : Fg}
def aC (d : D) : AE := fun _ ρ Q => Q (.v d) ρ
def sc : D → Option V
  | .non => some .non
  | .bl b => some (.bl b)
  | .int i => some (.int i)
  | .str x => some (.str x)
  | .ty n => some (.ty n)
  | _ => none
theorem rep_sc {K : Fg} {S : Hp} {d : D} {v : V} (h : sc d = some v) : Rep K S d v := by
  cases d <;> simp only [sc] at h <;> first | (injection h with h; simp only [Rep]; exact h.symm) | cases h
theorem sim_c {d : D} {v : V} (h : sc d = some v) : SimE K P (tC v) (aC d) := fun c EA _ _ τ S H σ ρ Q R s q k => k _ _ ⟨S, ρ, .v d, s.hold (rep_sc h), q⟩
theorem qe_int {i j pos} : QE X P (.Constant (.int i) j pos) (aC (.int i)) := ⟨_, pe_int, sim_c rfl⟩
theorem qe_bl {b j pos} : QE X P (.Constant (.bool b) j pos) (aC (.bl b)) := ⟨_, pe_bl, sim_c rfl⟩
theorem qe_non {j pos} : QE X P (.Constant .none j pos) (aC .non) := ⟨_, pe_non, sim_c rfl⟩
theorem qe_str {x j pos} : QE X P (.Constant (.str x) j pos) (aC (.str x)) := ⟨_, pe_str, sim_c rfl⟩
/-- a module's constant -/
theorem qe_glob {x : Str} {d : D} {v : V} {u : Value} {pos : Pos} (hd : sc d = some v) (hg : Gl X x) (hm : X.mg x = some u) (r : RelV v u) (h : (x == ("__debug__" : Str)) = false := by decide) : QE X P (.Name x pos) (aC d) := ⟨_, pe_glob hg hm r h, sim_c hd⟩
/-- a name's shared datum; what a name holds -/
def aVal (i : Nat) : AE := fun _ ρ Q => ∃ d, ρ[i]? = some (some (.v d)) ∧ Q (.v d) ρ
def aRef (i : Nat) : AE := fun _ ρ Q => (∃ y, ρ[i]? = some (some y)) ∧ Q (.loc i) ρ
theorem sim_val {i : Nat} : SimE K P (tVar i) (aVal i) := fun c EA _ _ τ S H σ ρ Q R s ⟨d, e, q⟩ k => by
  obtain ⟨v, hv, hr⟩ := s.slot e
  exact ⟨v, hv, k _ _ ⟨S, ρ, .v d, s.hold hr, q⟩⟩
theorem Stt.ref {c : Ctx} {S H : Hp} {σ : L2.St} {ρ : AEnv} {τ : List (V × A)} {v : V} {y : A} {i : Nat} (s : Stt K c S H σ ρ τ) (h : ρ[i]? = some (some y)) (hv : σ[i]? = some (some v)) : Stt K c S H σ ρ ((v, .loc i) :: τ) :=
  ⟨s.own, s.env, fun v' j m => by
    rcases List.mem_cons.mp m with q | q
    · injection q with q1 q2
      injection q2 with q2
      subst q1 q2
      exact ⟨hv, y, h⟩
    · exact s.loc v' j q, s.le, s.r, s.new, s.up, s.os⟩
theorem sim_ref {i : Nat} : SimE K P (tVar i) (aRef i) := fun c EA _ _ τ S H σ ρ Q R s ⟨⟨y, e⟩, q⟩ k => by
  obtain ⟨⟨v, hv⟩, _⟩ := s.env.get e
  exact ⟨v, hv, k _ _ ⟨S, ρ, .loc i, s.ref e hv, q⟩⟩
theorem qv (i : Nat) {x : Str} {pos : Pos} (hN : X.N[i]? = some x := by rfl) (hv : Vis X.env.scope x := by first | exact Or.inl rfl | exact Or.inr (Or.inl rfl) | exact Or.inr (Or.inr rfl)) (hd : (x == ("__debug__" : Str)) = false := by decide)
    (hcd : (x == ("__classdict__" : Str)) = false := by decide) : QE X P (.Name x pos) (aVal i) := ⟨_, pe_var hN hv hd hcd, sim_val⟩
theorem qr (i : Nat) {x : Str} {pos : Pos} (hN : X.N[i]? = some x := by rfl) (hv : Vis X.env.scope x := by first | exact Or.inl rfl | exact Or.inr (Or.inl rfl) | exact Or.inr (Or.inr rfl)) (hd : (x == ("__debug__" : Str)) = false := by decide)
    (hcd : (x == ("__classdict__" : Str)) = false := by decide) : QE X P (.Name x pos) (aRef i) := ⟨_, pe_var hN hv hd hcd, sim_ref⟩

/-! two things by their values -/
abbrev AR2 := A → A → AEnv → AK → Prop
abbrev AR1 := A → AEnv → AK → Prop
abbrev ARs := List A → AEnv → AK → Prop
def Sim2 (K : Fg) (r : R2) (ra : AR2) : Prop := ∀ c τ S H σ ρ vx vy x y Q (R : VK), Stt K c S H σ ρ ((vy, y) :: (vx, x) :: τ) → ra x y ρ Q → (∀ v H', KE K c σ τ Q v H' → R v H') → r vx vy H R
def Sim1 (K : Fg) (r : V → Hp → VK → Prop) (ra : AR1) : Prop := ∀ c τ S H σ ρ vx x Q (R : VK), Stt K c S H σ ρ ((vx, x) :: τ) → ra x ρ Q → (∀ v H', KE K c σ τ Q v H' → R v H') → r vx H R
def Sims (K : Fg) (r : List V → Hp → VK → Prop) (ra : ARs) : Prop := ∀ c τ S H σ ρ vs xs Q (R : VK), vs.length = xs.length → Stt K c S H σ ρ (vs.zip xs ++ τ) → ra xs ρ Q → (∀ v H', KE K c σ τ Q v H' → R v H') → r vs H R
def aOp (ra : AR2) (aa ab : AE) : AE := fun EA ρ Q => aa EA ρ fun x ρ1 => ab EA ρ1 fun y ρ2 => ra x y ρ2 Q
def aUn (ra : AR1) (aa : AE) : AE := fun EA ρ Q => aa EA ρ fun x ρ1 => ra x ρ1 Q
theorem sim_op {r : R2} {ra : AR2} {ta tb : TE} {aa ab : AE} (ha : SimE K P ta aa) (hb : SimE K P tb ab) (hr : Sim2 K r ra) : SimE K P (tOp r ta tb) (aOp ra aa ab) := fun c EA ho hw τ S H σ ρ Q R s q k =>
  ha c EA ho hw τ S H σ ρ _ _ s q (fun vx H1 ⟨S1, ρ1, x, s1, q1⟩ => hb c EA ho hw ((vx, x) :: τ) S1 H1 σ ρ1 _ _ s1 q1 (fun vy H2 ⟨S2, ρ2, y, s2, q2⟩ => hr c τ S2 H2 σ ρ2 vx vy x y Q R s2 q2 k))
theorem sim_un {r : V → Hp → VK → Prop} {ra : AR1} {ta : TE} {aa : AE} (ha : SimE K P ta aa) (hr : Sim1 K r ra) : SimE K P (tUn r ta) (aUn ra aa) := fun c EA ho hw τ S H σ ρ Q R s q k =>
  ha c EA ho hw τ S H σ ρ _ _ s q (fun vx H1 ⟨S1, ρ1, x, s1, q1⟩ => hr c τ S1 H1 σ ρ1 vx x Q R s1 q1 k)
theorem qe_op {a b : Expr} {op : Operator} {pos : Pos} {aa ab : AE} {r : R2} {ra : AR2} (ho : OpR X (binaryOp op) r) (hr : Sim2 X.K r ra) (ha : QE X P a aa) (hb : QE X P b ab) : QE X P (.BinOp a op b pos) (aOp ra aa ab) := by
  obtain ⟨ta, pa, sa⟩ := ha.ex
  obtain ⟨tb, pb, sb⟩ := hb.ex
  exact ⟨_, pe_op ho pa pb, sim_op sa sb hr⟩
theorem qe_un {a : Expr} {op : UnaryOp} {pos : Pos} {aa : AE} {r : V → Hp → VK → Prop} {ra : AR1} (ho : UnR X (unaryOp op) r) (hr : Sim1 X.K r ra) (ha : QE X P a aa) : QE X P (.UnaryOp op a pos) (aUn ra aa) := by
  obtain ⟨ta, pa, sa⟩ := ha.ex
  exact ⟨_, pe_un ho pa, sim_un sa hr⟩
theorem qe_cmp {a b : Expr} {op : CmpOp} {pos : Pos} {aa ab : AE} {r : R2} {ra : AR2} (ho : OpR X (compareOp op) r) (hr : Sim2 X.K r ra) (ha : QE X P a aa) (hb : QE X P b ab) (hm : behindInMarks op b = false) : QE X P (.Compare a [op] [b] pos) (aOp ra aa ab) := by
  obtain ⟨ta, pa, sa⟩ := ha.ex
  obtain ⟨tb, pb, sb⟩ := hb.ex
  exact ⟨_, pe_cmpR ho pa pb hm, sim_op sa sb hr⟩
def aTest (ae : AE) : AT := fun EA ρ Q => ae EA ρ fun x ρ1 => ∃ b, dat x ρ1 = some (.bl b) ∧ Q b ρ1
theorem sim_test {te : TE} {ae : AE} (h : SimE K P te ae) : SimT K P (tTest te) (aTest ae) := fun c EA ho hw τ S H σ ρ Q R s q k =>
  h c EA ho hw τ S H σ ρ _ _ s q (fun v H1 ⟨S1, ρ1, x, s1, b, e, q1⟩ => by
    have r := s1.dat (List.mem_cons_self ..) e
    simp only [Rep] at r
    exact ⟨b, r, k _ _ ⟨S1, ρ1, s1.drop, q1⟩⟩)
theorem qt_cmp {a b : Expr} {op : CmpOp} {pos : Pos} {aa ab : AE} {r : R2} {ra : AR2} (ho : OpR X (compareOp op) r) (hr : Sim2 X.K r ra) (ha : QE X P a aa) (hb : QE X P b ab) (hm : behindInMarks op b = false) : QT X P (.Compare a [op] [b] pos) (aTest (aOp ra aa ab)) := by
  obtain ⟨ta, pa, sa⟩ := ha.ex
  obtain ⟨tb, pb, sb⟩ := hb.ex
  exact ⟨_, pt_cmpR ho pa pb hm, sim_test (sim_op sa sb hr)⟩
theorem qt_val {e : Expr} {ae : AE} (h : QE X P e ae) (he : ∀ whole, isTrue e X.env whole = (do let v ← whole; standAt e.pos; holding [v] (truthy v)) := by intro _; rfl) : QT X P e (aTest ae) := by
  obtain ⟨t, p, s⟩ := h.ex
  exact ⟨_, pt_val p he, sim_test s⟩
/-- a op b op' c -/
def aChain (ra rb : AR2) (aa ab ac : AE) : AE := fun EA ρ Q => aa EA ρ fun x ρ1 => ab EA ρ1 fun y ρ2 => ∃ dy, y = .v dy ∧ ra x y ρ2 fun z ρ3 => ∃ b, dat z ρ3 = some (.bl b) ∧ if b = true then ac EA ρ3 fun w ρ4 => rb (.v dy) w ρ4 Q else Q (.v (.bl false)) ρ3
theorem Stt.held {c : Ctx} {S H : Hp} {σ : L2.St} {ρ : AEnv} {τ : List (V × A)} {v v' : V} {x : A} {d : D} (s : Stt K c S H σ ρ ((v, x) :: (v', .v d) :: τ)) : Stt K c S H σ ρ ((v, x) :: τ) := (s.swap (.swap _ _ _)).drop
theorem sim_chain {r r' : R2} {ra rb : AR2} {ta tb tc : TE} {aa ab ac : AE} (ha : SimE K P ta aa) (hb : SimE K P tb ab) (hc : SimE K P tc ac) (h1 : Sim2 K r ra) (h2 : Sim2 K r' rb) : SimE K P (tChain r r' ta tb tc) (aChain ra rb aa ab ac) := fun c EA ho hw τ S H σ ρ Q R s q k =>
  ha c EA ho hw τ S H σ ρ _ _ s q (fun vx H1 ⟨S1, ρ1, x, s1, q1⟩ => hb c EA ho hw ((vx, x) :: τ) S1 H1 σ ρ1 _ _ s1 q1 (fun vy H2 ⟨S2, ρ2, y, s2, dy, ey, q2⟩ => by
    subst ey
    have s2' : Stt K c S2 H2 σ ρ2 ((vy, .v dy) :: (vx, x) :: (vy, .v dy) :: τ) := by
      have hr := s2.data
      have z : Stt K c S2 H2 σ ρ2 ((vy, .v dy) :: (vy, .v dy) :: (vx, x) :: τ) := s2.hold hr
      exact z.swap (List.Perm.cons _ (.swap _ _ _))
    refine h1 c ((vy, .v dy) :: τ) S2 H2 σ ρ2 vx vy x (.v dy) _ _ s2' q2 (fun vz H3 ⟨S3, ρ3, z, s3, b, e, q3⟩ => ?_)
    have rz := s3.dat (List.mem_cons_self ..) e
    simp only [Rep] at rz
    refine ⟨b, rz, ?_⟩
    cases b with
    | true =>
      rw [if_pos rfl] at q3 ⊢
      exact hc c EA ho hw ((vy, .v dy) :: τ) S3 H3 σ ρ3 _ _ s3.drop q3 (fun vw H4 ⟨S4, ρ4, w, s4, q4⟩ => h2 c τ S4 H4 σ ρ4 vy vw (.v dy) w Q R s4 q4 k)
    | false =>
      rw [if_neg Bool.false_ne_true] at q3 ⊢
      exact k _ _ ⟨S3, ρ3, .v (.bl false), s3.drop.drop.hold (rep_sc rfl), q3⟩))
theorem qe_chain {a b d : Expr} {op op' : CmpOp} {pos : Pos} {aa ab ac : AE} {r r' : R2} {ra rb : AR2} (ho : OpR X (compareOp op) r) (hr : Sim2 X.K r ra) (ho' : OpR X (compareOp op') r') (hr' : Sim2 X.K r' rb) (ha : QE X P a aa) (hb : QE X P b ab) (hc : QE X P d ac)
    (hm : lastMarks [op, op'] [b, d] = false := by rfl) : QE X P (.Compare a [op, op'] [b, d] pos) (aChain ra rb aa ab ac) := by
  obtain ⟨ta, pa, sa⟩ := ha.ex
  obtain ⟨tb, pb, sb⟩ := hb.ex
  obtain ⟨tc, pc, sc⟩ := hc.ex
  exact ⟨_, pe_chain ho ho' pa pb pc hm, sim_chain sa sb sc hr hr'⟩
theorem qt_chain {a b d : Expr} {op op' : CmpOp} {pos : Pos} {aa ab ac : AE} {r r' : R2} {ra rb : AR2} (ho : OpR X (compareOp op) r) (hr : Sim2 X.K r ra) (ho' : OpR X (compareOp op') r') (hr' : Sim2 X.K r' rb) (ha : QE X P a aa) (hb : QE X P b ab) (hc : QE X P d ac)
    (hm : lastMarks [op, op'] [b, d] = false := by rfl) : QT X P (.Compare a [op, op'] [b, d] pos) (aTest (aChain ra rb aa ab ac)) := by
  obtain ⟨ta, pa, sa⟩ := ha.ex
  obtain ⟨tb, pb, sb⟩ := hb.ex
  obtain ⟨tc, pc, sc⟩ := hc.ex
  exact ⟨_, pt_chain ho ho' pa pb pc hm, sim_test (sim_chain sa sb sc hr hr')⟩

/-! and, or, not -/
def atAnd (t u : AT) : AT := fun EA ρ Q => t EA ρ fun b ρ1 => if b = true then u EA ρ1 Q else Q false ρ1
def atOr (t u : AT) : AT := fun EA ρ Q => t EA ρ fun b ρ1 => if b = true then Q true ρ1 else u EA ρ1 Q
def atNot (t : AT) : AT := fun EA ρ Q => t EA ρ fun b ρ1 => Q (!b) ρ1
theorem sim_and {t u : TT} {a b : AT} (h1 : SimT K P t a) (h2 : SimT K P u b) : SimT K P (tAnd t u) (atAnd a b) := fun c EA ho hw τ S H σ ρ Q R s q k =>
  h1 c EA ho hw τ S H σ ρ _ _ s q (fun v H1 ⟨S1, ρ1, s1, q1⟩ => by
    cases v with
    | true => rw [if_pos rfl] at q1 ⊢; exact h2 c EA ho hw τ S1 H1 σ ρ1 Q R s1 q1 k
    | false => rw [if_neg Bool.false_ne_true] at q1 ⊢; exact k _ _ ⟨S1, ρ1, s1, q1⟩)
theorem sim_or {t u : TT} {a b : AT} (h1 : SimT K P t a) (h2 : SimT K P u b) : SimT K P (tOr t u) (atOr a b) := fun c EA ho hw τ S H σ ρ Q R s q k =>
  h1 c EA ho hw τ S H σ ρ _ _ s q (fun v H1 ⟨S1, ρ1, s1, q1⟩ => by
    cases v with
    | true => rw [if_pos rfl] at q1 ⊢; exact k _ _ ⟨S1, ρ1, s1, q1⟩
    | false => rw [if_neg Bool.false_ne_true] at q1 ⊢; exact h2 c EA ho hw τ S1 H1 σ ρ1 Q R s1 q1 k)
theorem sim_not {t : TT} {a : AT} (h : SimT K P t a) : SimT K P (tNot t) (atNot a) := fun c EA ho hw τ S H σ ρ Q R s q k =>
  h c EA ho hw τ S H σ ρ _ _ s q (fun v H1 ⟨S1, ρ1, s1, q1⟩ => k _ _ ⟨S1, ρ1, s1, q1⟩)
variable {a b : Expr} {rest : List Expr} {pos : Pos}
theorem qw_and1 {t : AT} (h : QT X P a t) : QW X P (.BoolOp .And [a] pos) t := let ⟨_, p, s⟩ := h.ex; ⟨_, pw_and1 p, s⟩
theorem qw_or1 {t : AT} (h : QT X P a t) : QW X P (.BoolOp .Or [a] pos) t := let ⟨_, p, s⟩ := h.ex; ⟨_, pw_or1 p, s⟩
theorem qw_and {t u : AT} (h : QT X P a t) (h2 : QW X P (.BoolOp .And (b :: rest) pos) u) : QW X P (.BoolOp .And (a :: b :: rest) pos) (atAnd t u) := let ⟨_, p, s⟩ := h.ex; let ⟨_, p2, s2⟩ := h2.ex; ⟨_, pw_and p p2, sim_and s s2⟩
theorem qw_or {t u : AT} (h : QT X P a t) (h2 : QW X P (.BoolOp .Or (b :: rest) pos) u) : QW X P (.BoolOp .Or (a :: b :: rest) pos) (atOr t u) := let ⟨_, p, s⟩ := h.ex; let ⟨_, p2, s2⟩ := h2.ex; ⟨_, pw_or p p2, sim_or s s2⟩
theorem qt_w {t : AT} {e : Expr} (h : QW X P e t) : QT X P e t := let ⟨_, p, s⟩ := h.ex; ⟨_, p.pt, s⟩
theorem qt_not {t : AT} (h : QT X P a t) : QT X P (.UnaryOp .Not a pos) (atNot t) := let ⟨_, p, s⟩ := h.ex; ⟨_, pt_not p, sim_not s⟩
/-! .. as values -/
def aAnd (aa ab : AE) : AE := fun EA ρ Q => aa EA ρ fun x ρ1 => ∃ b, dat x ρ1 = some (.bl b) ∧ if b = true then ab EA ρ1 Q else Q (.v (.bl false)) ρ1
def aOr (aa ab : AE) : AE := fun EA ρ Q => aa EA ρ fun x ρ1 => ∃ b, dat x ρ1 = some (.bl b) ∧ if b = true then Q (.v (.bl true)) ρ1 else ab EA ρ1 Q
def aNot (aa : AE) : AE := fun EA ρ Q => aa EA ρ fun x ρ1 => ∃ b, dat x ρ1 = some (.bl b) ∧ Q (.v (.bl (!b))) ρ1
theorem sim_andV {ta tb : TE} {aa ab : AE} (h1 : SimE K P ta aa) (h2 : SimE K P tb ab) : SimE K P (tAndV ta tb) (aAnd aa ab) := fun c EA ho hw τ S H σ ρ Q R s q k =>
  h1 c EA ho hw τ S H σ ρ _ _ s q (fun v H1 ⟨S1, ρ1, x, s1, b, e, q1⟩ => by
    have r := s1.dat (List.mem_cons_self ..) e
    simp only [Rep] at r
    refine ⟨b, r, ?_⟩
    cases b with
    | true => rw [if_pos rfl] at q1 ⊢; exact h2 c EA ho hw τ S1 H1 σ ρ1 Q R s1.drop q1 k
    | false => rw [if_neg Bool.false_ne_true] at q1 ⊢; exact k _ _ ⟨S1, ρ1, _, s1.drop.hold (rep_sc rfl), q1⟩)
theorem sim_orV {ta tb : TE} {aa ab : AE} (h1 : SimE K P ta aa) (h2 : SimE K P tb ab) : SimE K P (tOrV ta tb) (aOr aa ab) := fun c EA ho hw τ S H σ ρ Q R s q k =>
  h1 c EA ho hw τ S H σ ρ _ _ s q (fun v H1 ⟨S1, ρ1, x, s1, b, e, q1⟩ => by
    have r := s1.dat (List.mem_cons_self ..) e
    simp only [Rep] at r
    refine ⟨b, r, ?_⟩
    cases b with
    | true => rw [if_pos rfl] at q1 ⊢; exact k _ _ ⟨S1, ρ1, _, s1.drop.hold (rep_sc rfl), q1⟩
    | false => rw [if_neg Bool.false_ne_true] at q1 ⊢; exact h2 c EA ho hw τ S1 H1 σ ρ1 Q R s1.drop q1 k)
theorem sim_notV {ta : TE} {aa : AE} (h1 : SimE K P ta aa) : SimE K P (tNotV ta) (aNot aa) := fun c EA ho hw τ S H σ ρ Q R s q k =>
  h1 c EA ho hw τ S H σ ρ _ _ s q (fun v H1 ⟨S1, ρ1, x, s1, b, e, q1⟩ => by
    have r := s1.dat (List.mem_cons_self ..) e
    simp only [Rep] at r
    exact ⟨b, r, k _ _ ⟨S1, ρ1, _, s1.drop.hold (rep_sc rfl), q1⟩⟩)
theorem qe_one {op} {t : AE} (h : QE X P a t) : QE X P (.BoolOp op [a] pos) t := let ⟨_, p, s⟩ := h.ex; ⟨_, pe_one p, s⟩
theorem qe_and {t u : AE} (h : QE X P a t) (h2 : QE X P (.BoolOp .And (b :: rest) pos) u) : QE X P (.BoolOp .And (a :: b :: rest) pos) (aAnd t u) := let ⟨_, p, s⟩ := h.ex; let ⟨_, p2, s2⟩ := h2.ex; ⟨_, pe_and p p2, sim_andV s s2⟩
theorem qe_or {t u : AE} (h : QE X P a t) (h2 : QE X P (.BoolOp .Or (b :: rest) pos) u) : QE X P (.BoolOp .Or (a :: b :: rest) pos) (aOr t u) := let ⟨_, p, s⟩ := h.ex; let ⟨_, p2, s2⟩ := h2.ex; ⟨_, pe_or p p2, sim_orV s s2⟩
theorem qe_not {t : AE} (h : QE X P a t) : QE X P (.UnaryOp .Not a pos) (aNot t) := let ⟨_, p, s⟩ := h.ex; ⟨_, pe_not p, sim_notV s⟩
/-- a if t else b -/
def aIf (t : AT) (aa ab : AE) : AE := fun EA ρ Q => t EA ρ fun b ρ1 => if b = true then aa EA ρ1 Q else ab EA ρ1 Q
theorem qe_ifExp {t : AT} {aa ab : AE} {d : Expr} (hc : QT X P d t) (ha : QE X P a aa) (hb : QE X P b ab) : QE X P (.IfExp d a b pos) (aIf t aa ab) := by
  obtain ⟨t', p, s⟩ := hc.ex
  obtain ⟨ta, pa, sa⟩ := ha.ex
  obtain ⟨tb, pb, sb⟩ := hb.ex
  refine ⟨_, pe_ifExp p pa pb, fun c EA ho hw τ S H σ ρ Q R st q k => s c EA ho hw τ S H σ ρ _ _ st q (fun v H1 ⟨S1, ρ1, s1, q1⟩ => ?_)⟩
  cases v with
  | true => rw [if_pos rfl] at q1 ⊢; exact sa c EA ho hw τ S1 H1 σ ρ1 Q R s1 q1 k
  | false => rw [if_neg Bool.false_ne_true] at q1 ⊢; exact sb c EA ho hw τ S1 H1 σ ρ1 Q R s1 q1 k

/-! arguments -/
def aNil : AA := fun _ ρ Q => Q [] ρ
def aCons (ae : AE) (aa : AA) : AA := fun EA ρ Q => ae EA ρ fun x ρ1 => aa EA ρ1 fun xs ρ2 => Q (x :: xs) ρ2
theorem sim_nil : SimA K P tNil aNil := fun c EA ho hw τ S H σ ρ Q R s q k => k _ _ ⟨S, ρ, [], rfl, by simpa using s, q⟩
theorem sim_cons {te : TE} {ta : TA} {ae : AE} {aa : AA} (h1 : SimE K P te ae) (h2 : SimA K P ta aa) : SimA K P (tCons te ta) (aCons ae aa) := fun c EA ho hw τ S H σ ρ Q R s q k =>
  h1 c EA ho hw τ S H σ ρ _ _ s q (fun v H1 ⟨S1, ρ1, x, s1, q1⟩ => h2 c EA ho hw ((v, x) :: τ) S1 H1 σ ρ1 _ _ s1 q1 (fun vs H2 ⟨S2, ρ2, xs, hl, s2, q2⟩ =>
    k _ _ ⟨S2, ρ2, x :: xs, by simp [hl], by
      rw [List.zip_cons_cons]
      exact s2.swap List.perm_middle, q2⟩))
theorem qa_nil : QA X P [] aNil := ⟨_, pa_nil, sim_nil⟩
theorem qa_cons {e : Expr} {es : List Expr} {ae : AE} {aa : AA} (h1 : QE X P e ae) (h2 : QA X P es aa) (hs : starEach (e :: es) X.env = (false, eval e X.env) :: starEach es X.env := by rfl) : QA X P (e :: es) (aCons ae aa) :=
  let ⟨_, p, s⟩ := h1.ex; let ⟨_, p2, s2⟩ := h2.ex; ⟨_, pa_cons p p2 hs, sim_cons s s2⟩
/-- (a, b, ..): a shared tuple -/
def aTup (aa : AA) : AE := fun EA ρ Q => aa EA ρ fun xs ρ1 => xs.length ≤ 1000 ∧ usesA xs ρ1 fun ds ρ2 => Q (.v (.tup ds)) ρ2
def aLst (aa : AA) : AE := fun EA ρ Q => aa EA ρ fun xs ρ1 => xs.length ≤ 1000 ∧ usesA xs ρ1 fun ds ρ2 => Q (.lst ds) ρ2
theorem sz1000 {n : Nat} (h : n ≤ 1000) : n ≤ sizeLine := Nat.le_trans h (by decide)
theorem qe_tup {es : List Expr} {aa : AA} {x1} (h : QA X P es aa) : QE X P (.Tuple es x1 pos) (aTup aa) := by
  obtain ⟨t, p, s⟩ := h.ex
  refine ⟨_, pe_tup p, fun c EA ho hw τ S H σ ρ Q R st q k => s c EA ho hw τ S H σ ρ _ _ st q (fun vs H1 ⟨S1, ρ1, xs, hl, s1, hz, q1⟩ => ⟨by rw [hl]; exact sz1000 hz, fun p hp => ?_⟩)⟩
  obtain ⟨S2, ds, ρ2, sm, rl, s2, q2⟩ := uses_sim hl s1 q1
  have f1 := (s2.fresh hp).1
  refine k _ _ ⟨_, ρ2, .v (.tup ds), s2.share (o := .tup vs) hp ?_, q2⟩
  simp only [Rep]
  exact ⟨p, vs, rfl, SqT.of upd_same, RepL.le (Le.of_same (Same.up f1)) ds vs rl⟩
theorem qe_lst {es : List Expr} {aa : AA} (h : QA X P es aa) : QE X P (.List es pos) (aLst aa) := by
  obtain ⟨t, p, s⟩ := h.ex
  refine ⟨_, pe_lst p, fun c EA ho hw τ S H σ ρ Q R st q k => s c EA ho hw τ S H σ ρ _ _ st q (fun vs H1 ⟨S1, ρ1, xs, hl, s1, hz, q1⟩ => ⟨by rw [hl]; exact sz1000 hz, fun p hp => ?_⟩)⟩
  obtain ⟨S2, ds, ρ2, sm, rl, s2, q2⟩ := uses_sim hl s1 q1
  refine k _ _ ⟨_, ρ2, .lst ds, s2.alloc hp rfl ?_, q2⟩
  simp only [RepA]
  exact ⟨p, vs, rfl, upd_same, rl, by first | rfl | trivial⟩
/-- {} -/
def aDict0 : AE := fun _ ρ Q => Q (.dic []) ρ
theorem qe_dict0 : QE X P (.Dict [] [] pos) aDict0 := ⟨_, pe_dnewK, fun c EA ho hw τ S H σ ρ Q R s q k p hp => k _ _ ⟨S, ρ, .dic [], s.alloc hp rfl (by
  simp only [RepA]
  exact ⟨p, [], rfl, upd_same, by simp only [RepK], by first | rfl | trivial⟩), q⟩⟩
/-- a built-in called by its name -/
def aCB (ra : ARs) (aa : AA) : AE := fun EA ρ Q => aa EA ρ fun xs ρ1 => ra xs ρ1 Q
theorem sim_cb {r : List V → Hp → VK → Prop} {ra : ARs} {ta : TA} {aa : AA} (hr : Sims K r ra) (h : SimA K P ta aa) : SimE K P (tCB r ta) (aCB ra aa) := fun c EA ho hw τ S H σ ρ Q R s q k =>
  h c EA ho hw τ S H σ ρ _ _ s q (fun vs H1 ⟨S1, ρ1, xs, hl, s1, q1⟩ => hr c τ S1 H1 σ ρ1 vs xs Q R hl s1 q1 k)
theorem qe_callB {x : Str} {id : String} {e : Expr} {es : List Expr} {aa : AA} {r : List V → Hp → VK → Prop} {ra : ARs} {p : Pos} (hc : CallR X (.builtin id) r) (hr : Sims X.K r ra) (hg : Gl X x) (hm : X.mg x = none) (hv : bootBuiltins x = some (.builtin id)) (ha : QA X P (e :: es) aa) (hn : x ≠ "__name__" := by decide) (hdb : (x == ("__debug__" : Str)) = false := by decide) (he : starEach (e :: es) X.env = (false, eval e X.env) :: starEach es X.env := by rfl) (hpl : (backTo pos (starEach es X.env)).any (·.1) = false := by rfl) :
    QE X P (.Call (.Name x p) (e :: es) [] pos) (aCB ra aa) := let ⟨_, pa, sa⟩ := ha.ex; ⟨_, pe_callB hc hg hm hv pa hn hdb he hpl, sim_cb hr sa⟩
theorem qe_callTy {x : Str} {T : String} {e : Expr} {es : List Expr} {aa : AA} {r : List V → Hp → VK → Prop} {ra : ARs} {p : Pos} (hc : CallR X (.type T) r) (hr : Sims X.K r ra) (hg : Gl X x) (hm : X.mg x = none) (hv : bootBuiltins x = some (.type T)) (ha : QA X P (e :: es) aa) (hn : x ≠ "__name__" := by decide) (hdb : (x == ("__debug__" : Str)) = false := by decide) (he : starEach (e :: es) X.env = (false, eval e X.env) :: starEach es X.env := by rfl) (hpl : (backTo pos (starEach es X.env)).any (·.1) = false := by rfl) :
    QE X P (.Call (.Name x p) (e :: es) [] pos) (aCB ra aa) := let ⟨_, pa, sa⟩ := ha.ex; ⟨_, pe_callTy hc hg hm hv pa hn hdb he hpl, sim_cb hr sa⟩
end
end Vs

set_option Elab.async false
set_option linter.all false
set_option maxRecDepth 100000
set_option maxHeartbeats 1000000
/-! Vs: operations by values. -/
namespace Vs
open PySem L2
/-! ### data as the library's data -/
mutual
def pd : D → PyData
  | .non => .none
  | .bl b => .bool b
  | .int i => .int i
  | .str x => .str x
  | .lst xs => .list (pdL xs)
  | .tup xs => .tuple (pdL xs)
  | .ty _ => .none
  | .dic _ => .none
  | .obj _ _ => .none
def pdL : List D → List PyData
  | [] => []
  | x :: xs => pd x :: pdL xs
end
/-- no dicts, no instances, nested at most n deep -/
def PlD : Nat → D → Prop
  | _, .non => True
  | _, .bl _ => True
  | _, .int _ => True
  | _, .str _ => True
  | 0, .lst _ => False
  | 0, .tup _ => False
  | n + 1, .lst xs => ∀ x ∈ xs, PlD n x
  | n + 1, .tup xs => ∀ x ∈ xs, PlD n x
  | _, .ty _ => False
  | _, .dic _ => False
  | _, .obj _ _ => False
mutual
def deq : D → D → Bool
  | .non, .non => true
  | .bl a, .bl b => a == b
  | .bl a, .int j => (if a then 1 else 0) == j
  | .int i, .bl b => i == (if b then 1 else 0)
  | .int i, .int j => i == j
  | .str x, .str y => x == y
  | .lst xs, .lst ys => deqL xs ys
  | .tup xs, .tup ys => deqL xs ys
  | _, _ => false
def deqL : List D → List D → Bool
  | [], [] => true
  | x :: xs, y :: ys => deq x y && deqL xs ys
  | _, _ => false
end
theorem pdL_map : ∀ xs : List D, pdL xs = xs.map pd
  | [] => rfl
  | x :: xs => by simp only [pdL, List.map_cons, pdL_map xs]
mutual
theorem deq_pd : ∀ (n : Nat) (d e : D), PlD n d → PlD n e → deq d e = PyData.eqv (pd d) (pd e)
  | n, d, e, hd, he => by
    cases d <;> cases e <;> first
      | (simp only [deq, pd, PyData.eqv]; done)
      | (cases n <;> simp only [PlD] at hd he; done)
      | skip
    · rename_i xs ys
      cases n with
      | zero => simp only [PlD] at hd
      | succ n =>
        simp only [PlD] at hd he
        simp only [deq, pd, PyData.eqv]
        exact deqL_pd n xs ys hd he
    · rename_i xs ys
      cases n with
      | zero => simp only [PlD] at hd
      | succ n =>
        simp only [PlD] at hd he
        simp only [deq, pd, PyData.eqv]
        exact deqL_pd n xs ys hd he
theorem deqL_pd : ∀ (n : Nat) (xs ys : List D), (∀ x ∈ xs, PlD n x) → (∀ x ∈ ys, PlD n x) → deqL xs ys = PyData.eqvAll (pdL xs) (pdL ys)
  | n, [], [], _, _ => by simp only [deqL, pdL, PyData.eqvAll]
  | n, [], _ :: _, _, _ => by simp only [deqL, pdL, PyData.eqvAll]
  | n, _ :: _, [], _, _ => by simp only [deqL, pdL, PyData.eqvAll]
  | n, x :: xs, y :: ys, h1, h2 => by
    simp only [deqL, pdL, PyData.eqvAll]
    rw [deq_pd n x y (h1 x (by simp)) (h2 y (by simp)), deqL_pd n xs ys (fun z hz => h1 z (by simp [hz])) (fun z hz => h2 z (by simp [hz]))]
end
mutual
theorem pd_plain : ∀ (n : Nat) (d : D), PlD n d → (pd d).plain = true ∧ (pd d).depth ≤ n
  | n, d, h => by
    cases d <;> first
      | (simp only [pd, PyData.plain, PyData.depth]; exact ⟨rfl, Nat.zero_le _⟩)
      | (simp only [pd, PyData.plain, PyData.depth]; exact ⟨trivial, Nat.zero_le _⟩)
      | (cases n <;> simp only [PlD] at h; done)
      | skip
    · rename_i xs
      cases n with
      | zero => simp only [PlD] at h
      | succ n =>
        simp only [PlD] at h
        obtain ⟨h1, h2⟩ := pdL_plain n xs h
        simp only [pd, PyData.plain, PyData.depth]
        exact ⟨h1, by omega⟩
    · rename_i xs
      cases n with
      | zero => simp only [PlD] at h
      | succ n =>
        simp only [PlD] at h
        obtain ⟨h1, h2⟩ := pdL_plain n xs h
        simp only [pd, PyData.plain, PyData.depth]
        exact ⟨h1, by omega⟩
theorem pdL_plain : ∀ (n : Nat) (xs : List D), (∀ x ∈ xs, PlD n x) → PyData.plainAll (pdL xs) = true ∧ PyData.depthAll (pdL xs) ≤ n
  | n, [], _ => by simp only [pdL, PyData.plainAll, PyData.depthAll]; exact ⟨trivial, Nat.zero_le _⟩
  | n, x :: xs, h => by
    obtain ⟨h1, h2⟩ := pd_plain n x (h x (by simp))
    obtain ⟨h3, h4⟩ := pdL_plain n xs fun z hz => h z (by simp [hz])
    simp only [pdL, PyData.plainAll, PyData.depthAll, h1, h3]
    exact ⟨rfl, Nat.max_le.mpr ⟨h2, h4⟩⟩
end
section
variable {K : Fg} {H : Hp}
mutual
theorem rep_dp : ∀ (n : Nat) (d : D) (v : V), PlD n d → Rep K H d v → Dp K H v (pd d)
  | n, d, v, h, r => by
    cases d <;> first
      | (simp only [Rep] at r; subst r; simp only [pd]; first | exact .non | exact .bl _ | exact .int _ | exact .str _)
      | (cases n <;> simp only [PlD] at h; done)
      | skip
    · rename_i xs
      cases n with
      | zero => simp only [PlD] at h
      | succ n =>
        simp only [PlD] at h
        simp only [Rep] at r
        obtain ⟨a, vs, rfl, h1, h2⟩ := r
        simp only [pd]
        exact .lst h1 (repL_dp n xs vs h h2)
    · rename_i xs
      cases n with
      | zero => simp only [PlD] at h
      | succ n =>
        simp only [PlD] at h
        simp only [Rep] at r
        obtain ⟨a, vs, rfl, h1, h2⟩ := r
        simp only [pd]
        exact .tup h1 (repL_dp n xs vs h h2)
theorem repL_dp : ∀ (n : Nat) (xs : List D) (vs : List V), (∀ x ∈ xs, PlD n x) → RepL K H xs vs → DpAll K H vs (pdL xs)
  | n, [], vs, _, r => by
    simp only [RepL] at r
    subst r
    simp only [pdL]
    exact .nil
  | n, x :: xs, vs, h, r => by
    simp only [RepL] at r
    obtain ⟨v, w, rfl, r1, r2⟩ := r
    simp only [pdL]
    exact .cons (rep_dp n x v (h x (by simp)) r1) (repL_dp n xs w (fun z hz => h z (by simp [hz])) r2)
end
end
/-! ### what a held thing is -/
section
variable {K : Fg} {c : Ctx} {S H : Hp} {σ : L2.St} {ρ : AEnv} {τ : List (V × A)} {v : V} {x y : A} {i : Nat} {P : Pm}
theorem Stt.thing {d : D} (s : Stt K c S H σ ρ τ) (m : (v, x) ∈ τ) (h : Vs.dat x ρ = some d) : ∃ y g, RepA K S H y v g ∧ y.toD = d := by
  obtain ⟨fp, h1, _, _⟩ := s.own
  cases hx : isLoc x with
  | false =>
    have e : x.toD = d := by
      cases x <;> first | exact Option.some.inj h | cases hx
    have m2 : (v, x) ∈ envP ρ σ ++ tmpP τ := List.mem_append_right _ (List.mem_filter.mpr ⟨m, by cases x <;> first | rfl | cases hx⟩)
    obtain ⟨g, a1, _⟩ := h1.pick m2
    exact ⟨x, g, a1, e⟩
  | true =>
    cases x with
    | loc i =>
      obtain ⟨hv, y, hy⟩ := s.loc v i m
      have e : y.toD = d := by
        simp only [Vs.dat, hy] at h
        exact Option.some.inj h
      obtain ⟨f1, f2, q1, q2, q3⟩ := h1.append
      obtain ⟨fq, z1, z2⟩ := RepP.perm (envP_take hy hv) q1
      obtain ⟨g, h', a1, _, _⟩ := z1
      exact ⟨y, g, a1, e⟩
    | _ => cases hx
theorem repA_lst {g : List Addr} {xs : List D} (r : RepA K S H y v g) (e : y.toD = .lst xs) (hl : Le S H) : ∃ a vs, v = .ref a ∧ SqL K H a vs ∧ RepL K S xs vs := by
  cases y with
  | v d =>
    simp only [A.toD] at e
    subst e
    simp only [RepA, Rep] at r
    obtain ⟨⟨a, vs, h1, h2, h3⟩, _⟩ := r
    exact ⟨a, vs, h1, SqL.le hl h2, h3⟩
  | lst ys =>
    simp only [A.toD] at e
    injection e with e
    subst e
    simp only [RepA] at r
    obtain ⟨a, vs, h1, h2, h3, _⟩ := r
    exact ⟨a, vs, h1, SqL.of h2, h3⟩
  | dic ys => simp only [A.toD] at e; cases e
  | obj C ys => simp only [A.toD] at e; cases e
  | loc i => simp only [RepA] at r
theorem repA_tup {g : List Addr} {xs : List D} (r : RepA K S H y v g) (e : y.toD = .tup xs) (hl : Le S H) : ∃ a vs, v = .ref a ∧ SqT K S a vs ∧ SqT K H a vs ∧ RepL K S xs vs := by
  cases y with
  | v d =>
    simp only [A.toD] at e
    subst e
    simp only [RepA, Rep] at r
    obtain ⟨⟨a, vs, h1, h2, h3⟩, _⟩ := r
    exact ⟨a, vs, h1, h2, SqT.le hl h2, h3⟩
  | lst ys => simp only [A.toD] at e; cases e
  | dic ys => simp only [A.toD] at e; cases e
  | obj C ys => simp only [A.toD] at e; cases e
  | loc i => simp only [RepA] at r
theorem repA_dic {g : List Addr} {xs : List (Key × D)} (r : RepA K S H y v g) (e : y.toD = .dic xs) (hl : Le S H) : ∃ a ws, v = .ref a ∧ Rd H a (.dK ws) ∧ RepK K S xs ws := by
  cases y with
  | v d =>
    simp only [A.toD] at e
    subst e
    simp only [RepA, Rep] at r
    obtain ⟨⟨a, vs, h1, h2, h3⟩, _⟩ := r
    exact ⟨a, vs, h1, Rd.le hl (.inr (.inr ⟨_, rfl⟩)) h2, h3⟩
  | dic ys =>
    simp only [A.toD] at e
    injection e with e
    subst e
    simp only [RepA] at r
    obtain ⟨a, vs, h1, h2, h3, _⟩ := r
    exact ⟨a, vs, h1, .inl h2, h3⟩
  | lst ys => simp only [A.toD] at e; cases e
  | obj C ys => simp only [A.toD] at e; cases e
  | loc i => simp only [RepA] at r
theorem RepL.len : ∀ {xs : List D} {vs : List V}, RepL K S xs vs → vs.length = xs.length
  | [], vs, h => by simp only [RepL] at h; rw [h]; rfl
  | x :: xs, vs, h => by
    simp only [RepL] at h
    obtain ⟨v, r, rfl, _, h2⟩ := h
    simp [RepL.len h2]
theorem RepL.get : ∀ {xs : List D} {vs : List V} {i : Nat} {d : D}, RepL K S xs vs → xs[i]? = some d → ∃ v, vs[i]? = some v ∧ Rep K S d v
  | [], vs, i, d, _, h => by simp at h
  | x :: xs, vs, i, d, h, e => by
    simp only [RepL] at h
    obtain ⟨v, r, rfl, h1, h2⟩ := h
    cases i with
    | zero =>
      have : x = d := by simpa using e
      subst this
      exact ⟨v, by simp, h1⟩
    | succ i =>
      obtain ⟨w, e1, e2⟩ := RepL.get (i := i) h2 (by simpa using e)
      exact ⟨w, by simpa using e1, e2⟩
theorem RepL.at {xs : List D} {vs : List V} {j : Int} {d : D} (h : RepL K S xs vs) (e : atI xs j = some d) : ∃ v, atI vs j = some v ∧ Rep K S d v := by
  unfold atI at e ⊢
  rw [h.len]
  cases q : ixN xs.length j with
  | none => rw [q] at e; cases e
  | some n =>
    rw [q] at e
    exact h.get e
theorem RepL.set : ∀ {xs : List D} {vs : List V} {d : D} {v : V} (i : Nat), RepL K S xs vs → Rep K S d v → RepL K S (xs.set i d) (vs.set i v)
  | [], vs, d, v, i, h, _ => by
    simp only [RepL] at h
    subst h
    simp [RepL]
  | x :: xs, vs, d, v, 0, h, hr => by
    simp only [RepL] at h
    obtain ⟨w, r, rfl, h1, h2⟩ := h
    simp only [List.set_cons_zero, RepL]
    exact ⟨v, r, rfl, hr, h2⟩
  | x :: xs, vs, d, v, i + 1, h, hr => by
    simp only [RepL] at h
    obtain ⟨w, r, rfl, h1, h2⟩ := h
    simp only [List.set_cons_succ, RepL]
    exact ⟨w, r.set i v, rfl, h1, RepL.set i h2 hr⟩
theorem RepL.app : ∀ {xs ys : List D} {vs ws : List V}, RepL K S xs vs → RepL K S ys ws → RepL K S (xs ++ ys) (vs ++ ws)
  | [], ys, vs, ws, h, h' => by
    simp only [RepL] at h
    subst h
    exact h'
  | x :: xs, ys, vs, ws, h, h' => by
    simp only [RepL] at h
    obtain ⟨v, r, rfl, h1, h2⟩ := h
    simp only [List.cons_append, RepL]
    exact ⟨v, r ++ ws, rfl, h1, RepL.app h2 h'⟩
theorem RepL.take : ∀ {xs : List D} {vs : List V} (n : Nat), RepL K S xs vs → RepL K S (xs.take n) (vs.take n)
  | xs, vs, 0, _ => by simp [RepL]
  | [], vs, n + 1, h => by
    simp only [RepL] at h
    subst h
    simp [RepL]
  | x :: xs, vs, n + 1, h => by
    simp only [RepL] at h
    obtain ⟨v, r, rfl, h1, h2⟩ := h
    simp only [List.take_succ_cons, RepL]
    exact ⟨v, r.take n, rfl, h1, RepL.take n h2⟩
theorem RepL.drop : ∀ {xs : List D} {vs : List V} (n : Nat), RepL K S xs vs → RepL K S (xs.drop n) (vs.drop n)
  | xs, vs, 0, h => by simpa using h
  | [], vs, n + 1, h => by
    simp only [RepL] at h
    subst h
    simp [RepL]
  | x :: xs, vs, n + 1, h => by
    simp only [RepL] at h
    obtain ⟨v, r, rfl, h1, h2⟩ := h
    simp only [List.drop_succ_cons]
    exact RepL.drop n h2

/-! ### dicts -/
def valD : List (Key × D) → Key → Option D
  | [], _ => none
  | (k', x) :: r, k => if k' = k then some x else valD r k
def putD (kvs : List (Key × D)) (k : Key) (d : D) : List (Key × D) := if (kvs.any fun p => decide (p.1 = k)) = true then kvs.map (fun p => if p.1 = k then (p.1, d) else p) else kvs ++ [(k, d)]
/-- a datum as a key -/
def keyD : D → Option Key
  | .int i => some (.inl i)
  | .str x => some (.inr x)
  | _ => none
theorem key_rep {d : D} {k : Key} {v : V} (h : keyD d = some k) (r : Rep K S d v) : v = kV k := by
  cases d <;> simp [keyD] at h <;> subst h <;> simpa only [Rep, kV] using r
theorem RepK.val : ∀ {kvs : List (Key × D)} {ws : List (Key × V)} {k : Key}, RepK K S kvs ws → (valD kvs k = none ∧ valV ws k = none) ∨ ∃ d v, valD kvs k = some d ∧ valV ws k = some v ∧ Rep K S d v
  | [], ws, k, h => by
    simp only [RepK] at h
    subst h
    exact .inl ⟨rfl, rfl⟩
  | (k', x) :: r, ws, k, h => by
    simp only [RepK] at h
    obtain ⟨v, r', rfl, h1, h2⟩ := h
    by_cases e : k' = k
    · exact .inr ⟨x, v, by simp [valD, e], by simp [valV, List.find?_cons, e], h1⟩
    · have e1 : valD ((k', x) :: r) k = valD r k := by simp [valD, e]
      have e2 : valV ((k', v) :: r') k = valV r' k := by simp [valV, List.find?_cons, e]
      rw [e1, e2]
      exact RepK.val h2
theorem RepK.len : ∀ {kvs : List (Key × D)} {ws : List (Key × V)}, RepK K S kvs ws → ws.length = kvs.length
  | [], ws, h => by simp only [RepK] at h; rw [h]; rfl
  | (k', x) :: r, ws, h => by
    simp only [RepK] at h
    obtain ⟨v, r', rfl, h1, h2⟩ := h
    simp [RepK.len h2]
theorem RepK.any : ∀ {kvs : List (Key × D)} {ws : List (Key × V)} (k : Key), RepK K S kvs ws → (ws.any fun p => decide (p.1 = k)) = kvs.any fun p => decide (p.1 = k)
  | [], ws, k, h => by simp only [RepK] at h; rw [h]; rfl
  | (k', x) :: r, ws, k, h => by
    simp only [RepK] at h
    obtain ⟨v, r', rfl, h1, h2⟩ := h
    simp only [List.any_cons, RepK.any k h2]
theorem RepK.mapk : ∀ {kvs : List (Key × D)} {ws : List (Key × V)} (k : Key) {d : D} {v : V}, RepK K S kvs ws → Rep K S d v → RepK K S (kvs.map fun p => if p.1 = k then (p.1, d) else p) (ws.map fun p => if p.1 = k then (p.1, v) else p)
  | [], ws, k, d, v, h, _ => by
    simp only [RepK] at h
    subst h
    simp [RepK]
  | (k', x) :: r, ws, k, d, v, h, hr => by
    simp only [RepK] at h
    obtain ⟨w, r', rfl, h1, h2⟩ := h
    have ih := RepK.mapk k h2 hr
    simp only [List.map_cons]
    by_cases e : k' = k
    · simp only [e, if_true, RepK]
      exact ⟨v, _, rfl, hr, ih⟩
    · simp only [e, if_false, RepK]
      exact ⟨w, _, rfl, h1, ih⟩
theorem RepK.app : ∀ {kvs : List (Key × D)} {ws : List (Key × V)} (k : Key) {d : D} {v : V}, RepK K S kvs ws → Rep K S d v → RepK K S (kvs ++ [(k, d)]) (ws ++ [(k, v)])
  | [], ws, k, d, v, h, hr => by
    simp only [RepK] at h
    subst h
    simp only [List.nil_append, RepK]
    exact ⟨v, [], rfl, hr, rfl⟩
  | (k', x) :: r, ws, k, d, v, h, hr => by
    simp only [RepK] at h
    obtain ⟨w, r', rfl, h1, h2⟩ := h
    simp only [List.cons_append, RepK]
    exact ⟨w, _, rfl, h1, RepK.app k h2 hr⟩
theorem RepK.put {kvs : List (Key × D)} {ws : List (Key × V)} (k : Key) {d : D} {v : V} (h : RepK K S kvs ws) (hr : Rep K S d v) : RepK K S (putD kvs k d) (putK ws k v) := by
  unfold putD putK
  rw [h.any k]
  split
  · exact h.mapk k hr
  · exact h.app k hr
end

/-! ### operations by values -/
section
variable {X : Cx} {K : Fg}
/-- numbers -/
def aI0 (g : Int → Int → D) : AR2 := fun x y ρ Q => ∃ i j, dat x ρ = some (.int i) ∧ dat y ρ = some (.int j) ∧ Q (.v (g i j)) ρ
def aI (C : Int → Int → Prop) (g : Int → Int → D) : AR2 := fun x y ρ Q => ∃ i j, dat x ρ = some (.int i) ∧ dat y ρ = some (.int j) ∧ C i j ∧ Q (.v (g i j)) ρ
theorem two_dat {c : Ctx} {S H : Hp} {σ : L2.St} {ρ : AEnv} {τ : List (V × A)} {vx vy : V} {x y : A} {d e : D} (s : Stt K c S H σ ρ ((vy, y) :: (vx, x) :: τ)) (h1 : dat x ρ = some d) (h2 : dat y ρ = some e) : Rep K H d vx ∧ Rep K H e vy :=
  ⟨s.dat (List.mem_cons_of_mem _ (List.mem_cons_self ..)) h1, s.dat (List.mem_cons_self ..) h2⟩
theorem KE.sc {c : Ctx} {S H : Hp} {σ : L2.St} {ρ : AEnv} {τ : List (V × A)} {d : D} {v : V} {Q : AK} (s : Stt K c S H σ ρ τ) (h : Vs.sc d = some v) (q : Q (.v d) ρ) : KE K c σ τ Q v H := ⟨S, ρ, .v d, s.hold (rep_sc h), q⟩
theorem s2_I0 {g : Int → Int → V} {g' : Int → Int → D} (h : ∀ i j, sc (g' i j) = some (g i j)) : Sim2 K (rI0 g) (aI0 g') := by
  intro c τ S H σ ρ vx vy x y Q R s q k
  obtain ⟨i, j, h1, h2, q⟩ := q
  obtain ⟨r1, r2⟩ := two_dat s h1 h2
  simp only [Rep] at r1 r2
  exact ⟨i, j, r1, r2, k _ _ (KE.sc s.drop.drop (h i j) q)⟩
theorem s2_I {C : Int → Int → Prop} {g : Int → Int → V} {g' : Int → Int → D} (h : ∀ i j, sc (g' i j) = some (g i j)) : Sim2 K (rI C g) (aI C g') := by
  intro c τ S H σ ρ vx vy x y Q R s q k
  obtain ⟨i, j, h1, h2, hc, q⟩ := q
  obtain ⟨r1, r2⟩ := two_dat s h1 h2
  simp only [Rep] at r1 r2
  exact ⟨i, j, r1, r2, hc, k _ _ (KE.sc s.drop.drop (h i j) q)⟩
def aAdd : AR2 := aI0 fun i j => .int (i + j)
def aSub : AR2 := aI0 fun i j => .int (i - j)
def aMul : AR2 := aI CMul fun i j => .int (i * j)
def aDiv : AR2 := aI CDiv fun i j => .int (i / j)
def aMod : AR2 := aI (fun _ j => 0 < j) fun i j => .int (i % j)
def aPow : AR2 := aI CPow fun i j => .int (i ^ j.toNat)
def aLt : AR2 := aI0 fun i j => .bl (decide (i < j))
def aLe : AR2 := aI0 fun i j => .bl (decide (i ≤ j))
def aGt : AR2 := aI0 fun i j => .bl (decide (j < i))
def aGe : AR2 := aI0 fun i j => .bl (decide (j ≤ i))
theorem s_add : Sim2 K (rI0 fun i j => .int (i + j)) aAdd := s2_I0 fun _ _ => rfl
theorem s_sub : Sim2 K (rI0 fun i j => .int (i - j)) aSub := s2_I0 fun _ _ => rfl
theorem s_mul : Sim2 K (rI CMul fun i j => .int (i * j)) aMul := s2_I fun _ _ => rfl
theorem s_div : Sim2 K (rI CDiv fun i j => .int (i / j)) aDiv := s2_I fun _ _ => rfl
theorem s_mod : Sim2 K (rI (fun _ j => 0 < j) fun i j => .int (i % j)) aMod := s2_I fun _ _ => rfl
theorem s_pow : Sim2 K (rI CPow fun i j => .int (i ^ j.toNat)) aPow := s2_I fun _ _ => rfl
theorem s_lt : Sim2 K (rI0 fun i j => .bl (decide (i < j))) aLt := s2_I0 fun _ _ => rfl
theorem s_le : Sim2 K (rI0 fun i j => .bl (decide (i ≤ j))) aLe := s2_I0 fun _ _ => rfl
theorem s_gt : Sim2 K (rI0 fun i j => .bl (decide (j < i))) aGt := s2_I0 fun _ _ => rfl
theorem s_ge : Sim2 K (rI0 fun i j => .bl (decide (j ≤ i))) aGe := s2_I0 fun _ _ => rfl
def aNeg : AR1 := fun x ρ Q => ∃ i, dat x ρ = some (.int i) ∧ Q (.v (.int (-i))) ρ
theorem s_neg : Sim1 K (rU fun i => .int (-i)) aNeg := by
  intro c τ S H σ ρ vx x Q R s q k
  obtain ⟨i, h1, q⟩ := q
  have r1 := s.dat (List.mem_cons_self ..) h1
  simp only [Rep] at r1
  exact ⟨i, r1, k _ _ (KE.sc s.drop rfl q)⟩
/-- == -/
def rEqR (K : Fg) : R2 := fun x y H Q => ∃ d e, Rep K H d x ∧ Rep K H e y ∧ PlD 20 d ∧ PlD 20 e ∧ Q (.bl (deq d e)) H
def rNeR (K : Fg) : R2 := fun x y H Q => ∃ d e, Rep K H d x ∧ Rep K H e y ∧ PlD 20 d ∧ PlD 20 e ∧ Q (.bl (!deq d e)) H
theorem or_eq (hu : X.A.units + 64 < cLine) : OpR X (compareOp .Eq) (rEqR X.K) := by
  intro pins s σ H x y v u Q I rx ry h
  obtain ⟨d, e, hd, he, pd1, pe1, q⟩ := h
  obtain ⟨as, r1⟩ := Dp.reads I _ x v (rep_dp 20 d x pd1 hd) rx
  obtain ⟨bs, r2⟩ := Dp.reads I _ y u (rep_dp 20 e y pe1 he) ry
  obtain ⟨a1, a2⟩ := pd_plain 20 d pd1
  obtain ⟨b1, b2⟩ := pd_plain 20 e pe1
  refine SeqAt.eq_plain r1 r2 a1 b1 ?_ ⟨.bl _, H, I, rfl, ?_⟩
  · have := Nat.min_le_left (pd d).depth (pd e).depth
    omega
  · rw [← deq_pd 20 d e pd1 pe1]; exact q
theorem or_ne (hu : X.A.units + 64 < cLine) : OpR X (compareOp .NotEq) (rNeR X.K) := by
  intro pins s σ H x y v u Q I rx ry h
  obtain ⟨d, e, hd, he, pd1, pe1, q⟩ := h
  obtain ⟨as, r1⟩ := Dp.reads I _ x v (rep_dp 20 d x pd1 hd) rx
  obtain ⟨bs, r2⟩ := Dp.reads I _ y u (rep_dp 20 e y pe1 he) ry
  obtain ⟨a1, a2⟩ := pd_plain 20 d pd1
  obtain ⟨b1, b2⟩ := pd_plain 20 e pe1
  refine SeqAt.ne_plain r1 r2 a1 b1 ?_ ⟨.bl _, H, I, rfl, ?_⟩
  · have := Nat.min_le_left (pd d).depth (pd e).depth
    omega
  · rw [← deq_pd 20 d e pd1 pe1]; exact q
def aEq : AR2 := fun x y ρ Q => ∃ d e, dat x ρ = some d ∧ dat y ρ = some e ∧ PlD 20 d ∧ PlD 20 e ∧ Q (.v (.bl (deq d e))) ρ
def aNe : AR2 := fun x y ρ Q => ∃ d e, dat x ρ = some d ∧ dat y ρ = some e ∧ PlD 20 d ∧ PlD 20 e ∧ Q (.v (.bl (!deq d e))) ρ
theorem s_eq : Sim2 K (rEqR K) aEq := by
  intro c τ S H σ ρ vx vy x y Q R s q k
  obtain ⟨d, e, h1, h2, p1, p2, q⟩ := q
  obtain ⟨r1, r2⟩ := two_dat s h1 h2
  exact ⟨d, e, r1, r2, p1, p2, k _ _ (KE.sc s.drop.drop rfl q)⟩
theorem s_ne : Sim2 K (rNeR K) aNe := by
  intro c τ S H σ ρ vx vy x y Q R s q k
  obtain ⟨d, e, h1, h2, p1, p2, q⟩ := q
  obtain ⟨r1, r2⟩ := two_dat s h1 h2
  exact ⟨d, e, r1, r2, p1, p2, k _ _ (KE.sc s.drop.drop rfl q)⟩
/-- is None -/
def isNon : D → Bool
  | .non => true
  | _ => false
theorem isNon_rep {H : Hp} {d : D} {v : V} (r : Rep K H d v) : decide (v = .non) = isNon d := by
  cases d <;> simp only [Rep] at r <;> first
    | (subst r; rfl)
    | (obtain ⟨_, _, rfl, _⟩ := r; rfl)
    | (obtain ⟨_, _, _, rfl, _⟩ := r; rfl)
def aIs : AR2 := fun x y ρ Q => ∃ d, dat x ρ = some d ∧ dat y ρ = some .non ∧ Q (.v (.bl (isNon d))) ρ
def aIsNot : AR2 := fun x y ρ Q => ∃ d, dat x ρ = some d ∧ dat y ρ = some .non ∧ Q (.v (.bl (!isNon d))) ρ
theorem s_is : Sim2 K (fun x y H Q => y = .non ∧ Q (.bl (decide (x = .non))) H) aIs := by
  intro c τ S H σ ρ vx vy x y Q R s q k
  obtain ⟨d, h1, h2, q⟩ := q
  obtain ⟨r1, r2⟩ := two_dat s h1 h2
  simp only [Rep] at r2
  refine ⟨r2, ?_⟩
  rw [isNon_rep r1]
  exact k _ _ (KE.sc s.drop.drop rfl q)
theorem s_isNot : Sim2 K (fun x y H Q => y = .non ∧ Q (.bl (!decide (x = .non))) H) aIsNot := by
  intro c τ S H σ ρ vx vy x y Q R s q k
  obtain ⟨d, h1, h2, q⟩ := q
  obtain ⟨r1, r2⟩ := two_dat s h1 h2
  simp only [Rep] at r2
  refine ⟨r2, ?_⟩
  rw [isNon_rep r1]
  exact k _ _ (KE.sc s.drop.drop rfl q)
/-- x in c -/
def InD (d e : D) (b : Bool) : Prop := match e with
  | .lst xs => PlD 20 d ∧ (∀ x ∈ xs, PlD 20 x) ∧ b = xs.any fun z => deq z d
  | .tup xs => PlD 20 d ∧ (∀ x ∈ xs, PlD 20 x) ∧ b = xs.any fun z => deq z d
  | .dic kvs => ∃ k, keyD d = some k ∧ b = (valD kvs k).isSome
  | .str z => ∃ c, d = .str ⟨#[c]⟩ ∧ b = decide (c ∈ z.cps.toList)
  | _ => False
def rInR (K : Fg) (neg : Bool) : R2 := fun x y H Q => ∃ d e b, Rep K H d x ∧ Rep K H e y ∧ InD d e b ∧ Q (.bl (if neg then !b else b)) H
theorem any_pd {xs : List D} {d : D} (hx : ∀ x ∈ xs, PlD 20 x) (hd : PlD 20 d) : ((pdL xs).any fun y => PyData.eqv y (pd d)) = xs.any fun z => deq z d := by
  rw [pdL_map, List.any_map]
  induction xs with
  | nil => rfl
  | cons x xs ih =>
    have := ih fun z hz => hx z (by simp [hz])
    simp only [List.any_cons, Function.comp] at this ⊢
    rw [deq_pd 20 x d (hx x (by simp)) hd, this]
theorem or_in (hu : X.A.units + 64 < cLine) : OpR X (compareOp .In) (rInR X.K false) := by
  intro pins s σ H x y v u Q I rx ry h
  obtain ⟨d, e, b, hd, he, hin, q⟩ := h
  cases e with
  | lst xs =>
    simp only [InD] at hin
    obtain ⟨p1, p2, rfl⟩ := hin
    obtain ⟨as, r1⟩ := Dp.reads I _ x v (rep_dp 20 d x p1 hd) rx
    obtain ⟨bs, r2⟩ := Dp.reads I _ y u (rep_dp 21 (.lst xs) y (by simpa only [PlD] using p2) he) ry
    obtain ⟨a1, a2⟩ := pd_plain 20 d p1
    obtain ⟨b1, b2⟩ := pdL_plain 20 xs p2
    simp only [pd] at r2
    refine SeqAt.in_list_data r2 r1 b1 a1 ?_ ⟨.bl _, H, I, rfl, ?_⟩
    · have := Nat.min_le_right (PyData.depthAll (pdL xs)) (pd d).depth
      omega
    · rw [any_pd p2 p1]; exact q
  | tup xs =>
    simp only [InD] at hin
    obtain ⟨p1, p2, rfl⟩ := hin
    obtain ⟨as, r1⟩ := Dp.reads I _ x v (rep_dp 20 d x p1 hd) rx
    obtain ⟨bs, r2⟩ := Dp.reads I _ y u (rep_dp 21 (.tup xs) y (by simpa only [PlD] using p2) he) ry
    obtain ⟨a1, a2⟩ := pd_plain 20 d p1
    obtain ⟨b1, b2⟩ := pdL_plain 20 xs p2
    simp only [pd] at r2
    refine SeqAt.in_tuple_data r2 r1 b1 a1 ?_ ⟨.bl _, H, I, rfl, ?_⟩
    · have := Nat.min_le_right (PyData.depthAll (pdL xs)) (pd d).depth
      omega
    · rw [any_pd p2 p1]; exact q
  | dic kvs =>
    simp only [InD] at hin
    obtain ⟨k, hk, rfl⟩ := hin
    simp only [Rep] at he
    obtain ⟨a, ws, rfl, h1, h2⟩ := he
    have ex := key_rep hk hd
    subst ex
    cases ry
    refine d_in (by omega) I (o := valV ws k) (.inl ⟨ws, k, h1, rfl, rfl⟩) rx fun s' I' => ⟨.bl _, H, I', rfl, ?_⟩
    rcases h2.val (k := k) with ⟨e1, e2⟩ | ⟨d', v', e1, e2, _⟩ <;> (rw [e2]; rw [e1] at q; exact q)
  | str z =>
    simp only [InD] at hin
    obtain ⟨ch, rfl, rfl⟩ := hin
    simp only [Rep] at hd he
    exact op_in_sign pins s σ H x y v u Q I rx ry ⟨ch, z, hd, he, q⟩
  | non => cases hin
  | bl _ => cases hin
  | int _ => cases hin
  | ty _ => cases hin
  | obj _ _ => cases hin
theorem or_notIn (hu : X.A.units + 64 < cLine) : OpR X (compareOp .NotIn) (rInR X.K true) := by
  intro pins s σ H x y v u Q I rx ry h
  obtain ⟨d, e, b, hd, he, hin, q⟩ := h
  cases e with
  | lst xs =>
    simp only [InD] at hin
    obtain ⟨p1, p2, rfl⟩ := hin
    obtain ⟨as, r1⟩ := Dp.reads I _ x v (rep_dp 20 d x p1 hd) rx
    obtain ⟨bs, r2⟩ := Dp.reads I _ y u (rep_dp 21 (.lst xs) y (by simpa only [PlD] using p2) he) ry
    obtain ⟨a1, a2⟩ := pd_plain 20 d p1
    obtain ⟨b1, b2⟩ := pdL_plain 20 xs p2
    simp only [pd] at r2
    refine SeqAt.notIn_list_data r2 r1 b1 a1 ?_ ⟨.bl _, H, I, rfl, ?_⟩
    · have := Nat.min_le_right (PyData.depthAll (pdL xs)) (pd d).depth
      omega
    · rw [any_pd p2 p1]; exact q
  | tup xs =>
    simp only [InD] at hin
    obtain ⟨p1, p2, rfl⟩ := hin
    obtain ⟨as, r1⟩ := Dp.reads I _ x v (rep_dp 20 d x p1 hd) rx
    obtain ⟨bs, r2⟩ := Dp.reads I _ y u (rep_dp 21 (.tup xs) y (by simpa only [PlD] using p2) he) ry
    obtain ⟨a1, a2⟩ := pd_plain 20 d p1
    obtain ⟨b1, b2⟩ := pdL_plain 20 xs p2
    simp only [pd] at r2
    refine SeqAt.notIn_tuple_data r2 r1 b1 a1 ?_ ⟨.bl _, H, I, rfl, ?_⟩
    · have := Nat.min_le_right (PyData.depthAll (pdL xs)) (pd d).depth
      omega
    · rw [any_pd p2 p1]; exact q
  | dic kvs =>
    simp only [InD] at hin
    obtain ⟨k, hk, rfl⟩ := hin
    simp only [Rep] at he
    obtain ⟨a, ws, rfl, h1, h2⟩ := he
    have ex := key_rep hk hd
    subst ex
    cases ry
    refine d_notIn (by omega) I (o := valV ws k) (.inl ⟨ws, k, h1, rfl, rfl⟩) rx fun s' I' => ⟨.bl _, H, I', rfl, ?_⟩
    rcases h2.val (k := k) with ⟨e1, e2⟩ | ⟨d', v', e1, e2, _⟩ <;> (rw [e2]; rw [e1] at q; exact q)
  | str z =>
    simp only [InD] at hin
    obtain ⟨ch, rfl, rfl⟩ := hin
    simp only [Rep] at hd he
    exact op_notIn_sign pins s σ H x y v u Q I rx ry ⟨ch, z, hd, he, q⟩
  | non => cases hin
  | bl _ => cases hin
  | int _ => cases hin
  | ty _ => cases hin
  | obj _ _ => cases hin
def aIn (neg : Bool) : AR2 := fun x y ρ Q => ∃ d e b, dat x ρ = some d ∧ dat y ρ = some e ∧ InD d e b ∧ Q (.v (.bl (if neg then !b else b))) ρ
theorem s_in {neg : Bool} : Sim2 K (rInR K neg) (aIn neg) := by
  intro c τ S H σ ρ vx vy x y Q R s q k
  obtain ⟨d, e, b, h1, h2, hi, q⟩ := q
  obtain ⟨r1, r2⟩ := two_dat s h1 h2
  exact ⟨d, e, b, r1, r2, hi, k _ _ (KE.sc s.drop.drop rfl q)⟩
end
end Vs

set_option Elab.async false
set_option linter.all false
set_option maxRecDepth 100000
set_option maxHeartbeats 1000000
/-! Vs: subscripts, built-ins, statements. -/
namespace Vs
open PySem L2
section
variable {X : Cx} {P : Pm} {K : Fg} {a b e : Expr} {pos : Pos} {aa ab : AE}
/-! ### subscripts -/
def ItD (d i z : D) : Prop := match d with
  | .lst xs => ∃ j, i = .int j ∧ atI xs j = some z
  | .tup xs => ∃ j, i = .int j ∧ atI xs j = some z
  | .str x => ∃ j ch, i = .int j ∧ x.length ≤ 100000 ∧ atI x.cps.toList j = some ch ∧ z = .str ⟨#[ch]⟩
  | _ => False
def aItem : AR2 := fun x y ρ Q => ∃ d i z, dat x ρ = some d ∧ dat y ρ = some i ∧ ItD d i z ∧ Q (.v z) ρ
theorem s_item : Sim2 K (rIx K) aItem := by
  intro c τ S H σ ρ vx vy x y Q R s q k
  obtain ⟨d, i, z, h1, h2, hi, q⟩ := q
  obtain ⟨y0, g, r0, e0⟩ := s.thing (List.mem_cons_of_mem _ (List.mem_cons_self ..)) h1
  have r2 := (two_dat s h1 h2).2
  cases d with
  | lst xs =>
    simp only [ItD] at hi
    obtain ⟨j, rfl, hj⟩ := hi
    obtain ⟨p, vs, rfl, h3, h4⟩ := repA_lst r0 e0 s.le
    simp only [Rep] at r2
    obtain ⟨w, e1, e2⟩ := h4.at hj
    exact .inl ⟨p, vs, j, w, rfl, r2, h3, e1, k _ _ ⟨S, ρ, .v z, s.drop.drop.hold e2, q⟩⟩
  | tup xs =>
    simp only [ItD] at hi
    obtain ⟨j, rfl, hj⟩ := hi
    obtain ⟨p, vs, rfl, _, h3, h4⟩ := repA_tup r0 e0 s.le
    simp only [Rep] at r2
    obtain ⟨w, e1, e2⟩ := h4.at hj
    exact .inr (.inl ⟨p, vs, j, w, rfl, r2, h3, e1, k _ _ ⟨S, ρ, .v z, s.drop.drop.hold e2, q⟩⟩)
  | str t =>
    simp only [ItD] at hi
    obtain ⟨j, ch, rfl, hl, hj, rfl⟩ := hi
    have r1 := (two_dat s h1 h2).1
    simp only [Rep] at r1 r2
    exact .inr (.inr ⟨t, j, ch, r1, r2, Nat.le_trans hl (by decide), hj, k _ _ (KE.sc s.drop.drop rfl q)⟩)
  | non => cases hi
  | bl _ => cases hi
  | int _ => cases hi
  | ty _ => cases hi
  | dic _ => cases hi
  | obj _ _ => cases hi
theorem qe_item (ha : QE X P a aa) (hb : QE X P b ab) (hs : PlainIx b := by intro _ _; rfl) : QE X P (.Subscript a b pos) (aOp aItem aa ab) :=
  let ⟨_, p, s⟩ := ha.ex; let ⟨_, p2, s2⟩ := hb.ex; ⟨_, pe_ix ix_seq p p2 hs, sim_op s s2 s_item⟩
/-- d[k] -/
def aDItem : AR2 := fun x y ρ Q => ∃ kvs i k z, dat x ρ = some (.dic kvs) ∧ dat y ρ = some i ∧ keyD i = some k ∧ valD kvs k = some z ∧ Q (.v z) ρ
theorem qe_ditem (hu : X.A.units + 64 < cLine) (ha : QE X P a aa) (hb : QE X P b ab) (hs : NoSl b := by intro _ _; rfl) : QE X P (.Subscript a b pos) (aOp aDItem aa ab) := by
  obtain ⟨ta, pa, sa⟩ := ha.ex
  obtain ⟨tb, pb, sb⟩ := hb.ex
  refine ⟨_, pe_dget (by omega) pa pb hs, fun c EA ho hw τ S H σ ρ Q R s q k => sa c EA ho hw τ S H σ ρ _ _ s q fun vx H1 ⟨S1, ρ1, x, s1, q1⟩ => sb c EA ho hw ((vx, x) :: τ) S1 H1 σ ρ1 _ _ s1 q1 fun vy H2 ⟨S2, ρ2, y, s2, kvs, i, kk, z, h1, h2, h3, h4, q2⟩ => ?_⟩
  obtain ⟨y0, g, r0, e0⟩ := s2.thing (List.mem_cons_of_mem _ (List.mem_cons_self ..)) h1
  obtain ⟨p, ws, rfl, h5, h6⟩ := repA_dic r0 e0 s2.le
  have r2 := (two_dat s2 h1 h2).2
  have ek := key_rep h3 r2
  subst ek
  rcases h6.val (k := kk) with ⟨e1, _⟩ | ⟨d', v', e1, e2, e3⟩
  · rw [e1] at h4; cases h4
  · rw [h4] at e1
    cases e1
    exact ⟨p, v', rfl, .inl ⟨ws, kk, h5, rfl, e2.symm⟩, k _ _ ⟨S2, ρ2, .v z, s2.drop.drop.hold e3, q2⟩⟩
/-- d.get(k) -/
def aGet1 (aa ab : AE) : AE := fun EA ρ Q => aa EA ρ fun x ρ1 => (∃ kvs, dat x ρ1 = some (.dic kvs)) ∧ ab EA ρ1 fun y ρ2 => ∃ kvs i k, dat x ρ2 = some (.dic kvs) ∧ dat y ρ2 = some i ∧ keyD i = some k ∧ Q (.v ((valD kvs k).getD .non)) ρ2
theorem qe_dget1 {o : Expr} {apos cpos : Pos} (hu : X.A.units + 64 < cLine) (ha : QE X P o aa) (hb : QE X P e ab) (m : M1 X o "get" apos e cpos) : QE X P (.Call (.Attribute o "get" apos) [e] [] cpos) (aGet1 aa ab) := by
  obtain ⟨ta, pa, sa⟩ := ha.ex
  obtain ⟨tb, pb, sb⟩ := hb.ex
  refine ⟨_, pe_dget1 (by omega) pa pb m, fun c EA ho hw τ S H σ ρ Q R s q k => sa c EA ho hw τ S H σ ρ _ _ s q fun vx H1 ⟨S1, ρ1, x, s1, ⟨kvs0, h0⟩, q1⟩ => ?_⟩
  obtain ⟨y0, g, r0, e0⟩ := s1.thing (List.mem_cons_self ..) h0
  obtain ⟨p, ws, rfl, h5, h6⟩ := repA_dic r0 e0 s1.le
  refine ⟨p, rfl, .inl ⟨ws, h5⟩, sb c EA ho hw ((.ref p, x) :: τ) S1 H1 σ ρ1 _ _ s1 q1 fun vy H2 ⟨S2, ρ2, y, s2, kvs, i, kk, h1, h2, h3, q2⟩ => ?_⟩
  obtain ⟨y1, g1, r1, e1⟩ := s2.thing (List.mem_cons_of_mem _ (List.mem_cons_self ..)) h1
  obtain ⟨p', ws', e2, h7, h8⟩ := repA_dic r1 e1 s2.le
  cases e2
  have r2 := (two_dat s2 h1 h2).2
  have ek := key_rep h3 r2
  subst ek
  refine ⟨valV ws' kk, .inl ⟨ws', kk, h7, rfl, rfl⟩, ?_⟩
  rcases h8.val (k := kk) with ⟨e1, e2⟩ | ⟨d', v', e1, e2, e3⟩
  · rw [e1] at q2
    rw [e2]
    exact k _ _ (KE.sc s2.drop.drop rfl q2)
  · rw [e1] at q2
    rw [e2]
    exact k _ _ ⟨S2, ρ2, .v d', s2.drop.drop.hold e3, q2⟩

/-! ### slices -/
abbrev AO := AX → AEnv → (Option Int → AEnv → Prop) → Prop
structure QO (X : Cx) (P : Pm) (e : Option Expr) (ao : AO) : Prop where
  ex : ∃ t, PO X e t ∧ ∀ c EA, OsIn c P.O → XOk X.K c P.W EA → ∀ τ S H σ ρ Q (R : Option Int → Hp → Prop), Stt X.K c S H σ ρ τ → ao EA ρ Q → (∀ o H', (∃ S' ρ', Stt X.K c S' H' σ ρ' τ ∧ Q o ρ') → R o H') → t σ H R
def aoNone : AO := fun _ ρ Q => Q none ρ
def aoSome (ae : AE) : AO := fun EA ρ Q => ae EA ρ fun x ρ1 => ∃ i, dat x ρ1 = some (.int i) ∧ Q (some i) ρ1
theorem qo_none : QO X P none aoNone := ⟨_, po_none, fun c EA _ _ τ S H σ ρ Q R s q k => k _ _ ⟨S, ρ, s, q⟩⟩
theorem qo_some (ha : QE X P a aa) : QO X P (some a) (aoSome aa) := by
  obtain ⟨ta, pa, sa⟩ := ha.ex
  refine ⟨_, po_some pa, fun c EA ho hw τ S H σ ρ Q R s q k => sa c EA ho hw τ S H σ ρ _ _ s q fun vx H1 ⟨S1, ρ1, x, s1, i, h1, q1⟩ => ?_⟩
  have r := s1.dat (List.mem_cons_self ..) h1
  simp only [Rep] at r
  exact ⟨i, r, k _ _ ⟨S1, ρ1, s1.drop, q1⟩⟩
def cutD (xs : List D) (lo hi : Option Int) : List D := (xs.drop (HT.sIx xs.length 0 lo)).take (HT.sIx xs.length xs.length hi - HT.sIx xs.length 0 lo)
theorem RepL.cut {S : Hp} {xs : List D} {vs : List V} (lo hi : Option Int) (h : RepL K S xs vs) : RepL K S (cutD xs lo hi) (cutV vs lo hi) := by
  unfold cutD cutV
  rw [h.len]
  exact (h.drop _).take _
def aSlice (aa : AE) (al ah : AO) : AE := fun EA ρ Q => aa EA ρ fun x ρ1 => al EA ρ1 fun lo ρ2 => ah EA ρ2 fun hi ρ3 => ∃ d, dat x ρ3 = some d ∧ match d with
  | .lst xs => Q (.lst (cutD xs lo hi)) ρ3
  | .tup xs => Q (.v (.tup (cutD xs lo hi))) ρ3
  | _ => False
theorem cutV_whole {vs : List V} {lo hi : Option Int} (h1 : HT.sIx vs.length 0 lo = 0) (h2 : HT.sIx vs.length vs.length hi = vs.length) : cutV vs lo hi = vs := by
  unfold cutV
  rw [h1, h2]
  simp
theorem qe_slice {lo hi : Option Expr} {p2 : Pos} {al ah : AO} (ha : QE X P a aa) (hl : QO X P lo al) (hh : QO X P hi ah) : QE X P (.Subscript a (.Slice lo hi none p2) pos) (aSlice aa al ah) := by
  obtain ⟨ta, pa, sa⟩ := ha.ex
  obtain ⟨tl, pl, sl⟩ := hl.ex
  obtain ⟨th, ph, sh⟩ := hh.ex
  refine ⟨_, pe_slice (SlR.or sl_list sl_tupA) pa pl ph, fun c EA ho hw τ S H σ ρ Q R s q k => sa c EA ho hw τ S H σ ρ _ _ s q fun vx H1 ⟨S1, ρ1, x, s1, q1⟩ =>
    sl c EA ho hw _ S1 H1 σ ρ1 _ _ s1 q1 fun l H2 ⟨S2, ρ2, s2, q2⟩ => sh c EA ho hw _ S2 H2 σ ρ2 _ _ s2 q2 fun u H3 ⟨S3, ρ3, s3, d, h1, q3⟩ => ?_⟩
  obtain ⟨y0, g, r0, e0⟩ := s3.thing (List.mem_cons_self ..) h1
  cases d with
  | lst xs =>
    obtain ⟨p, vs, rfl, h5, h6⟩ := repA_lst r0 e0 s3.le
    refine .inl ⟨p, vs, rfl, h5, fun pn hp => k _ _ ⟨S3, ρ3, .lst (cutD xs l u), s3.drop.alloc hp rfl ?_, q3⟩⟩
    simp only [RepA]
    exact ⟨pn, _, rfl, upd_same, h6.cut l u, by first | rfl | trivial⟩
  | tup xs =>
    obtain ⟨p, vs, rfl, h4, h5, h6⟩ := repA_tup r0 e0 s3.le
    refine .inr ⟨p, vs, rfl, h5, fun hw2 => k _ _ ⟨S3, ρ3, .v (.tup (cutD xs l u)), s3.drop.hold ?_, q3⟩, fun _ pn hp => ?_⟩
    · have e1 := h6.cut l u
      rw [cutV_whole hw2.1 hw2.2] at e1
      simp only [Rep]
      exact ⟨p, vs, rfl, h4, e1⟩
    · have f1 := (s3.fresh hp).1
      refine k _ _ ⟨_, ρ3, .v (.tup (cutD xs l u)), s3.drop.share (o := .tup (cutV vs l u)) hp ?_, q3⟩
      simp only [Rep]
      exact ⟨pn, _, rfl, SqT.of upd_same, RepL.le (Le.of_same (Same.up f1)) _ _ (h6.cut l u)⟩
  | non => cases q3
  | bl _ => cases q3
  | int _ => cases q3
  | str _ => cases q3
  | ty _ => cases q3
  | dic _ => cases q3
  | obj _ _ => cases q3

/-! ### texts -/
def aAddS : AR2 := fun x y ρ Q => ∃ i j, dat x ρ = some (.str i) ∧ dat y ρ = some (.str j) ∧ i.length + j.length ≤ 100000 ∧ Q (.v (.str (i ++ j))) ρ
theorem s_addS : Sim2 K (fun x y H Q => ∃ i j, x = .str i ∧ y = .str j ∧ i.length + j.length ≤ sizeLine ∧ Q (.str (i ++ j)) H) aAddS := by
  intro c τ S H σ ρ vx vy x y Q R s q k
  obtain ⟨i, j, h1, h2, hc, q⟩ := q
  obtain ⟨r1, r2⟩ := two_dat s h1 h2
  simp only [Rep] at r1 r2
  exact ⟨i, j, r1, r2, Nat.le_trans hc (by decide), k _ _ (KE.sc s.drop.drop rfl q)⟩
/-- tuples, lists -/
def aAddT : AR2 := fun x y ρ Q => ∃ xs ys, dat x ρ = some (.tup xs) ∧ dat y ρ = some (.tup ys) ∧ xs.length + ys.length ≤ 100000 ∧ Q (.v (.tup (xs ++ ys))) ρ
theorem s_addT : Sim2 K (rCatA K) aAddT := by
  intro c τ S H σ ρ vx vy x y Q R s q k
  obtain ⟨xs, ys, h1, h2, hc, q⟩ := q
  obtain ⟨y0, g, r0, e0⟩ := s.thing (List.mem_cons_of_mem _ (List.mem_cons_self ..)) h1
  obtain ⟨y1, g1, r1, e1⟩ := s.thing (List.mem_cons_self ..) h2
  obtain ⟨p, vs, rfl, a1, a2, a3⟩ := repA_tup r0 e0 s.le
  obtain ⟨p', vs', rfl, b1, b2, b3⟩ := repA_tup r1 e1 s.le
  have ab := a3.app b3
  refine ⟨p, p', vs, vs', rfl, rfl, a2, b2, by rw [a3.len, b3.len]; exact Nat.le_trans hc (by decide), fun z => ?_, fun z1 z2 => ?_, fun z1 z2 pn hp => ?_⟩
  · rw [z] at ab
    refine k _ _ ⟨S, ρ, .v (.tup (xs ++ ys)), s.drop.drop.hold ?_, q⟩
    simp only [Rep]
    exact ⟨p', vs', rfl, b1, ab⟩
  · rw [z2, List.append_nil] at ab
    refine k _ _ ⟨S, ρ, .v (.tup (xs ++ ys)), s.drop.drop.hold ?_, q⟩
    simp only [Rep]
    exact ⟨p, vs, rfl, a1, ab⟩
  · have f1 := (s.fresh hp).1
    refine k _ _ ⟨_, ρ, .v (.tup (xs ++ ys)), s.drop.drop.share (o := .tup (vs ++ vs')) hp ?_, q⟩
    simp only [Rep]
    exact ⟨pn, _, rfl, SqT.of upd_same, RepL.le (Le.of_same (Same.up f1)) _ _ ab⟩

/-! ### built-ins -/
theorem one_arg {c : Ctx} {S H : Hp} {σ : L2.St} {ρ : AEnv} {τ : List (V × A)} {vs : List V} {x : A} (hl : vs.length = [x].length) (s : Stt K c S H σ ρ (vs.zip [x] ++ τ)) : ∃ v, vs = [v] ∧ Stt K c S H σ ρ ((v, x) :: τ) := by
  match vs, hl, s with
  | [v], _, s => exact ⟨v, rfl, by simpa using s⟩
theorem two_args {c : Ctx} {S H : Hp} {σ : L2.St} {ρ : AEnv} {τ : List (V × A)} {vs : List V} {x y : A} (hl : vs.length = [x, y].length) (s : Stt K c S H σ ρ (vs.zip [x, y] ++ τ)) : ∃ v w, vs = [v, w] ∧ Stt K c S H σ ρ ((w, y) :: (v, x) :: τ) := by
  match vs, hl, s with
  | [v, w], _, s => exact ⟨v, w, rfl, by
      have : Stt K c S H σ ρ ((v, x) :: (w, y) :: τ) := by simpa using s
      exact this.swap (.swap _ _ _)⟩
def lenD : D → Option Nat
  | .lst xs => some xs.length
  | .tup xs => some xs.length
  | .dic xs => some xs.length
  | .str x => if x.length ≤ 100000 then some x.length else none
  | _ => none
def rLenR (K : Fg) : List V → Hp → VK → Prop := fun xs H Q => (∃ x n, xs = [x] ∧ LenV K x H n ∧ Q (.int n) H) ∨ ∃ a kvs, xs = [V.ref a] ∧ Rd H a (.dK kvs) ∧ Q (.int kvs.length) H
theorem cr_len : CallR X (.builtin "len") (rLenR X.K) := by
  intro pins s σ H xs us Q I r h
  rcases h with h | ⟨a, kvs, rfl, ha, q⟩
  · exact call_len pins s σ H xs us Q I r h
  · obtain ⟨u, rfl, ru⟩ := vals1 r
    cases ru
    exact d_len I ha fun t s' I' => ⟨.int kvs.length, H, I', ⟨t, rfl⟩, q⟩
def aLen : ARs := fun xs ρ Q => ∃ x d n, xs = [x] ∧ dat x ρ = some d ∧ lenD d = some n ∧ Q (.v (.int n)) ρ
theorem s_len : Sims K (rLenR K) aLen := by
  intro c τ S H σ ρ vs xs Q R hl s q k
  obtain ⟨x, d, n, rfl, h1, h2, q⟩ := q
  obtain ⟨v, rfl, s⟩ := one_arg hl s
  obtain ⟨y0, g, r0, e0⟩ := s.thing (List.mem_cons_self ..) h1
  have kk : R (.int n) H := k _ _ (KE.sc s.drop rfl q)
  cases d with
  | lst xs =>
    simp only [lenD] at h2; injection h2 with h2; subst h2
    obtain ⟨p, vs, rfl, h3, h4⟩ := repA_lst r0 e0 s.le
    exact .inl ⟨_, xs.length, rfl, .inl ⟨vs, h3, h4.len.symm⟩, kk⟩
  | tup xs =>
    simp only [lenD] at h2; injection h2 with h2; subst h2
    obtain ⟨p, vs, rfl, _, h3, h4⟩ := repA_tup r0 e0 s.le
    exact .inl ⟨_, xs.length, rfl, .inr ⟨vs, h3, h4.len.symm⟩, kk⟩
  | dic xs =>
    simp only [lenD] at h2; injection h2 with h2; subst h2
    obtain ⟨p, vs, rfl, h3, h4⟩ := repA_dic r0 e0 s.le
    exact .inr ⟨p, vs, rfl, h3, by rw [h4.len]; exact kk⟩
  | str z =>
    simp only [lenD] at h2
    have r := s.dat (List.mem_cons_self ..) h1
    simp only [Rep] at r
    subst r
    by_cases hz : z.length ≤ 100000
    · rw [if_pos hz] at h2; injection h2 with h2; subst h2
      exact .inl ⟨_, z.length, rfl, ⟨Nat.le_trans hz (by decide), rfl⟩, kk⟩
    · rw [if_neg hz] at h2; cases h2
  | non => cases h2
  | bl _ => cases h2
  | int _ => cases h2
  | ty _ => cases h2
  | obj _ _ => cases h2
/-- int(x) of a number or a truth value -/
def aInt : ARs := fun xs ρ Q => ∃ x, xs = [x] ∧ ((∃ i, dat x ρ = some (.int i) ∧ Q (.v (.int i)) ρ) ∨ ∃ b, dat x ρ = some (.bl b) ∧ Q (.v (.int (if b then 1 else 0))) ρ)
theorem s_int : Sims K (fun xs H Q => (∃ i, xs = [.int i] ∧ Q (.int i) H) ∨ ∃ k, xs = [.bl k] ∧ Q (.int (if k then 1 else 0)) H) aInt := by
  intro c τ S H σ ρ vs xs Q R hl s q k
  obtain ⟨x, rfl, q⟩ := q
  obtain ⟨v, rfl, s⟩ := one_arg hl s
  rcases q with ⟨i, h1, q⟩ | ⟨b, h1, q⟩
  · have r := s.dat (List.mem_cons_self ..) h1
    simp only [Rep] at r
    exact .inl ⟨i, by rw [r], k _ _ (KE.sc s.drop rfl q)⟩
  · have r := s.dat (List.mem_cons_self ..) h1
    simp only [Rep] at r
    exact .inr ⟨b, by rw [r], k _ _ (KE.sc s.drop rfl q)⟩
def aAbs : ARs := fun xs ρ Q => ∃ x i, xs = [x] ∧ dat x ρ = some (.int i) ∧ Q (.v (.int (if i < 0 then -i else i))) ρ
theorem s_abs : Sims K (fun xs H Q => ∃ i, xs = [.int i] ∧ Q (.int (if i < 0 then -i else i)) H) aAbs := by
  intro c τ S H σ ρ vs xs Q R hl s q k
  obtain ⟨x, i, rfl, h1, q⟩ := q
  obtain ⟨v, rfl, s⟩ := one_arg hl s
  have r := s.dat (List.mem_cons_self ..) h1
  simp only [Rep] at r
  exact ⟨i, by rw [r], k _ _ (KE.sc s.drop rfl q)⟩
def aMax2 : ARs := fun xs ρ Q => ∃ x y i j, xs = [x, y] ∧ dat x ρ = some (.int i) ∧ dat y ρ = some (.int j) ∧ Q (.v (.int (if j > i then j else i))) ρ
def aMin2 : ARs := fun xs ρ Q => ∃ x y i j, xs = [x, y] ∧ dat x ρ = some (.int i) ∧ dat y ρ = some (.int j) ∧ Q (.v (.int (if j < i then j else i))) ρ
theorem s_max2 : Sims K (fun xs H Q => ∃ i j, xs = [.int i, .int j] ∧ Q (.int (if j > i then j else i)) H) aMax2 := by
  intro c τ S H σ ρ vs xs Q R hl s q k
  obtain ⟨x, y, i, j, rfl, h1, h2, q⟩ := q
  obtain ⟨v, w, rfl, s2⟩ := two_args (x := x) (y := y) hl s
  obtain ⟨r1, r2⟩ := two_dat s2 h1 h2
  simp only [Rep] at r1 r2
  exact ⟨i, j, by rw [r1, r2], k _ _ (KE.sc s2.drop.drop rfl q)⟩
theorem s_min2 : Sims K (fun xs H Q => ∃ i j, xs = [.int i, .int j] ∧ Q (.int (if j < i then j else i)) H) aMin2 := by
  intro c τ S H σ ρ vs xs Q R hl s q k
  obtain ⟨x, y, i, j, rfl, h1, h2, q⟩ := q
  obtain ⟨v, w, rfl, s2⟩ := two_args (x := x) (y := y) hl s
  obtain ⟨r1, r2⟩ := two_dat s2 h1 h2
  simp only [Rep] at r1 r2
  exact ⟨i, j, by rw [r1, r2], k _ _ (KE.sc s2.drop.drop rfl q)⟩
/-- list(x): of a list, a tuple, a dict -/
def keyOf : Key → D
  | .inl i => .int i
  | .inr x => .str x
def itemsD : D → Option (List D)
  | .lst xs => some xs
  | .tup xs => some xs
  | .dic kvs => some (kvs.map fun p => keyOf p.1)
  | _ => none
def rListR (K : Fg) : List V → Hp → VK → Prop := fun xs H Q => (∃ p ys, xs = [.ref p] ∧ (SqL K H p ys ∨ SqT K H p ys) ∧ ∀ l, H l = none → Q (.ref l) (upd H l (.lst ys))) ∨
  ∃ (a : Addr) (kvs : List (Key × V)), xs = [.ref a] ∧ Rd H a (.dK kvs) ∧ ∀ p, H p = none → Q (.ref p) (upd H p (.lst (kvs.map fun kv => kV kv.1)))
theorem cr_list (hc : X.calm = true) : CallR X (.type "list") (rListR X.K) := by
  intro pins s σ H xs us Q I r h
  rcases h with h | h
  · exact call_list_of pins s σ H xs us Q I r h
  · exact call_listD hc pins s σ H xs us Q I r h
theorem repK_keys {S : Hp} : ∀ {kvs : List (Key × D)} {ws : List (Key × V)}, RepK K S kvs ws → RepL K S (kvs.map fun p => keyOf p.1) (ws.map fun kv => kV kv.1)
  | [], ws, h => by
    simp only [RepK] at h
    subst h
    simp [RepL]
  | (k, x) :: r, ws, h => by
    simp only [RepK] at h
    obtain ⟨v, r', rfl, h1, h2⟩ := h
    simp only [List.map_cons, RepL]
    refine ⟨_, _, rfl, ?_, repK_keys h2⟩
    cases k <;> simp only [keyOf, Rep, kV]
def aList : ARs := fun xs ρ Q => ∃ x d ys, xs = [x] ∧ dat x ρ = some d ∧ itemsD d = some ys ∧ Q (.lst ys) ρ
theorem Stt.newList {c : Ctx} {S H : Hp} {σ : L2.St} {ρ : AEnv} {τ : List (V × A)} {p : Addr} {vs : List V} {ds : List D} (s : Stt K c S H σ ρ τ) (hp : H p = none) (h : RepL K S ds vs) : Stt K c S (upd H p (.lst vs)) σ ρ ((.ref p, .lst ds) :: τ) := by
  refine s.alloc hp rfl ?_
  simp only [RepA]
  exact ⟨p, vs, rfl, upd_same, h, by first | rfl | trivial⟩
theorem s_list : Sims K (rListR K) aList := by
  intro c τ S H σ ρ vs xs Q R hl s q k
  obtain ⟨x, d, ys, rfl, h1, h2, q⟩ := q
  obtain ⟨v, rfl, s⟩ := one_arg hl s
  obtain ⟨y0, g, r0, e0⟩ := s.thing (List.mem_cons_self ..) h1
  cases d with
  | lst xs =>
    simp only [itemsD] at h2; injection h2 with h2; subst h2
    obtain ⟨p, vs, rfl, h3, h4⟩ := repA_lst r0 e0 s.le
    exact .inl ⟨p, vs, rfl, .inl h3, fun l hn => k _ _ ⟨S, ρ, _, s.drop.newList hn h4, q⟩⟩
  | tup xs =>
    simp only [itemsD] at h2; injection h2 with h2; subst h2
    obtain ⟨p, vs, rfl, _, h3, h4⟩ := repA_tup r0 e0 s.le
    exact .inl ⟨p, vs, rfl, .inr h3, fun l hn => k _ _ ⟨S, ρ, _, s.drop.newList hn h4, q⟩⟩
  | dic xs =>
    simp only [itemsD] at h2; injection h2 with h2; subst h2
    obtain ⟨p, vs, rfl, h3, h4⟩ := repA_dic r0 e0 s.le
    exact .inr ⟨p, vs, rfl, h3, fun l hn => k _ _ ⟨S, ρ, _, s.drop.newList hn (repK_keys h4), q⟩⟩
  | non => cases h2
  | bl _ => cases h2
  | int _ => cases h2
  | str _ => cases h2
  | ty _ => cases h2
  | obj _ _ => cases h2
/-- tuple(x) of a list or a tuple -/
def aTuple : ARs := fun xs ρ Q => ∃ x d ys, xs = [x] ∧ dat x ρ = some d ∧ (d = .lst ys ∨ d = .tup ys) ∧ Q (.v (.tup ys)) ρ
theorem s_tuple : Sims K (fun xs H Q => ∃ p ys, xs = [.ref p] ∧ ((SqL K H p ys ∧ ∀ l, H l = none → Q (.ref l) (upd H l (.tup ys))) ∨ (SqT K H p ys ∧ Q (.ref p) H))) aTuple := by
  intro c τ S H σ ρ vs xs Q R hl s q k
  obtain ⟨x, d, ys, rfl, h1, h2, q⟩ := q
  obtain ⟨v, rfl, s⟩ := one_arg hl s
  obtain ⟨y0, g, r0, e0⟩ := s.thing (List.mem_cons_self ..) h1
  rcases h2 with rfl | rfl
  · obtain ⟨p, vs, rfl, h3, h4⟩ := repA_lst r0 e0 s.le
    refine ⟨p, vs, rfl, .inl ⟨h3, fun l hn => ?_⟩⟩
    have f1 := (s.fresh hn).1
    refine k _ _ ⟨_, ρ, _, s.drop.share (o := .tup vs) (d := .tup ys) hn ?_, q⟩
    simp only [Rep]
    exact ⟨l, vs, rfl, SqT.of upd_same, RepL.le (Le.of_same (Same.up f1)) _ _ h4⟩
  · obtain ⟨p, vs, rfl, h3, h5, h4⟩ := repA_tup r0 e0 s.le
    refine ⟨p, vs, rfl, .inr ⟨h5, k _ _ ⟨S, ρ, _, s.drop.hold (d := .tup ys) ?_, q⟩⟩⟩
    simp only [Rep]
    exact ⟨p, vs, rfl, h3, h4⟩
/-- all(xs) of a list of truth values -/
def aAll : ARs := fun xs ρ Q => ∃ (x : A) (bs : List Bool), xs = [x] ∧ dat x ρ = some (.lst (bs.map D.bl)) ∧ Q (.v (.bl (bs.all id))) ρ
theorem repL_bl {S : Hp} : ∀ {bs : List Bool} {vs : List V}, RepL K S (bs.map D.bl) vs → vs = bs.map V.bl
  | [], vs, h => by simp only [List.map_nil, RepL] at h; rw [h]; rfl
  | b :: bs, vs, h => by
    simp only [List.map_cons, RepL] at h
    obtain ⟨v, r, rfl, h1, h2⟩ := h
    simp only [Rep] at h1
    rw [h1, repL_bl h2]; rfl
theorem s_all : Sims K (rAll K) aAll := by
  intro c τ S H σ ρ vs xs Q R hl s q k
  obtain ⟨x, bs, rfl, h1, q⟩ := q
  obtain ⟨v, rfl, s⟩ := one_arg hl s
  obtain ⟨y0, g, r0, e0⟩ := s.thing (List.mem_cons_self ..) h1
  obtain ⟨p, vs, rfl, h3, h4⟩ := repA_lst r0 e0 s.le
  have e := repL_bl h4
  subst e
  exact ⟨p, bs, rfl, h3, k _ _ (KE.sc s.drop rfl q)⟩
end
end Vs

set_option Elab.async false
set_option linter.all false
set_option maxRecDepth 100000
set_option maxHeartbeats 1000000
/-! Vs: statements, defs, calls. -/
namespace Vs
open PySem L2
section
variable {X : Cx} {P : Pm} {K : Fg} {pos : Pos}
/-! ### statements -/
def asNext : AS := fun DA ρ => DA.nx ρ
def asSeq (a b : AS) : AS := fun DA ρ => a { DA with nx := b DA } ρ
def asExpr (ae : AE) : AS := fun DA ρ => ae DA.ex ρ fun _ ρ' => DA.nx ρ'
def retA (x : A) (ρ : AEnv) (rt : A → AEnv → Prop) : Prop := match x with
  | .loc i => ∃ y, ρ[i]? = some (some y) ∧ rt y (ρ.set i none)
  | y => rt y ρ
def asRet (ae : AE) : AS := fun DA ρ => ae DA.ex ρ fun x ρ' => retA x ρ' DA.rt
def asRetN : AS := fun DA ρ => DA.rt (.v .non) ρ
def asIf (t : AT) (a b : AS) : AS := fun DA ρ => t DA.ex ρ fun b' ρ' => if b' = true then a DA ρ' else b DA ρ'
def asBreak : AS := fun DA ρ => DA.bk ρ
def asCont : AS := fun DA ρ => DA.ct ρ
theorem ss_next : SimS K P tNext asNext := fun c D DA _ _ l S H σ ρ s q => l.nx S H σ ρ s q
theorem ss_seq {t u : TS} {a b : AS} (h1 : SimS K P t a) (h2 : SimS K P u b) : SimS K P (tSeq t u) (asSeq a b) := fun c D DA ho hw l S H σ ρ s q =>
  h1 c { D with nx := u D } { DA with nx := b DA } ho hw ⟨fun S H σ ρ s q => h2 c D DA ho hw l S H σ ρ s q, l.rt, l.bk, l.ct⟩ S H σ ρ s q
theorem ss_expr {te : TE} {ae : AE} (h : SimE K P te ae) : SimS K P (tDrop te) (asExpr ae) := fun c D DA ho hw l S H σ ρ s q =>
  h c DA.ex ho hw [] S H σ ρ _ _ s q fun v H1 ⟨S1, ρ1, x, s1, q1⟩ => l.nx S1 H1 σ ρ1 s1.drop q1
theorem ret_sim {c : Ctx} {S H : Hp} {σ : L2.St} {ρ : AEnv} {v : V} {x : A} {rt : A → AEnv → Prop} {R : Prop} (s : Stt K c S H σ ρ [(v, x)]) (h : retA x ρ rt) (k : ∀ y ρ', isLoc y = false → Stt K c S H σ ρ' [(v, y)] → rt y ρ' → R) : R := by
  cases hx : isLoc x with
  | false =>
    refine k x ρ hx s ?_
    cases x <;> first | exact h | cases hx
  | true =>
    cases x with
    | loc i =>
      obtain ⟨y, hy, hr⟩ := h
      have hv := (s.loc v i (List.mem_cons_self ..)).1
      exact k y _ (isLoc_of (s.env.get hy).2) (s.drop.takeSlot hy hv (fun u m => by simp at m)) hr
    | _ => cases hx
theorem ss_ret {te : TE} {ae : AE} (h : SimE K P te ae) : SimS K P (tRet te) (asRet ae) := fun c D DA ho hw l S H σ ρ s q =>
  h c DA.ex ho hw [] S H σ ρ _ _ s q fun v H1 ⟨S1, ρ1, x, s1, q1⟩ => ret_sim s1 q1 fun y ρ' hy s2 q2 => l.rt S1 H1 σ ρ' v y s2 hy q2
theorem ss_if {t : TT} {a : AT} {u u' : TS} {b b' : AS} (h : SimT K P t a) (h1 : SimS K P u b) (h2 : SimS K P u' b') : SimS K P (tIfS t u u') (asIf a b b') := fun c D DA ho hw l S H σ ρ s q =>
  h c DA.ex ho hw [] S H σ ρ _ _ s q fun v H1 ⟨S1, ρ1, s1, q1⟩ => by
    cases v with
    | true => rw [if_pos rfl] at q1 ⊢; exact h1 c D DA ho hw l S1 H1 σ ρ1 s1 q1
    | false => rw [if_neg Bool.false_ne_true] at q1 ⊢; exact h2 c D DA ho hw l S1 H1 σ ρ1 s1 q1
theorem qss_nil : QSs X P [] asNext := ⟨_, pss_nil, ss_next⟩
theorem qss_cons {st : Stmt} {rest : List Stmt} {a b : AS} (h1 : QS X P st a) (h2 : QSs X P rest b) : QSs X P (st :: rest) (asSeq a b) := let ⟨_, p, s⟩ := h1.ex; let ⟨_, p2, s2⟩ := h2.ex; ⟨_, pss_cons p p2, ss_seq s s2⟩
theorem qss_one {st : Stmt} {a : AS} (h1 : QS X P st a) : QSs X P [st] a := let ⟨_, p, s⟩ := h1.ex; ⟨_, pss_one p, s⟩
theorem qs_pass : QS X P (.Pass pos) asNext := ⟨_, ps_pass, ss_next⟩
theorem qs_break : QS X P (.Break pos) asBreak := ⟨_, ps_break, fun c D DA _ _ l S H σ ρ s q => l.bk S H σ ρ s q⟩
theorem qs_cont : QS X P (.Continue pos) asCont := ⟨_, ps_continue, fun c D DA _ _ l S H σ ρ s q => l.ct S H σ ρ s q⟩
theorem qs_expr {e : Expr} {ae : AE} (h : QE X P e ae) (hs : swapsWith e none pos.line X.env = pure false := by rfl) : QS X P (.Expr e pos) (asExpr ae) := let ⟨_, p, s⟩ := h.ex; ⟨_, ps_expr p hs, ss_expr s⟩
theorem qs_ret {e : Expr} {ae : AE} (h : QE X P e ae) : QS X P (.Return (some e) pos) (asRet ae) := let ⟨_, p, s⟩ := h.ex; ⟨_, ps_ret p, ss_ret s⟩
theorem qs_retN : QS X P (.Return none pos) asRetN := ⟨_, ps_retN, fun c D DA _ _ l S H σ ρ s q => l.rt S H σ ρ .non (.v .non) (s.hold (rep_sc rfl)) rfl q⟩
theorem qs_if {e : Expr} {a b : List Stmt} {t : AT} {u u' : AS} (h : QT X P e t) (h1 : QSs X P a u) (h2 : QSs X P b u') : QS X P (.If e a b pos) (asIf t u u') := let ⟨_, p, s⟩ := h.ex; let ⟨_, p1, s1⟩ := h1.ex; let ⟨_, p2, s2⟩ := h2.ex; ⟨_, ps_if p p1 p2, ss_if s s1 s2⟩

/-! ### a name gets a thing -/
theorem Stt.clear {c : Ctx} {S H : Hp} {σ : L2.St} {ρ : AEnv} {τ : List (V × A)} (s : Stt K c S H σ ρ τ) (i : Nat) (hn : ∀ v, (v, A.loc i) ∉ τ) : Stt K c S H σ (ρ.set i none) τ := by
  cases h : ρ[i]? with
  | none =>
    have : ρ.set i none = ρ := List.set_eq_of_length_le (by simpa using h)
    rw [this]; exact s
  | some o =>
    cases o with
    | none => rw [set_self h]; exact s
    | some y =>
      obtain ⟨⟨v, hv⟩, _⟩ := s.env.get h
      exact (s.takeSlot h hv hn).drop
theorem Stt.store {c : Ctx} {S H : Hp} {σ : L2.St} {ρ : AEnv} {τ : List (V × A)} {v : V} {x : A} {i : Nat} (s : Stt K c S H σ ρ ((v, x) :: τ)) (hx : isLoc x = false) (ho : ∀ p ∈ c.os, p.1 ≠ i) (hn : ∀ u, (u, A.loc i) ∉ τ) : Stt K c S H (σ.set i (some v)) (ρ.set i (some x)) τ := by
  have s1 : Stt K c S H σ (ρ.set i none) ((v, x) :: τ) := s.clear i fun u m => by
    rcases List.mem_cons.mp m with q | q
    · injection q with _ q; rw [← q] at hx; cases hx
    · exact hn u q
  refine ⟨?_, ?_, fun u j m => ?_, s1.le, s1.r, s1.new, s1.up, fun p m => ?_⟩
  · by_cases hi : i < ρ.length
    · obtain ⟨fp, h1, h2, h3⟩ := s1.own
      have hlen : i < σ.length := by rw [s.env.len]; exact hi
      have hv : (σ.set i (some v))[i]? = some (some v) := by rw [List.getElem?_set_self hlen]
      have p : (envP (ρ.set i none) σ ++ tmpP ((v, x) :: τ)).Perm (envP (ρ.set i (some x)) (σ.set i (some v)) ++ tmpP τ) := by
        rw [tmpP_cons hx]
        have q := envP_some (ρ := ρ) (σ := σ.set i (some v)) (i := i) (y := x) (v := v) hi hv
        rw [envP_none] at q
        exact List.perm_middle.trans (List.Perm.append_right _ q.symm)
      obtain ⟨fq, q1, q2⟩ := RepP.perm p h1
      exact ⟨fq, q1, q2.nodup_iff.mp h2, fun a ha => h3 a (q2.symm.subset ha)⟩
    · have hl : ρ.length ≤ i := by omega
      rw [List.set_eq_of_length_le hl, List.set_eq_of_length_le (by rw [s.env.len]; exact hl)]
      exact s.drop.own
  · exact s.env.store fun y e => by cases e; exact ⟨⟨v, rfl⟩, not_loc hx⟩
  · obtain ⟨z1, y, z2⟩ := s.loc u j (List.mem_cons_of_mem _ m)
    have ne : i ≠ j := fun e => hn u (e ▸ m)
    exact ⟨by rw [List.getElem?_set_ne ne]; exact z1, y, by rw [List.getElem?_set_ne ne]; exact z2⟩
  · rw [List.getElem?_set_ne (Ne.symm (ho p m))]
    exact s.os p m
def setA (x : A) (ρ : AEnv) (i : Nat) (nx : AEnv → Prop) : Prop := match x with
  | .loc j => ∃ y, ρ[j]? = some (some y) ∧ nx ((ρ.set j (some (.v y.toD))).set i (some (.v y.toD)))
  | y => nx (ρ.set i (some y))
theorem set_sim {c : Ctx} {S H : Hp} {σ : L2.St} {ρ : AEnv} {v : V} {x : A} {i : Nat} {nx : AEnv → Prop} {R : Prop} (s : Stt K c S H σ ρ [(v, x)]) (ho : ∀ p ∈ c.os, p.1 ≠ i) (h : setA x ρ i nx) (k : ∀ S' ρ', Stt K c S' H (σ.set i (some v)) ρ' [] → nx ρ' → R) : R := by
  cases hx : isLoc x with
  | false =>
    refine k S _ (s.store hx ho (by simp)) ?_
    cases x <;> first | exact h | cases hx
  | true =>
    cases x with
    | loc j =>
      obtain ⟨y, hy, hk⟩ := h
      obtain ⟨S', d, ρ', sm, s', hk'⟩ := use_sim (k := fun d ρ' => nx (ρ'.set i (some (.v d)))) s ⟨y, hy, hk⟩
      exact k S' _ (s'.store rfl ho (by simp)) hk'
    | _ => cases hx
def asSet (i : Nat) (ae : AE) : AS := fun DA ρ => ae DA.ex ρ fun x ρ' => setA x ρ' i DA.nx
theorem OsIn.ne {c : Ctx} {O : List Nat} {i : Nat} (h : OsIn c O) (hi : i ∉ O) : ∀ p ∈ c.os, p.1 ≠ i := fun p m e => hi (e ▸ h.1 p m)
theorem qs_set {i : Nat} {x : Str} {e : Expr} {ae : AE} {pos' : Pos} (hN : X.N.Nodup) (hi : X.N[i]? = some x) (hx : Loc X.env.scope x) (h : QE X P e ae) (hO : i ∉ P.O) (hs : swapsWith e (some (.Name x pos')) pos.line X.env = pure false := by rfl) (hf : X.fn x = true ∨ X.env.scope.names.lookup x = some .local := by first | exact .inl rfl | exact .inr rfl | assumption) :
    QS X P (.Assign [.Name x pos'] e pos) (asSet i ae) := by
  obtain ⟨t, p, s⟩ := h.ex
  refine ⟨_, ps_set hN hi hx p hs hf, fun c D DA ho hw l S H σ ρ st q => s c DA.ex ho hw [] S H σ ρ _ _ st q fun v H1 ⟨S1, ρ1, y, s1, q1⟩ => ?_⟩
  exact set_sim s1 (ho.ne hO) q1 fun S' ρ' s2 q2 => l.nx S' H1 _ ρ' s2 q2

/-! ### an owned thing is changed -/
theorem Stt.write {c : Ctx} {S H : Hp} {σ : L2.St} {ρ : AEnv} {τ : List (V × A)} {p : Addr} {o : HO} {y y' : A} {j : Nat} (s : Stt K c S H σ ρ τ) (h : ρ[j]? = some (some y)) (hv : σ[j]? = some (some (.ref p))) (hg : ∀ g, RepA K S H y (.ref p) g → g = [p]) (hy : isLoc y' = false) (hr : RepA K S (upd H p o) y' (.ref p) [p]) :
    Stt K c S (upd H p o) σ (ρ.set j (some y')) τ := by
  refine s.slotTo h hv (fun g f a1 a2 nd a3 => ?_) hy
  have eg := hg g a1
  subst eg
  have np : p ∉ f := fun z => (List.nodup_append.mp nd).2.2 p (List.mem_cons_self ..) p z rfl
  have Sp : S p = none := (a3 p (by simp)).1
  have Rp : c.R p = none := (a3 p (by simp)).2
  exact ⟨[p], hr, nd, a3, fun a ha => upd_ne (fun z => np (z ▸ ha)), Same.refl S, s.le.up Sp, fun a o' e => by rw [upd_ne (ne_of_none e Rp)]; exact s.r a o' e, s.new⟩
/-- o[i] = e, o an owned list -/
def asSetL (av ao ai : AE) : AS := fun DA ρ => av DA.ex ρ fun x ρ1 => useA x ρ1 fun d ρ2 => ao DA.ex ρ2 fun o ρ3 => ai DA.ex ρ3 fun iv ρ4 => ∃ j xs k n, o = .loc j ∧ ρ4[j]? = some (some (.lst xs)) ∧ dat iv ρ4 = some (.int k) ∧ ixN xs.length k = some n ∧ DA.nx (ρ4.set j (some (.lst (xs.set n d))))
def asSetD (av ao ai : AE) : AS := fun DA ρ => av DA.ex ρ fun x ρ1 => useA x ρ1 fun d ρ2 => ao DA.ex ρ2 fun o ρ3 => ai DA.ex ρ3 fun iv ρ4 => ∃ j kvs i k, o = .loc j ∧ ρ4[j]? = some (some (.dic kvs)) ∧ dat iv ρ4 = some i ∧ keyD i = some k ∧ kvs.length ≤ 100000 ∧ DA.nx (ρ4.set j (some (.dic (putD kvs k d))))
theorem RepA.lst_inv {S H : Hp} {xs : List D} {v : V} {g : List Addr} (h : RepA K S H (.lst xs) v g) : ∃ a vs, v = .ref a ∧ H a = some (.lst vs) ∧ RepL K S xs vs ∧ g = [a] := by simpa only [RepA] using h
theorem RepA.dic_inv {S H : Hp} {xs : List (Key × D)} {v : V} {g : List Addr} (h : RepA K S H (.dic xs) v g) : ∃ a ws, v = .ref a ∧ H a = some (.dK ws) ∧ RepK K S xs ws ∧ g = [a] := by simpa only [RepA] using h
theorem RepA.mk_lst {S H : Hp} {xs : List D} {a : Addr} {vs : List V} (h : H a = some (.lst vs)) (r : RepL K S xs vs) : RepA K S H (.lst xs) (.ref a) [a] := by
  simp only [RepA]
  exact ⟨a, vs, rfl, h, r, by first | rfl | trivial⟩
theorem RepA.mk_dic {S H : Hp} {xs : List (Key × D)} {a : Addr} {vs : List (Key × V)} (h : H a = some (.dK vs)) (r : RepK K S xs vs) : RepA K S H (.dic xs) (.ref a) [a] := by
  simp only [RepA]
  exact ⟨a, vs, rfl, h, r, by first | rfl | trivial⟩
theorem Stt.slotA {c : Ctx} {S H : Hp} {σ : L2.St} {ρ : AEnv} {τ : List (V × A)} {y : A} {j : Nat} {v : V} (s : Stt K c S H σ ρ τ) (h : ρ[j]? = some (some y)) (hv : σ[j]? = some (some v)) : ∃ g, RepA K S H y v g := by
  obtain ⟨fp, h1, _, _⟩ := s.own
  obtain ⟨f1, f2, q1, q2, q3⟩ := h1.append
  obtain ⟨fq, z1, z2⟩ := RepP.perm (envP_take h hv) q1
  obtain ⟨g, h', a1, _, _⟩ := z1
  exact ⟨g, a1⟩
theorem qs_setL {o i e : Expr} {av ao ai : AE} {pos' : Pos} (hv : QE X P e av) (ho' : QE X P o ao) (hi : QE X P i ai)
    (ha : ∀ v, assign (.Subscript o i pos') X.env v = (do
      let ov ← holding [v] (eval o X.env)
      let iv ← holding [v, ov] (eval i X.env)
      standAt pos'
      holding [v, ov, iv] (setItem ov iv v)
      release [v, ov, iv] []) := by intro _; rfl)
    (hs : swapsWithSole [.Subscript o i pos'] e pos.line X.env = pure false := by rfl) (hw : swappedStores [.Subscript o i pos'] e X.env = pure none := by rfl)
    (h1 : (assignEach [.Subscript o i pos'] X.env).map (·.2) = [assign (.Subscript o i pos') X.env] := by rfl) : QS X P (.Assign [.Subscript o i pos'] e pos) (asSetL av ao ai) := by
  obtain ⟨tv, pv, sv⟩ := hv.ex
  obtain ⟨to, po, so⟩ := ho'.ex
  obtain ⟨ti, pi, si⟩ := hi.ex
  refine ⟨_, ps_asg pv (pg_sub po pi set_list ha) hs hw h1, fun c D DA ho hw l S H σ ρ st q => sv c DA.ex ho hw [] S H σ ρ _ _ st q fun v H1 ⟨S1, ρ1, y, s1, q1⟩ => ?_⟩
  obtain ⟨S2, d, ρ2, sm, s2, q2⟩ := use_sim s1 q1
  refine so c DA.ex ho hw _ S2 H1 σ ρ2 _ _ s2 q2 fun vo H2 ⟨S3, ρ3, xo, s3, q3⟩ => si c DA.ex ho hw _ S3 H2 σ ρ3 _ _ s3 q3 fun vi H3 ⟨S4, ρ4, xi, s4, j, xs, k, n, eo, hj, hk, hn, q4⟩ => ?_
  subst eo
  have hvo : σ[j]? = some (some vo) := (s4.loc vo j (by simp)).1
  obtain ⟨g, ra⟩ := s4.slotA hj hvo
  obtain ⟨p, vs, rfl, hp, rl, rfl⟩ := ra.lst_inv
  have rk := s4.dat (List.mem_cons_self ..) hk
  simp only [Rep] at rk
  have rd : Rep X.K S4 d v := s4.dataMem (by simp)
  refine ⟨p, vs, k, n, rfl, rk, hp, by rw [rl.len]; exact hn, ?_⟩
  have s5 := s4.write (o := .lst (vs.set n v)) (y' := .lst (xs.set n d)) hj hvo (fun g' h => by obtain ⟨a', _, e, _, _, e2⟩ := h.lst_inv; cases e; exact e2) rfl (.mk_lst upd_same (rl.set n rd))
  exact l.nx S4 _ σ _ s5.drop.drop.drop q4
theorem qs_setD {o i e : Expr} {av ao ai : AE} {pos' : Pos} (hu : X.A.units + 64 < cLine) (hv : QE X P e av) (ho' : QE X P o ao) (hi : QE X P i ai)
    (ha : ∀ v, assign (.Subscript o i pos') X.env v = (do
      let ov ← holding [v] (eval o X.env)
      let iv ← holding [v, ov] (eval i X.env)
      standAt pos'
      holding [v, ov, iv] (setItem ov iv v)
      release [v, ov, iv] []) := by intro _; rfl)
    (hs : swapsWithSole [.Subscript o i pos'] e pos.line X.env = pure false := by rfl) (hw : swappedStores [.Subscript o i pos'] e X.env = pure none := by rfl)
    (h1 : (assignEach [.Subscript o i pos'] X.env).map (·.2) = [assign (.Subscript o i pos') X.env] := by rfl) : QS X P (.Assign [.Subscript o i pos'] e pos) (asSetD av ao ai) := by
  obtain ⟨tv, pv, sv⟩ := hv.ex
  obtain ⟨to, po, so⟩ := ho'.ex
  obtain ⟨ti, pi, si⟩ := hi.ex
  refine ⟨_, ps_asg pv (pg_sub po pi (set_dict (by omega)) ha) hs hw h1, fun c D DA ho hw l S H σ ρ st q => sv c DA.ex ho hw [] S H σ ρ _ _ st q fun v H1 ⟨S1, ρ1, y, s1, q1⟩ => ?_⟩
  obtain ⟨S2, d, ρ2, sm, s2, q2⟩ := use_sim s1 q1
  refine so c DA.ex ho hw _ S2 H1 σ ρ2 _ _ s2 q2 fun vo H2 ⟨S3, ρ3, xo, s3, q3⟩ => si c DA.ex ho hw _ S3 H2 σ ρ3 _ _ s3 q3 fun vi H3 ⟨S4, ρ4, xi, s4, j, kvs, i, k, eo, hj, hk, hkk, hn, q4⟩ => ?_
  subst eo
  have hvo : σ[j]? = some (some vo) := (s4.loc vo j (by simp)).1
  obtain ⟨g, ra⟩ := s4.slotA hj hvo
  obtain ⟨p, ws, rfl, hp, rl, rfl⟩ := ra.dic_inv
  have rk := s4.dat (List.mem_cons_self ..) hk
  have ek := key_rep hkk rk
  subst ek
  have rd : Rep X.K S4 d v := s4.dataMem (by simp)
  refine ⟨p, upd H3 p (.dK (putK ws k v)), rfl, .inl ⟨ws, k, hp, rfl, by rw [rl.len]; exact Nat.lt_of_le_of_lt hn (by decide), rfl⟩, ?_⟩
  have s5 := s4.write (o := .dK (putK ws k v)) (y' := .dic (putD kvs k d)) hj hvo (fun g' h => by obtain ⟨a', _, e, _, _, e2⟩ := h.dic_inv; cases e; exact e2) rfl (.mk_dic upd_same (rl.put k rd))
  exact l.nx S4 _ σ _ s5.drop.drop.drop q4
/-- o.append(e), o an owned list -/
def aAppend (ao ae : AE) : AE := fun EA ρ Q => ao EA ρ fun o ρ1 => (∃ xs, dat o ρ1 = some (.lst xs)) ∧ ae EA ρ1 fun x ρ2 => useA x ρ2 fun d ρ3 => ∃ j xs, o = .loc j ∧ ρ3[j]? = some (some (.lst xs)) ∧ xs.length ≤ 100000 ∧ Q (.v .non) (ρ3.set j (some (.lst (xs ++ [d]))))
theorem qe_append {o e : Expr} {ao ae : AE} {apos cpos : Pos} (ho' : QE X P o ao) (he : QE X P e ae) (hbase : attributeBase o "append" X.env (eval o X.env) = eval o X.env := by rfl)
    (hfew : ((backTo cpos (starEach (e :: []) X.env)).all (fun x => !x.1) && (backToKw cpos (keywordEach [] X.env)).all (fun x => x.1.isSome)
      && decide ((e :: []).length + ([] : List Keyword).length + (if ([] : List Keyword).isEmpty then 0 else 1) < 30)) = true := by rfl)
    (hline : (apos.endLine == cpos.line) = true := by rfl) (hs : starEach [e] X.env = (false, eval e X.env) :: starEach [] X.env := by rfl) (hplain : (backTo cpos (starEach [] X.env)).any (·.1) = false := by rfl) :
    QE X P (.Call (.Attribute o "append" apos) [e] [] cpos) (aAppend ao ae) := by
  obtain ⟨to, po, so⟩ := ho'.ex
  obtain ⟨te, pe, se⟩ := he.ex
  refine ⟨_, pe_bm PySem.F.plainAttrs_list PySem.F.slot_list_append PySem.F.type_list_append mt_append po (pa_cons pe pa_nil hs) hbase hfew hline hs hplain, fun c EA ho hw τ S H σ ρ Q R st q k => so c EA ho hw τ S H σ ρ _ _ st q fun vo H1 ⟨S1, ρ1, xo, s1, ⟨xs0, h0⟩, q1⟩ => ?_⟩
  obtain ⟨y0, g0, r0, e0⟩ := s1.thing (List.mem_cons_self ..) h0
  obtain ⟨p, vs, rfl, h3, h4⟩ := repA_lst r0 e0 s1.le
  refine ⟨.inl ⟨rfl, vs, h3⟩, se c EA ho hw _ S1 H1 σ ρ1 _ _ s1 q1 fun v H2 ⟨S2, ρ2, x, s2, q2⟩ => ?_⟩
  obtain ⟨S3, d, ρ3, sm, s3, j, xs, eo, hj, hn, q3⟩ := use_sim s2 q2
  subst eo
  have hvo : σ[j]? = some (some (.ref p)) := (s3.loc _ j (by simp)).1
  obtain ⟨g, ra⟩ := s3.slotA hj hvo
  obtain ⟨p', ws, e1, hp, rl, rfl⟩ := ra.lst_inv
  cases e1
  have rd : Rep X.K S3 d v := s3.data
  refine ⟨p, ws, v, rfl, rfl, hp, by rw [rl.len]; exact Nat.lt_of_le_of_lt hn (by decide), k _ _ ⟨S3, _, .v .non, ?_, q3⟩⟩
  have s5 := s3.write (o := .lst (ws ++ [v])) (y' := .lst (xs ++ [d])) hj hvo (fun g' h => by obtain ⟨a', _, e, _, _, e2⟩ := h.lst_inv; cases e; exact e2) rfl (.mk_lst upd_same (rl.app (by simp only [RepL]; exact ⟨v, [], rfl, rd, rfl⟩)))
  exact s5.drop.drop.hold (rep_sc rfl)
end
end Vs

set_option Elab.async false
set_option linter.all false
set_option maxRecDepth 100000
set_option maxHeartbeats 1000000
/-! Vs: defs, calls, fields. -/
namespace Vs
open PySem PyProof.Rows L2
/-! ### a def -/
/-- what the parameters hold at the end: those that are never stored to, by their slots; the others are shared -/
def fin (O : List Nat) : Nat → List A → AEnv → Option (List A)
  | _, [], _ => some []
  | k, x :: xs, o :: ρ => (if k ∈ O then (match o with
      | some y => (match fin O (k + 1) xs ρ with
        | some ys => some (y :: ys)
        | none => none)
      | none => none)
    else (match x with
      | .v d => (match fin O (k + 1) xs ρ with
        | some ys => some (.v d :: ys)
        | none => none)
      | _ => none))
  | _, _ :: _, [] => none
def startA (n : Nat) (xs : List A) : AEnv := xs.map some ++ List.replicate (n - xs.length) none
def endsOf (O : List Nat) (sp : ASp) (xs : List A) : AEnds where
  nx := fun ρ => ∃ xs', fin O 0 xs ρ = some xs' ∧ sp.post xs (.v .non) xs'
  rt := fun r ρ => ∃ xs', fin O 0 xs ρ = some xs' ∧ sp.post xs r xs'
  bk := fun _ => False
  ct := fun _ => False
  ex := fun C fs ρ => ∃ xs', fin O 0 xs ρ = some xs' ∧ sp.exc xs C fs xs'
section
variable {K : Fg}
theorem fin_rep {S S0 H : Hp} {O : List Nat} (hs : Same S0 S) : ∀ {xs : List A} {vs : List V} {ρ : AEnv} {σ : L2.St} {ys : List A} {f : List Addr} {k : Nat}, vs.length = xs.length → (∀ (j : Nat) (v : V) (d : D), vs[j]? = some v → xs[j]? = some (A.v d) → Rep K S0 d v) → EnvOk ρ σ → (∀ (j : Nat) v, vs[j]? = some v → k + j ∈ O → σ[j]? = some (some v)) → fin O k xs ρ = some ys → RepP K S H (envP ρ σ) f →
    ∃ g, RepP K S H (vs.zip ys) g ∧ g.Sublist f ∧ vs.length = ys.length
  | [], vs, ρ, σ, ys, f, k, hl, _, _, _, h, hp => by
    have e : vs = [] := by simpa using hl
    subst e
    simp only [fin] at h
    injection h with h
    subst h
    exact ⟨[], rfl, List.nil_sublist _, rfl⟩
  | x :: xs, [], ρ, σ, ys, f, k, hl, _, _, _, h, hp => by simp at hl
  | x :: xs, v :: vs, [], σ, ys, f, k, hl, _, _, _, h, hp => by simp [fin] at h
  | x :: xs, v :: vs, o :: ρ, σ, ys, f, k, hl, h0, he, ho, h, hp => by
    obtain ⟨w, r, rfl, h1, h2⟩ := he
    have hl' : vs.length = xs.length := by simpa using hl
    have h0' : ∀ (j : Nat) (v : V) (d : D), vs[j]? = some v → xs[j]? = some (A.v d) → Rep K S0 d v := fun j u d a b => h0 (j + 1) u d (by simpa using a) (by simpa using b)
    have ho' : ∀ (j : Nat) u, vs[j]? = some u → (k + 1) + j ∈ O → r[j]? = some (some u) := fun j u a b => by
      have := ho (j + 1) u (by simpa using a) (by rw [← Nat.add_assoc, Nat.add_right_comm]; exact b)
      simpa using this
    simp only [fin] at h
    by_cases hk : k ∈ O
    · rw [if_pos hk] at h
      cases o with
      | none => cases h
      | some y =>
        have hw : w = some v := by
          have := ho 0 v (by simp) (by simpa using hk)
          simpa using this
        subst hw
        cases q : fin O (k + 1) xs ρ with
        | none => rw [q] at h; cases h
        | some zs =>
          rw [q] at h
          injection h with h
          subst h
          simp only [envP] at hp
          obtain ⟨g, f', a1, a2, rfl⟩ := hp
          obtain ⟨g', b1, b2, b3⟩ := fin_rep hs hl' h0' h2 ho' q a2
          exact ⟨g ++ g', ⟨g, g', a1, b1, rfl⟩, List.Sublist.append (List.Sublist.refl _) b2, by simp [b3]⟩
    · rw [if_neg hk] at h
      cases x with
      | v d =>
        cases q : fin O (k + 1) xs ρ with
        | none => rw [q] at h; cases h
        | some zs =>
          rw [q] at h
          injection h with h
          subst h
          have tail : ∃ f', RepP K S H (envP ρ r) f' ∧ f'.Sublist f := by
            cases o with
            | none =>
              refine ⟨f, ?_, List.Sublist.refl _⟩
              cases w <;> simpa only [envP] using hp
            | some y =>
              cases w with
              | none => exact ⟨f, by simpa only [envP] using hp, List.Sublist.refl _⟩
              | some u =>
                simp only [envP] at hp
                obtain ⟨g, f', a1, a2, rfl⟩ := hp
                exact ⟨f', a2, List.sublist_append_right _ _⟩
          obtain ⟨f', t1, t2⟩ := tail
          obtain ⟨g', b1, b2, b3⟩ := fin_rep hs hl' h0' h2 ho' q t1
          exact ⟨g', ⟨[], g', RepA.ofv (Rep.le (Le.of_same hs) d v (h0 0 v d (by simp) (by simp))), b1, by simp⟩, b2.trans t2, by simp [b3]⟩
      | _ => cases h
theorem envP_start : ∀ {vs : List V} {xs : List A} (n : Nat), vs.length = xs.length → envP (xs.map some ++ List.replicate n none) (vs.map some ++ List.replicate n none) = vs.zip xs
  | [], [], 0, _ => rfl
  | [], [], n + 1, _ => by
    have := envP_start (vs := []) (xs := []) n rfl
    simp only [List.map_nil, List.nil_append, List.replicate_succ, envP] at this ⊢
    exact this
  | [], _ :: _, _, h => by simp at h
  | _ :: _, [], _, h => by simp at h
  | v :: vs, x :: xs, n, h => by
    simp only [List.map_cons, List.cons_append, envP, List.zip_cons_cons]
    rw [envP_start n (by simpa using h)]
theorem envOk_start : ∀ {vs : List V} {xs : List A} (n : Nat), vs.length = xs.length → (∀ x ∈ xs, isLoc x = false) → EnvOk (xs.map some ++ List.replicate n none) (vs.map some ++ List.replicate n none)
  | [], [], 0, _, _ => rfl
  | [], [], n + 1, _, _ => by
    have := envOk_start (vs := []) (xs := []) n rfl (by simp)
    simp only [List.map_nil, List.nil_append] at this ⊢
    exact ⟨none, _, rfl, fun _ e => (nomatch e), this⟩
  | [], _ :: _, _, h, _ => by simp at h
  | _ :: _, [], _, h, _ => by simp at h
  | v :: vs, x :: xs, n, h, hx => ⟨some v, _, rfl, fun y e => by
      have e2 : x = y := Option.some.inj e
      exact ⟨⟨v, rfl⟩, e2 ▸ not_loc (hx x (by simp))⟩, envOk_start n (by simpa using h) fun y hy => hx y (by simp [hy])⟩
/-- the slots that are never stored to, with their values -/
def osOf (O : List Nat) (vs : List V) : List (Nat × V) := O.filterMap fun j => (vs[j]?).map fun v => (j, v)
theorem osOf_mem {O : List Nat} {vs : List V} {p : Nat × V} : p ∈ osOf O vs ↔ p.1 ∈ O ∧ vs[p.1]? = some p.2 := by
  unfold osOf
  rw [List.mem_filterMap]
  constructor
  · rintro ⟨j, h1, h2⟩
    cases e : vs[j]? with
    | none => rw [e] at h2; cases h2
    | some v =>
      rw [e] at h2
      have h3 : (j, v) = p := Option.some.inj h2
      subst h3
      exact ⟨h1, e⟩
  · rintro ⟨h1, h2⟩
    exact ⟨p.1, h1, by rw [h2]; rfl⟩
section
variable {Pr : Program} {w : World} {mg : Str → Option Value} {base : Heap} {x qual : Str} {params : Arguments} {body : List Stmt} {scope : Scope} {dvs : List V} {kws : List (Str × V)} {f : Addr} {fd : FuncData}
abbrev Fok (Pr : Program) (w : World) (K : Fg) (mg : Str → Option Value) (base : Heap) (k : Nat) (f : Addr) (fd : FuncData) (ps : List Str) (sp : ASp) : Prop := FnOk Pr w K mg base (L2.CX Pr w) k f fd ps (lift K sp)
theorem fn_mk {N ps : List Str} {k : Nat} {sp : ASp} (O : List Nat) (F : FunD K x qual params body scope dvs kws f fd) (S : FnScope N ps scope) (hlen : ∀ xs, sp.pre xs → xs.length = ps.length) (hO : ∀ j ∈ O, j < ps.length)
    (hb : ∀ (cdv : Value) (Ar : Around) (outer : List Env) (s : Shared) (H : Hp) (E : XK), Room k (Ar.deeper (envOfC qual scope s.heap.objs.size f cdv)) →
      ∃ as, QSs (cxOf (L2.CX Pr w) Pr w K mg base N qual scope f cdv Ar outer s H E) ⟨fun cls d _ H => E cls d H, O⟩ body as ∧ ∀ xs, sp.pre xs → as (endsOf O sp xs) (startA N.length xs)) : Fok Pr w K mg base (k + 1) f fd ps sp := by
  refine F.ok S (fun vs H Q E h => ?_) (fun cdv Ar outer s H vs Q E hr h => ?_)
  · obtain ⟨c, S', xs, h1, _, _, _, _, h2, _⟩ := h
    rw [h1]; exact hlen xs h2
  obtain ⟨as, hq, hr2⟩ := hb cdv Ar outer s H E hr
  obtain ⟨t, ht, hs⟩ := hq.ex
  refine ⟨t, ht, ?_⟩
  obtain ⟨c, S1, xs, hl, hos, st, ss1, ss2, hpre, hQ, hE⟩ := h
  have hnl := EnvOk.noloc st.env
  obtain ⟨fp, a1, a2, a3⟩ := st.own
  rw [zip_some hl] at a1
  have a1' : RepP K S1 H (vs.zip xs) fp := by simpa [tmpP] using a1
  have lenps := hlen xs hpre
  -- shared data of the parameters
  have sh : ∀ (j : Nat) v d, vs[j]? = some v → xs[j]? = some (A.v d) → Rep K S1 d v := fun j v d e1 e2 => by
    have m : (v, A.v d) ∈ vs.zip xs := List.mem_of_getElem? (i := j) (by rw [List.getElem?_zip_eq_some]; exact ⟨e1, e2⟩)
    obtain ⟨g, b1, _⟩ := a1'.pick m
    simp only [RepA] at b1
    exact b1.1
  let c2 : Ctx := ⟨c.R, c.S0, osOf O vs⟩
  have len0 : startA N.length xs = xs.map some ++ List.replicate (N.length - vs.length) none := by unfold startA; rw [hl]
  have hlt : ∀ j ∈ O, j < vs.length := fun j hj => by rw [hl, lenps]; exact hO j hj
  have s0 : Stt K c2 S1 H (L2.start N vs) (startA N.length xs) [] := by
    rw [len0]
    unfold L2.start
    refine ⟨⟨fp, ?_, a2, a3⟩, envOk_start _ hl hnl, fun _ _ m => by simp at m, st.le, st.r, st.new, st.up, fun p m => ?_⟩
    · rw [envP_start _ hl]
      simpa [tmpP] using a1'
    · obtain ⟨m1, m2⟩ := osOf_mem.mp m
      rw [List.getElem?_append_left (by simpa using hlt p.1 m1), List.getElem?_map, m2]
      rfl
  have hoin : OsIn c2 O := ⟨fun p m => (osOf_mem.mp m).1, fun j hj => by
    obtain ⟨v, hv⟩ : ∃ v, vs[j]? = some v := ⟨vs[j]'(hlt j hj), by simp [hlt j hj]⟩
    exact ⟨v, osOf_mem.mpr ⟨hj, hv⟩⟩⟩
  -- from a state of the body to one of the caller
  have back : ∀ {S' H' : Hp} {σ : L2.St} {ρ : AEnv} {τ : List (V × A)} {ys : List A}, Stt K c2 S' H' σ ρ τ → (∀ p ∈ τ, isLoc p.2 = false) → fin O 0 xs ρ = some ys → Stt K c S' H' (vs.map some) (ys.map some) τ ∧ vs.length = ys.length := by
    intro S' H' σ ρ τ ys s' hτ hf
    have sm : Same S1 S' := fun a o e => s'.up a o (ss2 a o e)
    obtain ⟨fq, b1, b2, b3⟩ := s'.own
    obtain ⟨f1, f2, u1, u2, rfl⟩ := b1.append
    obtain ⟨g, v1, v2, v3⟩ := fin_rep (K := K) (S0 := S1) (O := O) (k := 0) sm hl sh s'.env (fun j v e1 e2 => s'.os (j, v) (osOf_mem.mpr ⟨by simpa using e2, e1⟩)) hf u1
    have nl := RepP.noloc v3 v1
    refine ⟨⟨⟨g ++ f2, ?_, ?_, fun a ha => b3 a ?_⟩, envOk_some v3 nl, fun v i m => ?_, s'.le, s'.r, s'.new, s'.up, fun p m => by rw [hos] at m; cases m⟩, v3⟩
    · rw [zip_some v3]
      exact v1.join u2
    · exact (List.Sublist.append v2 (List.Sublist.refl f2)).nodup b2
    · exact (List.Sublist.append v2 (List.Sublist.refl f2)).subset ha
    · have := hτ _ m; cases this
  have hx : XOk K c2 (fun cls d _ H => E cls d H) (endsOf O sp xs).ex := by
    intro S' H' σ ρ C fs dd s' hd hex
    obtain ⟨ys, hf, hp⟩ := hex
    obtain ⟨s2, hl2⟩ := back s' (by simp) hf
    exact hE C fs ys dd H' S' hp hl2 s2 hd
  refine hs c2 _ (endsOf O sp xs) hoin hx ⟨fun S' H' σ ρ s' q => ?_, fun S' H' σ ρ v r s' hr' q => ?_, fun S' H' σ ρ s' q => q.elim, fun S' H' σ ρ s' q => q.elim⟩ S1 H (L2.start N vs) (startA N.length xs) s0 (hr2 xs hpre)
  · obtain ⟨ys, hf, hp⟩ := q
    have s3 : Stt K c2 S' H' σ ρ [(.non, .v .non)] := s'.hold (rep_sc rfl)
    obtain ⟨s2, hl2⟩ := back s3 (by simp [isLoc]) hf
    exact hQ _ ys .non H' S' hp hl2 rfl s2
  · obtain ⟨ys, hf, hp⟩ := q
    obtain ⟨s2, hl2⟩ := back s' (fun p m => by
      have e : p = (v, r) := by simpa using m
      rw [e]; exact hr') hf
    exact hQ _ ys v H' S' hp hl2 hr' s2
end
end

/-! ### calls -/
section
variable {X : Cx} {P : Pm} {k : Nat} {f C : Addr} {fd : FuncData} {ps : List Str} {sp : ASp} {dvs : List V} {ds : List Value} {dd : List D} {x m : Str} {p pos apos : Pos} {e o : Expr} {es : List Expr} {aa : AA} {ao : AE}
theorem rep_zip {S : Hp} {K : Fg} {c : Ctx} {H : Hp} {σ : L2.St} {ρ : AEnv} {τ : List (V × A)} : ∀ {ds : List D} {dvs : List V}, RepL K S ds dvs → Stt K c S H σ ρ τ → Stt K c S H σ ρ (dvs.zip (ds.map A.v) ++ τ)
  | [], dvs, h, s => by
    simp only [RepL] at h
    subst h
    simpa using s
  | d :: ds, dvs, h, s => by
    simp only [RepL] at h
    obtain ⟨v, r, rfl, h1, h2⟩ := h
    simp only [List.map_cons, List.zip_cons_cons, List.cons_append]
    exact (rep_zip h2 s).hold h1
/-- the defaults, as data that stand in every heap -/
def Dfl (K : Fg) (dd : List D) (dvs : List V) : Prop := ∀ S, RepL K S dd dvs
theorem dfl_nil {K : Fg} : Dfl K [] [] := fun S => by simp only [RepL]
def aCall (sp : ASp) (dd : List D) (aa : AA) : AE := fun EA ρ Q => aa EA ρ fun xs ρ1 => callA sp (xs ++ dd.map A.v) EA ρ1 Q
theorem sim_call {K : Fg} {ta : TA} (hd : Dfl K dd dvs) (h : SimA K P ta aa) : SimE K P (tCallSD (lift K sp) dvs (fun σ cls d H => P.W cls d σ H) ta) (aCall sp dd aa) := fun c EA ho hw τ S H σ ρ Q R s q kk =>
  h c EA ho hw τ S H σ ρ _ _ s q fun vs H1 ⟨S1, ρ1, xs, hl, s1, q1⟩ => by
    have hdl : dvs.length = (dd.map A.v).length := by rw [List.length_map]; exact (hd S1).len
    have s2 : Stt K c S1 H1 σ ρ1 ((vs ++ dvs).zip (xs ++ dd.map A.v) ++ τ) := by
      rw [List.zip_append hl, List.append_assoc]
      have z := rep_zip (hd S1) s1
      refine z.swap ?_
      rw [← List.append_assoc, ← List.append_assoc]
      exact List.Perm.append_right _ List.perm_append_comm
    exact lift_mono (call_sim hw (by simp [hl, hdl]) s2 q1) (fun v H h => kk v H h) fun _ _ _ h => h
theorem qe_call (F : Fok X.prog X.w X.K X.mg X.base k f fd ps sp) (hr : Room k X.A) (hg : Gl X x) (hm : X.mg x = some (.ref f)) (hk : PySem.W.keepIn X.K (.ref f) = true) (hb : Binds X.K fd ps ds) (hd : Vals dvs ds) (hD : Dfl X.K dd dvs) (hx : ∀ σ, PassesAt (L2.CX X.prog X.w) X σ (fun cls d H => P.W cls d σ H)) (ha : QA X P (e :: es) aa)
    (hdb : (x == ("__debug__" : Str)) = false := by decide) (he : starEach (e :: es) X.env = (false, eval e X.env) :: starEach es X.env := by rfl) (hpl : (backTo pos (starEach es X.env)).any (·.1) = false := by rfl) :
    QE X P (.Call (.Name x p) (e :: es) [] pos) (aCall sp dd aa) := let ⟨_, pa, sa⟩ := ha.ex; ⟨_, pe_callSD F hr hg hm hk hb hd hx pa hdb he hpl, sim_call hD sa⟩
/-- o.m(..) -/
def tMethSD (C : Addr) (m : Str) (sp : Sp) (dvs : List V) (E : L2.St → XK) (ta : TE) (t : TA) : TE := fun σ H Q => ta σ H fun x H1 => ∃ a dx fs, x = .ref a ∧ H1 a = some (.ins C dx fs) ∧ fs.lookup m = none ∧ t σ H1 fun vs H2 => sp (x :: (vs ++ dvs)) H2 Q (E σ)
theorem pe_methSD {CX : CXT} {sp : Sp} {E : L2.St → XK} {ta : TE} {t : TA} {pl : Sem Bool} (he : PE X o ta) (c : Cls X.K C) (hm : Meth X.K C m f) (F : FnOk X.prog X.w X.K X.mg X.base CX k f fd ps sp) (hr : Room k X.A) (hb : Binds X.K fd ps ds) (hd : Vals dvs ds) (hx : ∀ σ, PassesAt CX X σ (E σ)) (ha : PA X (e :: es) t)
    (hst : starEach (e :: es) X.env = (false, eval e X.env) :: starEach es X.env := by rfl) (hpl : (backTo pos (starEach es X.env)).any (·.1) = false := by rfl)
    (ht : eval (.Call (.Attribute o m apos) (e :: es) [] pos) X.env = (do
      let ov ← eval o X.env
      standAt apos.atName
      let (f, first) ← holding [ov] (getMethod ov m pl)
      callWith pos f first (backTo pos (starEach (e :: es) X.env)) (backToKw pos (keywordEach [] X.env))) := by rfl) :
    PE X (.Call (.Attribute o m apos) (e :: es) [] pos) (tMethSD C m sp dvs E ta t) := by
  refine ⟨fun pins s σ H Q I h => ?_⟩
  refine PySem.W.methodCall_KW (pl := pl) (thn (he.run pins s σ H _ I h) fun u s1 ⟨x, H1, I1, rx, a, dx, fs, ex, ea, l, q⟩ => ?_) ht
  subst ex
  obtain rfl : u = Value.ref a := rx
  refine getmeth_ok I1 ea c hm l ?_
  refine PySem.W.callWith_K (first := [.ref a]) (h₀ := X.base) I.ok.mod.kin hm.kp (thn (ha.run pos pins s1 σ H1 _ I1 q) fun us s2 ⟨vs, H2, I2, r, q2⟩ => ⟨I2.kIn, ?_⟩) hst hpl
  exact run_fnSD (us := .ref a :: us) (vs := .ref a :: vs) F hr hb hd (hx σ) I2 (.cons rfl r) q2
theorem pe_methSD0 {CX : CXT} {sp : Sp} {E : L2.St → XK} {ta : TE} {pl : Sem Bool} (he : PE X o ta) (c : Cls X.K C) (hm : Meth X.K C m f) (F : FnOk X.prog X.w X.K X.mg X.base CX k f fd ps sp) (hr : Room k X.A) (hb : Binds X.K fd ps ds) (hd : Vals dvs ds) (hx : ∀ σ, PassesAt CX X σ (E σ))
    (ht : eval (.Call (.Attribute o m apos) [] [] pos) X.env = (do
      let ov ← eval o X.env
      standAt apos.atName
      let (f, first) ← holding [ov] (getMethod ov m pl)
      callWith pos f first (backTo pos (starEach [] X.env)) (backToKw pos (keywordEach [] X.env))) := by rfl) :
    PE X (.Call (.Attribute o m apos) [] [] pos) (tMethSD C m sp dvs E ta tNil) := by
  refine ⟨fun pins s σ H Q I h => ?_⟩
  refine PySem.W.methodCall_KW (pl := pl) (thn (he.run pins s σ H _ I h) fun u s1 ⟨x, H1, I1, rx, a, dx, fs, ex, ea, l, q⟩ => ?_) ht
  subst ex
  obtain rfl : u = Value.ref a := rx
  refine getmeth_ok I1 ea c hm l ?_
  exact PySem.W.callWith_K0 (first := [.ref a]) I1.kIn hm.kp (run_fnSD (us := [.ref a]) (vs := [.ref a]) F hr hb hd (hx σ) I1 (.cons rfl .nil) q)
/-- what method calls ask of the receiver -/
def isObjA (C : Addr) (m : Str) (x : A) (ρ : AEnv) : Prop := ∃ fs, dat x ρ = some (.obj C fs) ∧ fs.lookup m = none
theorem repF_look {K : Fg} {S : Hp} {m : Str} : ∀ {fs : List (Str × D)} {ws : List (Str × V)}, RepF K S fs ws → (fs.lookup m = none ∧ ws.lookup m = none) ∨ ∃ d v, fs.lookup m = some d ∧ ws.lookup m = some v ∧ Rep K S d v
  | [], ws, h => by
    simp only [RepF] at h
    subst h
    exact .inl ⟨rfl, rfl⟩
  | (k, x) :: r, ws, h => by
    simp only [RepF] at h
    obtain ⟨v, r', rfl, h1, h2⟩ := h
    by_cases e : m = k
    · subst e
      exact .inr ⟨x, v, by simp [List.lookup], by simp [List.lookup], h1⟩
    · have q : (m == k) = false := by simpa using e
      have e1 : List.lookup m ((k, x) :: r) = List.lookup m r := by simp [List.lookup, q]
      have e2 : List.lookup m ((k, v) :: r') = List.lookup m r' := by simp [List.lookup, q]
      rw [e1, e2]
      exact repF_look h2
theorem isObj_sim {K : Fg} {c : Ctx} {S H : Hp} {σ : L2.St} {ρ : AEnv} {τ : List (V × A)} {v : V} {y : A} (s : Stt K c S H σ ρ τ) (mm : (v, y) ∈ τ) (h : isObjA C m y ρ) : ∃ a dx ws, v = .ref a ∧ H a = some (.ins C dx ws) ∧ ws.lookup m = none := by
  obtain ⟨fs, h1, h2⟩ := h
  have r := s.dat mm h1
  simp only [Rep] at r
  obtain ⟨a, dx, ws, rfl, h3, h4⟩ := r
  refine ⟨a, dx, ws, rfl, h3, ?_⟩
  rcases repF_look (m := m) h4 with ⟨_, e⟩ | ⟨d, v, e1, e2, _⟩
  · exact e
  · rw [h2] at e1; cases e1
def aMeth (C : Addr) (m : Str) (sp : ASp) (dd : List D) (ao : AE) (aa : AA) : AE := fun EA ρ Q => ao EA ρ fun o ρ1 => isObjA C m o ρ1 ∧ aa EA ρ1 fun xs ρ2 => callA sp (o :: (xs ++ dd.map A.v)) EA ρ2 Q
theorem sim_meth {K : Fg} {to : TE} {ta : TA} (hd : Dfl K dd dvs) (h0 : SimE K P to ao) (h : SimA K P ta aa) : SimE K P (tMethSD C m (lift K sp) dvs (fun σ cls d H => P.W cls d σ H) to ta) (aMeth C m sp dd ao aa) := fun c EA ho hw τ S H σ ρ Q R s q kk =>
  h0 c EA ho hw τ S H σ ρ _ _ s q fun vo H0 ⟨S0, ρ0, o, s0, hob, q0⟩ => by
    obtain ⟨a, dx, ws, rfl, h1, h2⟩ := isObj_sim s0 (List.mem_cons_self ..) hob
    refine ⟨a, dx, ws, rfl, h1, h2, h c EA ho hw _ S0 H0 σ ρ0 _ _ s0 q0 fun vs H1 ⟨S1, ρ1, xs, hl, s1, q1⟩ => ?_⟩
    have hdl : dvs.length = (dd.map A.v).length := by rw [List.length_map]; exact (hd S1).len
    have s2 : Stt K c S1 H1 σ ρ1 ((V.ref a :: (vs ++ dvs)).zip (o :: (xs ++ dd.map A.v)) ++ τ) := by
      rw [List.zip_cons_cons, List.zip_append hl]
      have z := rep_zip (hd S1) s1
      refine z.swap ?_
      rw [List.cons_append, List.append_assoc]
      refine List.Perm.trans ?_ (List.perm_middle (l₁ := vs.zip xs ++ dvs.zip (dd.map A.v)) (a := (V.ref a, o)) (l₂ := τ) |>.trans (by rw [List.append_assoc]))
      rw [List.append_assoc, ← List.append_assoc, ← List.append_assoc]
      exact List.Perm.append_right _ List.perm_append_comm
    exact lift_mono (call_sim hw (by simp [hl, hdl]) s2 q1) (fun v H h => kk v H h) fun _ _ _ h => h
theorem qe_meth {pl : Sem Bool} (he : QE X P o ao) (c : Cls X.K C) (hm : Meth X.K C m f) (F : Fok X.prog X.w X.K X.mg X.base k f fd ps sp) (hr : Room k X.A) (hb : Binds X.K fd ps ds) (hd : Vals dvs ds) (hD : Dfl X.K dd dvs) (hx : ∀ σ, PassesAt (L2.CX X.prog X.w) X σ (fun cls d H => P.W cls d σ H)) (ha : QA X P (e :: es) aa)
    (hst : starEach (e :: es) X.env = (false, eval e X.env) :: starEach es X.env := by rfl) (hpl : (backTo pos (starEach es X.env)).any (·.1) = false := by rfl)
    (ht : eval (.Call (.Attribute o m apos) (e :: es) [] pos) X.env = (do
      let ov ← eval o X.env
      standAt apos.atName
      let (f, first) ← holding [ov] (getMethod ov m pl)
      callWith pos f first (backTo pos (starEach (e :: es) X.env)) (backToKw pos (keywordEach [] X.env))) := by rfl) :
    QE X P (.Call (.Attribute o m apos) (e :: es) [] pos) (aMeth C m sp dd ao aa) := let ⟨_, po, so⟩ := he.ex; let ⟨_, pa, sa⟩ := ha.ex; ⟨_, pe_methSD po c hm F hr hb hd hx pa hst hpl ht, sim_meth hD so sa⟩
theorem qe_meth0 {pl : Sem Bool} (he : QE X P o ao) (c : Cls X.K C) (hm : Meth X.K C m f) (F : Fok X.prog X.w X.K X.mg X.base k f fd ps sp) (hr : Room k X.A) (hb : Binds X.K fd ps ds) (hd : Vals dvs ds) (hD : Dfl X.K dd dvs) (hx : ∀ σ, PassesAt (L2.CX X.prog X.w) X σ (fun cls d H => P.W cls d σ H))
    (ht : eval (.Call (.Attribute o m apos) [] [] pos) X.env = (do
      let ov ← eval o X.env
      standAt apos.atName
      let (f, first) ← holding [ov] (getMethod ov m pl)
      callWith pos f first (backTo pos (starEach [] X.env)) (backToKw pos (keywordEach [] X.env))) := by rfl) :
    QE X P (.Call (.Attribute o m apos) [] [] pos) (aMeth C m sp dd ao aNil) := let ⟨_, po, so⟩ := he.ex; ⟨_, pe_methSD0 po c hm F hr hb hd hx ht, sim_meth hD so sim_nil⟩
/-- C(..) -/
theorem run_makeSD {CX : CXT} {sp : Sp} {E : L2.St → XK} {pins : List (Addr × Obj)} {σ : L2.St} {H : Hp} {s : Shared} {Q : VK} {us : List Value} {vs : List V} (M : Mk X.K C f) (F : FnOk X.prog X.w X.K X.mg X.base CX k f fd ps sp) (hr : Room (k + 1) X.A) (hb : Binds X.K fd ps ds) (hd : Vals dvs ds)
    (hx : PassesAt CX X σ (E σ)) (I : Inv X pins σ H s) (r : Vals vs us)
    (h : ∀ x dx, H x = none → H dx = none → dx ≠ x → sp (.ref x :: (vs ++ dvs)) (upd (upd H dx (.own x)) x (.ins C dx [])) (fun v H2 => v = .non ∧ Q (.ref x) H2) (E σ)) :
    wpAny (model X.prog X.w) X.A (call (.ref C) us) (EP X pins σ Q) X.xe s := by
  have hq := h (s.heap.objs.size + 1) s.heap.objs.size (I.hok.fresh (Nat.le_succ _)) (I.hok.fresh (Nat.le_refl _)) (Nat.ne_of_lt (Nat.lt_succ_self _))
  have I2 := Inv.made (C := C) I
  have r2 : Vals (V.ref (s.heap.objs.size + 1) :: (vs ++ dvs)) (Value.ref (s.heap.objs.size + 1) :: (us ++ ds)) := .cons rfl (r.append hd)
  have hl : (Value.ref (s.heap.objs.size + 1) :: us ++ ds).length = ps.length := by
    have e := r2.length
    rw [F.len _ _ _ _ hq] at e
    exact e.symm
  refine wpAny_call (make_map (f := f) I.kIn M.makes M.init (beq_iff_eq.mp M.fn) (codeAny_mono (F.run _ X.stack _ _ ⟨Value.ref (s.heap.objs.size + 1) :: us, []⟩ (Value.ref (s.heap.objs.size + 1) :: (us ++ ds)) _ _ (E σ) (hr.make C us [])
    (I2.env0.make C us []) (hb _ (Value.ref (s.heap.objs.size + 1) :: us) I2.kIn hl) r2 hq) fun r s' hq' => ?_))
  cases r with
  | error e => exact hx pins _ _ e s' I2 hq'
  | ok fl =>
    cases fl with
    | ret u =>
      obtain ⟨v, H', I3, rv, ev, q3⟩ := I2.after hq'
      subst ev
      exact ⟨rv, ⟨V.ref (s.heap.objs.size + 1), H', I3, rfl, q3⟩⟩
    | next => exact False.elim hq'
    | brk => exact False.elim hq'
    | cont => exact False.elim hq'
def tMakeSD (C : Addr) (sp : Sp) (dvs : List V) (E : L2.St → XK) (t : TA) : TE := fun σ H Q => t σ H fun vs H1 => ∀ x dx, H1 x = none → H1 dx = none → dx ≠ x →
  sp (.ref x :: (vs ++ dvs)) (upd (upd H1 dx (.own x)) x (.ins C dx [])) (fun v H2 => v = .non ∧ Q (.ref x) H2) (E σ)
theorem pe_makeSD {CX : CXT} {sp : Sp} {E : L2.St → XK} {t : TA} (M : Mk X.K C f) (F : FnOk X.prog X.w X.K X.mg X.base CX k f fd ps sp) (hr : Room (k + 1) X.A) (hg : Gl X x) (hm : X.mg x = some (.ref C)) (hb : Binds X.K fd ps ds) (hd : Vals dvs ds) (hx : ∀ σ, PassesAt CX X σ (E σ))
    (ha : PA X (e :: es) t) (hdb : (x == ("__debug__" : Str)) = false := by decide) (he : starEach (e :: es) X.env = (false, eval e X.env) :: starEach es X.env := by rfl) (hpl : (backTo pos (starEach es X.env)).any (·.1) = false := by rfl) :
    PE X (.Call (.Name x p) (e :: es) [] pos) (tMakeSD C sp dvs E t) := by
  refine ⟨fun pins s σ H Q I h => ?_⟩
  refine wpAny_Call_Name_kw (ld_glob I hg hm ?_ hdb)
  refine PySem.W.callWith_K (h₀ := X.base) I.ok.mod.kin M.kp (thn (ha.run pos pins s σ H _ I h) fun us s1 ⟨vs, H1, I1, r, q⟩ => ⟨I1.kIn, ?_⟩) he hpl
  exact run_makeSD M F hr hb hd (hx σ) I1 r q
/-- a new instance, then __init__: the first parameter is the instance -/
def mkSp (C : Addr) (sp : ASp) (xs : List A) : AE := fun EA ρ Q => ∃ ys ρ', pass xs ρ = some (ys, ρ') ∧ sp.pre (.obj C [] :: ys) ∧ (∀ r y ys', sp.post (.obj C [] :: ys) r (y :: ys') → ys'.length = ys.length → r = .v .non ∧ Q y (give xs ys' ρ')) ∧ ∀ Ce fs y ys', sp.exc (.obj C [] :: ys) Ce fs (y :: ys') → ys'.length = ys.length → EA Ce fs (give xs ys' ρ')
def aMake (C : Addr) (sp : ASp) (dd : List D) (aa : AA) : AE := fun EA ρ Q => aa EA ρ fun xs ρ1 => mkSp C sp (xs ++ dd.map A.v) EA ρ1 Q
/-- an instance is like one more argument, then the result -/
def initSp (C : Addr) (sp : ASp) : ASp where
  pre := fun xs => ∃ ys, xs = .obj C [] :: ys ∧ sp.pre xs
  post := fun xs r xs' => ∃ ys y ys', xs = .obj C [] :: ys ∧ xs' = y :: ys' ∧ sp.post xs r xs'
  exc := fun xs Ce fs xs' => sp.exc xs Ce fs xs'
theorem sim_make {K : Fg} {ta : TA} (hd : Dfl K dd dvs) (h : SimA K P ta aa) : SimE K P (tMakeSD C (lift K sp) dvs (fun σ cls d H => P.W cls d σ H) ta) (aMake C sp dd aa) := fun c EA ho hw τ S H σ ρ Q R s q kk =>
  h c EA ho hw τ S H σ ρ _ _ s q fun vs H1 ⟨S1, ρ1, xs, hl, s1, q1⟩ xa dx hx hdx hne => by
    have hdl : dvs.length = (dd.map A.v).length := by rw [List.length_map]; exact (hd S1).len
    obtain ⟨ys, ρ', hp, hpre, hq, hex⟩ := q1
    have hx2 : upd H1 dx (.own xa) xa = none := by rw [upd_ne (Ne.symm hne)]; exact hx
    have s1' : Stt K c S1 (upd H1 dx (.own xa)) σ ρ1 (vs.zip xs ++ τ) := s1.beside hdx
    have s3 : Stt K c S1 (upd (upd H1 dx (.own xa)) xa (.ins C dx [])) σ ρ1 ((.ref xa, .obj C []) :: (vs.zip xs ++ τ)) := s1'.alloc hx2 rfl (by
      simp only [RepA, RepAF]
      exact ⟨xa, dx, [], [], rfl, upd_same, ⟨rfl, rfl⟩, rfl⟩)
    have s2 : Stt K c S1 (upd (upd H1 dx (.own xa)) xa (.ins C dx [])) σ ρ1 ((V.ref xa :: (vs ++ dvs)).zip (A.obj C [] :: (xs ++ dd.map A.v)) ++ τ) := by
      rw [List.zip_cons_cons, List.zip_append hl]
      have z := rep_zip (hd S1) s3
      refine z.swap ?_
      rw [List.cons_append, List.append_assoc]
      refine List.perm_middle.trans (List.Perm.cons _ ?_)
      rw [← List.append_assoc, ← List.append_assoc]
      exact List.Perm.append_right _ List.perm_append_comm
    have ep : pass (A.obj C [] :: (xs ++ dd.map A.v)) ρ1 = some (A.obj C [] :: ys, ρ') := by
      show (match pass (xs ++ dd.map A.v) ρ1 with
        | some (ys, ρ') => some (A.obj C [] :: ys, ρ')
        | none => none) = _
      rw [hp]
    -- the call with the instance's own things in the end
    refine make_lift hw (by simp [hl, hdl]) s2 ep hpre (fun r zs hpo hlz => ?_) (fun Ce fs zs hpo hlz => ?_) kk
    · cases zs with
      | nil => simp at hlz
      | cons y ys' => exact ⟨y, ys', rfl, hq r y ys' hpo (by simpa using hlz)⟩
    · cases zs with
      | nil => simp at hlz
      | cons y ys' => exact hex Ce fs y ys' hpo (by simpa using hlz)
theorem qe_make (M : Mk X.K C f) (F : Fok X.prog X.w X.K X.mg X.base k f fd ps sp) (hr : Room (k + 1) X.A) (hg : Gl X x) (hm : X.mg x = some (.ref C)) (hb : Binds X.K fd ps ds) (hd : Vals dvs ds) (hD : Dfl X.K dd dvs) (hx : ∀ σ, PassesAt (L2.CX X.prog X.w) X σ (fun cls d H => P.W cls d σ H)) (ha : QA X P (e :: es) aa)
    (hdb : (x == ("__debug__" : Str)) = false := by decide) (he : starEach (e :: es) X.env = (false, eval e X.env) :: starEach es X.env := by rfl) (hpl : (backTo pos (starEach es X.env)).any (·.1) = false := by rfl) :
    QE X P (.Call (.Name x p) (e :: es) [] pos) (aMake C sp dd aa) := let ⟨_, pa, sa⟩ := ha.ex; ⟨_, pe_makeSD M F hr hg hm hb hd hx pa hdb he hpl, sim_make hD sa⟩
end
end Vs

set_option Elab.async false
set_option linter.all false
set_option maxRecDepth 100000
set_option maxHeartbeats 1000000
/-! Vs: loops and comprehensions. -/
namespace Vs
open PySem PySem.Spec PyProof.Rows L2
/-! ### the shared part as it stands, from now on -/
section
variable {K : Fg} {c : Ctx} {S H : Hp} {σ : L2.St} {ρ : AEnv} {τ : List (V × A)}
theorem Stt.rest (s : Stt K c S H σ ρ τ) : Stt K { c with S0 := S } S H σ ρ τ := ⟨s.own, s.env, s.loc, s.le, s.r, fun _ _ => rfl, Same.refl S, s.os⟩
theorem Stt.rebase {S2 H2 : Hp} {σ2 : L2.St} {ρ2 : AEnv} {τ2 : List (V × A)} (s : Stt K c S H σ ρ τ) (t : Stt K { c with S0 := S } S2 H2 σ2 ρ2 τ2) : Stt K c S2 H2 σ2 ρ2 τ2 :=
  ⟨t.own, t.env, t.loc, t.le, t.r, fun a ha => (t.new a ha).trans (s.new a ha), fun a o e => t.up a o (s.up a o e), t.os⟩
theorem XOk.rebase {W : WX} {EA : AX} (s : Stt K c S H σ ρ τ) (h : XOk K c W EA) : XOk K { c with S0 := S } W EA := fun S2 H2 σ2 ρ2 C fs dd t xd e => h S2 H2 σ2 ρ2 C fs dd (s.rebase t) xd e
theorem Link.rebase {D : Ends} {DA : AEnds} (s : Stt K c S H σ ρ τ) (l : Link K c D DA) : Link K { c with S0 := S } D DA :=
  ⟨fun S2 H2 σ2 ρ2 t => l.nx S2 H2 σ2 ρ2 (s.rebase t), fun S2 H2 σ2 ρ2 v x t => l.rt S2 H2 σ2 ρ2 v x (s.rebase t), fun S2 H2 σ2 ρ2 t => l.bk S2 H2 σ2 ρ2 (s.rebase t), fun S2 H2 σ2 ρ2 t => l.ct S2 H2 σ2 ρ2 (s.rebase t)⟩
end
/-! ### what is walked -/
abbrev AI := AX → AEnv → (List D → (AEnv → Prop) → AEnv → Prop) → Prop
def ItOk (K : Fg) (c : Ctx) (J : It) (xs : List D) (G : AEnv → Prop) : Prop := ∀ S H σ ρ τ, Stt K c S H σ ρ τ → G ρ →
  (∀ i d, xs[i]? = some d → J.go i H ∧ ∀ v H', J.yld i H v H' → ∃ S', Stt K c S' H' σ ρ ((v, .v d) :: τ)) ∧ ∀ i, xs.length ≤ i → J.stop i H
/-- a context of a part -/
structure Reb (K : Fg) (c c' : Ctx) : Prop where
  os : c'.os = c.os
  back : ∀ {S H : Hp} {σ : L2.St} {ρ : AEnv} {τ : List (V × A)}, Stt K c' S H σ ρ τ → Stt K c S H σ ρ τ
theorem Reb.osIn {K : Fg} {c c' : Ctx} {O : List Nat} (r : Reb K c c') (h : OsIn c O) : OsIn c' O := by
  unfold OsIn
  rw [r.os]
  exact h
theorem Reb.xok {K : Fg} {c c' : Ctx} {W : WX} {EA : AX} (r : Reb K c c') (h : XOk K c W EA) : XOk K c' W EA := fun S2 H2 σ2 ρ2 C fs dd t xd e => h S2 H2 σ2 ρ2 C fs dd (r.back t) xd e
theorem Reb.rest {K : Fg} {c : Ctx} {S H : Hp} {σ : L2.St} {ρ : AEnv} {τ : List (V × A)} (s : Stt K c S H σ ρ τ) : Reb K c { c with S0 := S } := ⟨rfl, fun t => s.rebase t⟩
def SimI (K : Fg) (P : Pm) (wi : TI) (ai : AI) : Prop := ∀ c EA, OsIn c P.O → XOk K c P.W EA → ∀ τ S H σ ρ Q (R : It → Hp → Prop), Stt K c S H σ ρ τ → ai EA ρ Q →
  (∀ c' J H' S' ρ' xs G, Reb K c c' → Stt K c' S' H' σ ρ' τ → ItOk K c' J xs G → Q xs G ρ' → R J H') → wi σ H R
structure QI (X : Cx) (P : Pm) (tg it : Expr) (ai : AI) : Prop where
  ex : ∃ wi, PI X tg it wi ∧ SimI X.K P wi ai
/-- the signs of a text -/
def chrs (x : Str) : List D := x.cps.toList.map fun c => .str ⟨#[c]⟩
def seqD : D → Option (List D)
  | .lst xs => some xs
  | .tup xs => some xs
  | .str x => some (chrs x)
  | _ => none
section
variable {X : Cx} {P : Pm} {K : Fg} {tg : Expr}
def iSeq (K : Fg) (te : TE) : TI := fun σ H R => te σ H fun v H1 => (∃ a, v = .ref a ∧ (∃ xs, SqL K H1 a xs) ∧ R (Itl K a) H1) ∨ (∃ a, v = .ref a ∧ (∃ xs, SqT K H1 a xs) ∧ R (Itt K a) H1) ∨ ∃ x, v = .str x ∧ R (Its x) H1
theorem pi_seq {l : Expr} {tl : TE} (hl : PE X l tl) : PI X tg l (iSeq X.K tl) := by
  refine ⟨fun pins s σ H R I h => ?_⟩
  refine thn (hl.run pins s σ H _ I h) fun v s1 ⟨x, H1, I1, r1, q1⟩ => ?_
  rcases q1 with ⟨a, e, ⟨xs, hq⟩, q⟩ | ⟨a, e, ⟨xs, hq⟩, q⟩ | ⟨x, ex, q⟩
  · subst e
    cases r1
    obtain ⟨its, rv, p, hz⟩ := I1.list hq
    refine wpAny_pyIter_list p.isList ?_
    refine ⟨s1.heap.objs.size, [s1.heap.objs.size], _, _, H1, rfl, I1.kept (t' := s1.toks) fun b o e => Heap.get?_push_of_some _ e, turn_list a _, ⟨_, Heap.get?_push_size _ rfl, rfl, rfl⟩, fun b hb => ?_, q⟩
    have e : b = s1.heap.objs.size := by simpa using hb
    subst e
    exact I1.fpOk (Nat.le_refl _) (I1.hok.fresh (Nat.le_refl _))
  · subst e
    cases r1
    obtain ⟨its, rv, p, hz⟩ := I1.tuple hq
    refine wpAny_pyIter_tuple (show s1.heap.IsTuple a its.toArray from p) ?_
    refine ⟨s1.heap.objs.size, [s1.heap.objs.size], _, _, H1, rfl, I1.kept (t' := s1.toks) fun b o e => Heap.get?_push_of_some _ e, turn_tuple a _, ⟨_, Heap.get?_push_size _ rfl, rfl, rfl⟩, fun b hb => ?_, q⟩
    have e : b = s1.heap.objs.size := by simpa using hb
    subst e
    exact I1.fpOk (Nat.le_refl _) (I1.hok.fresh (Nat.le_refl _))
  · subst ex
    obtain ⟨t, rfl⟩ := r1
    cases ha : x.cps.all (· < 128)
    · exact wpAny_pyIter_wide ha (pi_one (tk := s1.toks) I1 _ (turn_str _ x t "str_iterator" (.inr rfl)) ⟨_, Heap.get?_push_size _ rfl, rfl, rfl⟩ q)
    · exact wpAny_pyIter_ascii ha (pi_one (tk := s1.toks) I1 _ (turn_str _ x t "str_ascii_iterator" (.inl rfl)) ⟨_, Heap.get?_push_size _ rfl, rfl, rfl⟩ q)
theorem RepL.at0 {S : Hp} : ∀ {xs : List D} {vs : List V} {i : Nat} {d : D}, RepL K S xs vs → xs[i]? = some d → ∃ v, vs[i]? = some v ∧ Rep K S d v
  | [], vs, i, d, _, h => by simp at h
  | x :: xs, vs, 0, d, r, h => by
    simp only [RepL] at r
    obtain ⟨v, r', rfl, h1, _⟩ := r
    have e : x = d := by simpa using h
    subst e
    exact ⟨v, by simp, h1⟩
  | x :: xs, vs, i + 1, d, r, h => by
    simp only [RepL] at r
    obtain ⟨v, r', rfl, _, h2⟩ := r
    obtain ⟨u, h3, h4⟩ := RepL.at0 h2 (i := i) (by simpa using h)
    exact ⟨u, by simpa using h3, h4⟩
theorem chrs_at {x : Str} {i : Nat} {d : D} (h : (chrs x)[i]? = some d) : ∃ c, x.cps[i]? = some c ∧ d = .str ⟨#[c]⟩ := by
  unfold chrs at h
  rw [List.getElem?_map] at h
  cases e : x.cps.toList[i]? with
  | none => rw [e] at h; cases h
  | some c =>
    rw [e] at h
    exact ⟨c, by simpa using e, (Option.some.inj h).symm⟩
/-- the things of a shared datum -/
theorem itOk_seq {c : Ctx} {d : D} {xs : List D} {v : V} (hx : seqD d = some xs) (r : Rep K c.S0 d v) :
    (∃ a, v = .ref a ∧ (∃ vs, SqL K c.S0 a vs) ∧ ItOk K c (Itl K a) xs fun _ => True) ∨ (∃ a, v = .ref a ∧ (∃ vs, SqT K c.S0 a vs) ∧ ItOk K c (Itt K a) xs fun _ => True) ∨ ∃ x, v = .str x ∧ ItOk K c (Its x) xs fun _ => True := by
  cases d with
  | lst ys =>
    simp only [seqD] at hx
    injection hx with hx
    subst hx
    simp only [Rep] at r
    obtain ⟨a, vs, rfl, h1, h2⟩ := r
    refine .inl ⟨a, rfl, ⟨vs, h1⟩, fun S H σ ρ τ s _ => ⟨fun i d hd => ?_, fun i hi => ⟨vs, SqL.le (Le.trans s.up s.le) h1, by rw [h2.len]; exact hi⟩⟩⟩
    obtain ⟨u, hu, ru⟩ := h2.at0 hd
    refine ⟨⟨vs, u, SqL.le (Le.trans s.up s.le) h1, hu⟩, fun v H' ⟨e, hy⟩ => ?_⟩
    have := hy vs (SqL.le (Le.trans s.up s.le) h1)
    rw [hu] at this
    cases this
    subst e
    exact ⟨S, s.hold (Rep.le (Le.of_same s.up) d _ ru)⟩
  | tup ys =>
    simp only [seqD] at hx
    injection hx with hx
    subst hx
    simp only [Rep] at r
    obtain ⟨a, vs, rfl, h1, h2⟩ := r
    refine .inr (.inl ⟨a, rfl, ⟨vs, h1⟩, fun S H σ ρ τ s _ => ⟨fun i d hd => ?_, fun i hi => ⟨vs, SqT.le (Le.trans s.up s.le) h1, by rw [h2.len]; exact hi⟩⟩⟩)
    obtain ⟨u, hu, ru⟩ := h2.at0 hd
    refine ⟨⟨vs, u, SqT.le (Le.trans s.up s.le) h1, hu⟩, fun v H' ⟨e, hy⟩ => ?_⟩
    have := hy vs (SqT.le (Le.trans s.up s.le) h1)
    rw [hu] at this
    cases this
    subst e
    exact ⟨S, s.hold (Rep.le (Le.of_same s.up) d _ ru)⟩
  | str x =>
    simp only [seqD] at hx
    injection hx with hx
    subst hx
    simp only [Rep] at r
    subst r
    refine .inr (.inr ⟨x, rfl, fun S H σ ρ τ s _ => ⟨fun i d hd => ?_, fun i hi => ?_⟩⟩)
    · obtain ⟨c', hc, rfl⟩ := chrs_at hd
      refine ⟨(Array.getElem?_eq_some_iff.mp hc).1, fun v H' ⟨e, c2, h2, h3⟩ => ?_⟩
      rw [hc] at h2
      cases h2
      subst e h3
      exact ⟨S, s.hold (rep_sc rfl)⟩
    · show x.cps.size ≤ i
      have : (chrs x).length = x.cps.size := by simp [chrs]
      omega
  | _ => cases hx
/-- a sequence: what a slot holds is shared from now on -/
def aiSeq (ae : AE) : AI := fun EA ρ Q => ae EA ρ fun x ρ1 => useA x ρ1 fun d ρ2 => ∃ xs, seqD d = some xs ∧ Q xs (fun _ => True) ρ2
theorem SqL.up {S S' : Hp} {a : Addr} {vs : List V} (h : Le S S') (q : SqL K S a vs) : SqL K S' a vs := SqL.le h q
theorem qi_seq {e : Expr} {ae : AE} (h : QE X P e ae) : QI X P tg e (aiSeq ae) := by
  obtain ⟨t, p, s⟩ := h.ex
  refine ⟨_, pi_seq p, fun c EA ho hw τ S H σ ρ Q R st q k => s c EA ho hw τ S H σ ρ _ _ st q fun v H1 ⟨S1, ρ1, x, s1, q1⟩ => ?_⟩
  obtain ⟨S2, d, ρ2, sm, s2, xs, hx, q2⟩ := use_sim s1 q1
  have r := s2.data
  rcases itOk_seq (c := { c with S0 := S2 }) hx r with ⟨a, e, ⟨vs, h1⟩, h2⟩ | ⟨a, e, ⟨vs, h1⟩, h2⟩ | ⟨x, e, h2⟩
  · exact .inl ⟨a, e, ⟨vs, SqL.le s2.le h1⟩, k _ _ _ S2 ρ2 xs _ (Reb.rest s2) s2.drop.rest h2 q2⟩
  · exact .inr (.inl ⟨a, e, ⟨vs, SqT.le s2.le h1⟩, k _ _ _ S2 ρ2 xs _ (Reb.rest s2) s2.drop.rest h2 q2⟩)
  · exact .inr (.inr ⟨x, e, k _ _ _ S2 ρ2 xs _ (Reb.rest s2) s2.drop.rest h2 q2⟩)
/-- what a never stored slot holds, as it stands -/
def aiRef (j : Nat) : AI := fun _ ρ Q => ∃ d xs, dat (.loc j) ρ = some d ∧ seqD d = some xs ∧ Q xs (fun ρ => dat (.loc j) ρ = some d) ρ
theorem dat_loc {ρ : AEnv} {j : Nat} {d : D} (h : dat (.loc j) ρ = some d) : ∃ y, ρ[j]? = some (some y) ∧ y.toD = d := by
  unfold dat at h
  simp only at h
  split at h
  · exact ⟨_, by assumption, Option.some.inj h⟩
  · cases h
theorem itOk_ref {c : Ctx} {d : D} {xs : List D} {v : V} {j : Nat} (hj : (j, v) ∈ c.os) (hx : seqD d = some xs) {S H : Hp} {σ : L2.St} {ρ : AEnv} {τ : List (V × A)} (s : Stt K c S H σ ρ τ) (hd : dat (.loc j) ρ = some d) :
    (∃ a, v = .ref a ∧ (∃ vs, SqL K H a vs) ∧ ItOk K c (Itl K a) xs fun ρ => dat (.loc j) ρ = some d) ∨ (∃ a, v = .ref a ∧ (∃ vs, SqT K H a vs) ∧ ItOk K c (Itt K a) xs fun ρ => dat (.loc j) ρ = some d) ∨ ∃ x, v = .str x ∧ ItOk K c (Its x) xs fun ρ => dat (.loc j) ρ = some d := by
  -- the slot's thing in any state
  have slot : ∀ {S H : Hp} {σ : L2.St} {ρ : AEnv} {τ : List (V × A)}, Stt K c S H σ ρ τ → dat (.loc j) ρ = some d → ∃ y g, RepA K S H y v g ∧ y.toD = d := fun {S H σ ρ τ} s hd => by
    obtain ⟨y, hy, e⟩ := dat_loc hd
    obtain ⟨g, ra⟩ := s.slotA hy (s.os _ hj)
    exact ⟨y, g, ra, e⟩
  cases d with
  | lst ys =>
    simp only [seqD] at hx
    injection hx with hx
    subst hx
    obtain ⟨y, g, ra, e⟩ := slot s hd
    obtain ⟨a, vs, rfl, h1, h2⟩ := repA_lst ra e s.le
    refine .inl ⟨a, rfl, ⟨vs, h1⟩, fun S2 H2 σ2 ρ2 τ2 s2 hd2 => ?_⟩
    obtain ⟨y2, g2, ra2, e2⟩ := slot s2 hd2
    obtain ⟨a2, vs2, ea, h3, h4⟩ := repA_lst ra2 e2 s2.le
    cases ea
    refine ⟨fun i d hd => ?_, fun i hi => ⟨vs2, h3, by rw [h4.len]; exact hi⟩⟩
    obtain ⟨u, hu, ru⟩ := h4.at0 hd
    refine ⟨⟨vs2, u, h3, hu⟩, fun v H' ⟨e, hy⟩ => ?_⟩
    have := hy vs2 h3
    rw [hu] at this
    cases this
    subst e
    exact ⟨S2, s2.hold ru⟩
  | tup ys =>
    simp only [seqD] at hx
    injection hx with hx
    subst hx
    obtain ⟨y, g, ra, e⟩ := slot s hd
    obtain ⟨a, vs, rfl, _, h1, h2⟩ := repA_tup ra e s.le
    refine .inr (.inl ⟨a, rfl, ⟨vs, h1⟩, fun S2 H2 σ2 ρ2 τ2 s2 hd2 => ?_⟩)
    obtain ⟨y2, g2, ra2, e2⟩ := slot s2 hd2
    obtain ⟨a2, vs2, ea, _, h3, h4⟩ := repA_tup ra2 e2 s2.le
    cases ea
    refine ⟨fun i d hd => ?_, fun i hi => ⟨vs2, h3, by rw [h4.len]; exact hi⟩⟩
    obtain ⟨u, hu, ru⟩ := h4.at0 hd
    refine ⟨⟨vs2, u, h3, hu⟩, fun v H' ⟨e, hy⟩ => ?_⟩
    have := hy vs2 h3
    rw [hu] at this
    cases this
    subst e
    exact ⟨S2, s2.hold ru⟩
  | str x =>
    simp only [seqD] at hx
    injection hx with hx
    subst hx
    obtain ⟨y, g, ra, e⟩ := slot s hd
    have er : v = .str x := by
      cases y <;> simp only [A.toD] at e <;> first | (subst e; simp only [RepA, Rep] at ra; exact ra.1) | cases e
    subst er
    refine .inr (.inr ⟨x, rfl, fun S H σ ρ τ s _ => ⟨fun i d hd => ?_, fun i hi => ?_⟩⟩)
    · obtain ⟨c', hc, rfl⟩ := chrs_at hd
      refine ⟨(Array.getElem?_eq_some_iff.mp hc).1, fun v H' ⟨e, c2, h2, h3⟩ => ?_⟩
      rw [hc] at h2
      cases h2
      subst e h3
      exact ⟨S, s.hold (rep_sc rfl)⟩
    · show x.cps.size ≤ i
      have : (chrs x).length = x.cps.size := by simp [chrs]
      omega
  | _ => cases hx
theorem qi_ref (j : Nat) {x : Str} {pos : Pos} (hO : j ∈ P.O) (hN : X.N[j]? = some x := by rfl) (hv : Vis X.env.scope x := by first | exact Or.inl rfl | exact Or.inr (Or.inl rfl) | exact Or.inr (Or.inr rfl)) (hd : (x == ("__debug__" : Str)) = false := by decide)
    (hcd : (x == ("__classdict__" : Str)) = false := by decide) : QI X P tg (.Name x pos) (aiRef j) := by
  refine ⟨_, pi_seq (pe_var hN hv hd hcd), fun c EA ho hw τ S H σ ρ Q R st ⟨d, xs, hd, hx, q⟩ k => ?_⟩
  obtain ⟨v, hv⟩ := ho.2 j hO
  refine ⟨v, st.os _ hv, ?_⟩
  have s' := st.rest
  rcases itOk_ref (c := { c with S0 := S }) hv hx s' hd with ⟨a, e, h1, h2⟩ | ⟨a, e, h1, h2⟩ | ⟨x, e, h2⟩
  · exact .inl ⟨a, e, h1, k _ _ _ S ρ xs _ (Reb.rest st) s' h2 q⟩
  · exact .inr (.inl ⟨a, e, h1, k _ _ _ S ρ xs _ (Reb.rest st) s' h2 q⟩)
  · exact .inr (.inr ⟨x, e, k _ _ _ S ρ xs _ (Reb.rest st) s' h2 q⟩)
/-- numbers -/
def intsD (lo : Int) (n : Nat) : List D := (List.range n).map fun i => .int (lo + (i : Nat))
theorem intsD_at {lo : Int} {n i : Nat} {d : D} (h : (intsD lo n)[i]? = some d) : i < n ∧ d = .int (lo + (i : Nat)) := by
  unfold intsD at h
  rw [List.getElem?_map] at h
  by_cases e : i < n
  · rw [List.getElem?_range e] at h
    exact ⟨e, (Option.some.inj h).symm⟩
  · rw [List.getElem?_eq_none (by simpa using e)] at h
    cases h
theorem itOk_rng {c : Ctx} {lo : Int} {n : Nat} : ItOk K c (Itr lo n) (intsD lo n) fun _ => True := fun S H σ ρ τ s _ => ⟨fun i d hd => by
    obtain ⟨h1, rfl⟩ := intsD_at hd
    exact ⟨h1, fun v H' ⟨e, h⟩ => by subst e h; exact ⟨S, s.hold (rep_sc rfl)⟩⟩, fun i hi => by
    have : (intsD lo n).length = n := by simp [intsD]
    show n ≤ i
    omega⟩
def aiRng1 (aa : AA) : AI := fun EA ρ Q => aa EA ρ fun xs ρ1 => ∃ x j, xs = [x] ∧ dat x ρ1 = some (.int j) ∧ -(2 ^ 62) ≤ j ∧ j < 2 ^ 62 ∧ Q (intsD 0 j.toNat) (fun _ => True) ρ1
def aiRng2 (aa : AA) : AI := fun EA ρ Q => aa EA ρ fun xs ρ1 => ∃ x y i j, xs = [x, y] ∧ dat x ρ1 = some (.int i) ∧ dat y ρ1 = some (.int j) ∧ (-(2 ^ 62) ≤ i ∧ i < 2 ^ 62 ∧ -(2 ^ 62) ≤ j ∧ j < 2 ^ 62) ∧ Q (intsD i (j - i).toNat) (fun _ => True) ρ1
theorem qi_range1 {a : Expr} {aa : AA} {p pos : Pos} (hg : Gl X "range") (hm : X.mg "range" = none) (ha : QA X P [a] aa) (hs : starEach [a] X.env = [(false, eval a X.env)] := by rfl) : QI X P tg (.Call (.Name "range" p) [a] [] pos) (aiRng1 aa) := by
  obtain ⟨t, pa, s⟩ := ha.ex
  refine ⟨_, pi_range1 hg hm pa hs, fun c EA ho hw τ S H σ ρ Q R st q k => s c EA ho hw τ S H σ ρ _ _ st q fun vs H1 ⟨S1, ρ1, xs, hl, s1, x, j, e, hd, h1, h2, q1⟩ => ?_⟩
  subst e
  cases vs with
  | nil => simp at hl
  | cons v vs =>
    cases vs with
    | nil =>
      have r := s1.dat (v := v) (x := x) (by simp) hd
      simp only [Rep] at r
      subst r
      exact ⟨j, rfl, h1, h2, k _ _ _ S1 ρ1 _ _ (Reb.rest s1) (Stt.drops (ts := [V.int j].zip [x]) s1).rest itOk_rng q1⟩
    | cons _ _ => simp at hl
theorem qi_range2 {a b : Expr} {aa : AA} {p pos : Pos} (hg : Gl X "range") (hm : X.mg "range" = none) (ha : QA X P [a, b] aa) (hs : starEach [a, b] X.env = [(false, eval a X.env), (false, eval b X.env)] := by rfl) (hs2 : starEach [b] X.env = [(false, eval b X.env)] := by rfl) : QI X P tg (.Call (.Name "range" p) [a, b] [] pos) (aiRng2 aa) := by
  obtain ⟨t, pa, s⟩ := ha.ex
  refine ⟨_, pi_range2 hg hm pa hs hs2, fun c EA ho hw τ S H σ ρ Q R st q k => s c EA ho hw τ S H σ ρ _ _ st q fun vs H1 ⟨S1, ρ1, xs, hl, s1, x, y, i, j, e, hd, hd2, h1, q1⟩ => ?_⟩
  subst e
  cases vs with
  | nil => simp at hl
  | cons v vs =>
    cases vs with
    | nil => simp at hl
    | cons v2 vs =>
      cases vs with
      | nil =>
        have r := s1.dat (v := v) (x := x) (by simp) hd
        have r2 := s1.dat (v := v2) (x := y) (by simp) hd2
        simp only [Rep] at r r2
        subst r r2
        exact ⟨i, j, rfl, h1, k _ _ _ S1 ρ1 _ _ (Reb.rest s1) (Stt.drops (ts := [V.int i, V.int j].zip [x, y]) s1).rest itOk_rng q1⟩
      | cons _ _ => simp at hl
end

/-! ### targets -/
abbrev AG := D → AEnv → (AEnv → Prop) → Prop
abbrev AGs := List D → AEnv → (AEnv → Prop) → Prop
/-- σ2 is σ but for some slots -/
def But (ws : List Nat) (σ σ2 : L2.St) : Prop := σ2.length = σ.length ∧ ∀ i, i ∉ ws → σ2[i]? = σ[i]?
theorem But.refl {ws : List Nat} {σ : L2.St} : But ws σ σ := ⟨rfl, fun _ _ => rfl⟩
theorem But.trans {ws vs : List Nat} {σ σ2 σ3 : L2.St} (h : But ws σ σ2) (h2 : But vs σ2 σ3) : But (ws ++ vs) σ σ3 :=
  ⟨h2.1.trans h.1, fun i hi => (h2.2 i fun z => hi (by simp [z])).trans (h.2 i fun z => hi (by simp [z]))⟩
def SimG (K : Fg) (P : Pm) (g : TG) (ag : AG) (ws : List Nat) : Prop := ∀ c, OsIn c P.O → ∀ τ S H σ ρ v d Q (R : L2.St → Hp → Prop), Stt K c S H σ ρ ((v, .v d) :: τ) → (∀ u i, (u, A.loc i) ∈ τ → i ∉ ws) → ag d ρ Q → (∀ σ' ρ', Stt K c S H σ' ρ' τ → But ws σ σ' → Q ρ' → R σ' H) → g v σ H R
def SimGs (K : Fg) (P : Pm) (g : TGs) (ag : AGs) (ws : List Nat) : Prop := ∀ c, OsIn c P.O → ∀ τ S H σ ρ vs ds Q (R : L2.St → Hp → Prop), Stt K c S H σ ρ τ → RepL K S ds vs → (∀ u i, (u, A.loc i) ∈ τ → i ∉ ws) → ag ds ρ Q → (∀ σ' ρ', Stt K c S H σ' ρ' τ → But ws σ σ' → Q ρ' → R σ' H) → g vs σ H R
structure QG (X : Cx) (P : Pm) (tg : Expr) (ag : AG) (ws : List Nat) : Prop where
  ex : ∃ g, PG X tg g ∧ SimG X.K P g ag ws
structure QGs (X : Cx) (P : Pm) (tg : List Expr) (ag : AGs) (ws : List Nat) : Prop where
  ex : ∃ g, PGs X tg g ∧ SimGs X.K P g ag ws
section
variable {X : Cx} {P : Pm} {K : Fg} {pos : Pos}
def agName (i : Nat) : AG := fun d ρ Q => Q (ρ.set i (some (.v d)))
def agNil : AGs := fun ds ρ Q => ds = [] ∧ Q ρ
def agCons (a : AG) (b : AGs) : AGs := fun ds ρ Q => ∃ d r, ds = d :: r ∧ a d ρ fun ρ' => b r ρ' Q
def agTup (n : Nat) (b : AGs) : AG := fun d ρ Q => ∃ ds, d = .tup ds ∧ ds.length = n ∧ b ds ρ Q
theorem qg_name {i : Nat} {x : Str} (hN : X.N.Nodup) (hi : X.N[i]? = some x) (hx : Loc X.env.scope x) (hO : i ∉ P.O) (hf : X.fn x = true ∨ X.env.scope.names.lookup x = some .local := by first | exact .inl rfl | exact .inr rfl | assumption) : QG X P (.Name x pos) (agName i) [i] :=
  ⟨_, pg_name hN hi hx hf, fun c ho τ S H σ ρ v d Q R s hn q k => k _ _ (s.store rfl (ho.ne hO) fun u m => hn u i m (by simp)) ⟨by simp, fun j hj => List.getElem?_set_ne (fun z => hj (by simp [z]))⟩ q⟩
theorem qgs_nil : QGs X P [] agNil [] := ⟨_, pgs_nil, fun c ho τ S H σ ρ vs ds Q R s r hn ⟨e, q⟩ k => by
  subst e
  simp only [RepL] at r
  exact ⟨r, k _ _ s But.refl q⟩⟩
theorem qgs_cons {e : Expr} {es : List Expr} {a : AG} {b : AGs} {ws vs : List Nat} (h1 : QG X P e a ws) (h2 : QGs X P es b vs) (hs : (assignEach (e :: es) X.env).map (·.2) = assign e X.env :: (assignEach es X.env).map (·.2) := by rfl) : QGs X P (e :: es) (agCons a b) (ws ++ vs) := by
  obtain ⟨t, p, s⟩ := h1.ex
  obtain ⟨t2, p2, s2⟩ := h2.ex
  refine ⟨_, pgs_cons p p2 hs, fun c ho τ S H σ ρ us ds Q R st r hn ⟨d, rs, e, q⟩ k => ?_⟩
  subst e
  simp only [RepL] at r
  obtain ⟨v, r', rfl, h3, h4⟩ := r
  refine ⟨v, r', rfl, s c ho τ S H σ ρ v d _ _ (st.hold h3) (fun u i m z => hn u i m (by simp [z])) q fun σ' ρ' st' bt q' => ?_⟩
  exact s2 c ho τ S H σ' ρ' r' rs _ _ st' h4 (fun u i m z => hn u i m (by simp [z])) q' fun σ2 ρ2 st2 bt2 q2 => k σ2 ρ2 st2 (bt.trans bt2) q2
theorem qg_tup {es : List Expr} {k : Nat} {b : AGs} {n : Nat} {ws : List Nat} (hc : X.calm = true) (h : QGs X P es b ws) (hn : (assignEach es X.env).length = n := by rfl) (hst : (assignEach es X.env).findIdx? (·.1) = none := by rfl) : QG X P (.Tuple es k pos) (agTup n b) ws := by
  obtain ⟨t, p, s⟩ := h.ex
  refine ⟨_, pg_tup hc p hn hst, fun c ho τ S H σ ρ v d Q R st hnn ⟨ds, e, hl, q⟩ k => ?_⟩
  subst e
  have r := st.data
  simp only [Rep] at r
  obtain ⟨a, vs, rfl, h1, h2⟩ := r
  exact ⟨a, vs, rfl, SqT.le st.le h1, by rw [h2.len]; exact hl, s c ho τ S H σ ρ vs ds _ _ st.drop h2 hnn q k⟩

/-! ### for -/
def forA (G : AEnv → Prop) (ag : AG) (ab : AS) (DA : AEnds) : List D → AEnv → Prop
  | [], ρ => G ρ ∧ DA.nx ρ
  | x :: xs, ρ => G ρ ∧ ag x ρ fun ρ' => ab { DA with nx := forA G ag ab DA xs, ct := forA G ag ab DA xs, bk := DA.nx } ρ'
def asFor (ai : AI) (ag : AG) (ab : AS) : AS := fun DA ρ => ai DA.ex ρ fun xs G ρ' => forA G ag ab DA xs ρ'
theorem qs_for {tg iter : Expr} {body : List Stmt} {ai : AI} {ag : AG} {ab : AS} {ws : List Nat} (hp : PassesOwn (model X.prog X.w) X.A X.env X.xe) (hc : X.calm = true) (hi : QI X P tg iter ai) (hg : QG X P tg ag ws) (hb : QSs X P body ab)
    (hs : ∀ x, foldedSetIterable iter X.env x = pure x := by intro _; rfl) : QS X P (.For tg iter body [] pos) (asFor ai ag ab) := by
  obtain ⟨wi, pi, si⟩ := hi.ex
  obtain ⟨g, pg, sg⟩ := hg.ex
  obtain ⟨tb, pb, sb⟩ := hb.ex
  refine ⟨_, ps_for hp hc pi pg pb hs, fun c D DA ho hw l S H σ ρ st q => si c DA.ex ho hw [] S H σ ρ _ _ st q fun c' J H1 S1 ρ1 xs G rb s1 hJ q1 => ?_⟩
  refine ⟨fun i m σ H => ∃ S ρ, Stt X.K c' S H σ ρ [] ∧ i + m = xs.length ∧ forA G ag ab DA (xs.drop i) ρ, ⟨xs.length, S1, ρ1, s1, by omega, by simpa using q1⟩, ?_⟩
  rintro i m σ2 H2 ⟨S2, ρ2, s2, hm, q2⟩
  by_cases hlt : i < xs.length
  · have e : xs.drop i = xs[i] :: xs.drop (i + 1) := List.drop_eq_getElem_cons hlt
    rw [e] at q2
    obtain ⟨hG, q2⟩ := q2
    obtain ⟨h1, h2⟩ := (hJ S2 H2 σ2 ρ2 [] s2 hG).1 i xs[i] (List.getElem?_eq_getElem hlt)
    refine .inr ⟨h1, fun σ' H' => ∃ S ρ, Stt X.K c' S H' σ' ρ [] ∧ forA G ag ab DA (xs.drop (i + 1)) ρ, fun σ' H' ⟨S', ρ', a1, a2⟩ => ⟨m - 1, by omega, S', ρ', a1, by omega, a2⟩, fun x H' hy => ?_⟩
    obtain ⟨S3, s3⟩ := h2 x H' hy
    refine sg c' (rb.osIn ho) [] S3 H' σ2 ρ2 x xs[i] _ _ s3 (fun _ _ m => by simp at m) q2 fun σ' ρ' s4 _ q4 => ?_
    refine sb c' { D with nx := fun σ' H' => ∃ S ρ, Stt X.K c' S H' σ' ρ [] ∧ forA G ag ab DA (xs.drop (i + 1)) ρ, ct := fun σ' H' => ∃ S ρ, Stt X.K c' S H' σ' ρ [] ∧ forA G ag ab DA (xs.drop (i + 1)) ρ, bk := D.nx } { DA with nx := forA G ag ab DA (xs.drop (i + 1)), ct := forA G ag ab DA (xs.drop (i + 1)), bk := DA.nx } (rb.osIn ho) (rb.xok hw) ⟨fun S H σ ρ a b => ⟨S, ρ, a, b⟩, fun S H σ ρ v x a => l.rt S H σ ρ v x (rb.back a), fun S H σ ρ a => l.nx S H σ ρ (rb.back a), fun S H σ ρ a b => ⟨S, ρ, a, b⟩⟩ S3 H' σ' ρ' s4 q4
  · have e : xs.drop i = [] := List.drop_eq_nil_of_le (by omega)
    rw [e] at q2
    exact .inl ⟨(hJ S2 H2 σ2 ρ2 [] s2 q2.1).2 i (by omega), l.nx S2 H2 σ2 ρ2 (rb.back s2) q2.2⟩
/-- slots are forgotten -/
def clearA : List Nat → AEnv → AEnv
  | [], ρ => ρ
  | v :: vs, ρ => (clearA vs ρ).set v none
theorem Stt.clears {c : Ctx} {S H : Hp} {σ : L2.St} {ρ : AEnv} {τ : List (V × A)} (s : Stt K c S H σ ρ τ) : ∀ (vs : List Nat), (∀ u i, (u, A.loc i) ∈ τ → i ∉ vs) → Stt K c S H σ (clearA vs ρ) τ
  | [], _ => s
  | v :: vs, h => (Stt.clears s vs fun u i m z => h u i m (by simp [z])).clear v fun u m => h u v m (by simp)
theorem qs_forget (vs : List Nat) {st : Stmt} {a : AS} (h : QS X P st a) : QS X P st (fun DA ρ => a DA (clearA vs ρ)) :=
  let ⟨t, p, s⟩ := h.ex; ⟨t, p, fun c D DA ho hw l S H σ ρ st q => s c D DA ho hw l S H σ _ (st.clears vs fun _ _ m => by simp at m) q⟩
/-! ### while -/
end
end Vs

set_option Elab.async false
set_option linter.all false
set_option maxRecDepth 100000
set_option maxHeartbeats 1000000
/-! Vs: rules that take any kind; sharing; a bundle for a callee. -/
namespace Vs
open PySem PySem.Spec PyProof.Rows L2
section
variable {X : Cx} {P : Pm} {K : Fg} {a b e : Expr} {pos : Pos} {aa ab : AE}
theorem OpR.or {f : Value → Value → Sem Value} {r r' : R2} (h : OpR X f r) (h' : OpR X f r') : OpR X f (fun x y H Q => r x y H Q ∨ r' x y H Q) := fun pins s σ H x y v u Q I rx ry q =>
  q.elim (fun q => h pins s σ H x y v u Q I rx ry q) fun q => h' pins s σ H x y v u Q I rx ry q
/-! ### subscripts of any kind -/
def rDIx : R2 := fun x y H Q => ∃ a v, x = .ref a ∧ DGet H a y (some v) ∧ Q v H
theorem ix_dic (hu : X.A.units + 64 < cLine) : IxR X rDIx := by
  intro value slice pins s σ H x y v u Q I rx ry h hs
  obtain ⟨a, z, ex, g, q⟩ := h
  subst ex
  obtain rfl : v = Value.ref a := rx
  have hT := dict_typeIs I g
  unfold subscriptTail
  refine wpAny_bind ?_
  rw [getitemInPython_of_ne hT.not_modules]
  refine wpAny_bind (wpAny_specialOf hT PySem.F.slot_dict_getitem.lookup ?_)
  have fin : wpAny (model X.prog X.w) X.A (subscripted slice false (.ref a) u) (fun r s₃ => wpAny (model X.prog X.w) X.A (letTemporaryGo value (.ref a) r >>= fun _ => pure r) (EP X pins σ Q) X.xe s₃) X.xe s := by
    rw [hs]
    exact wpAny_operating (d_getItem (by omega) I g ry fun w' s3 I3 rw' => wpAny_bind (wpAny_letTemporaryGo (wpAny_pure ⟨z, H, I3, rw', q⟩)))
  first
    | exact wpAny_pure (wpAny_bind fin)
    | exact wpAny_bind (wpAny_pure (wpAny_bind fin))
    | exact wpAny_bind fin
theorem IxR.or {r r' : R2} (h : IxR X r) (h' : IxR X r') : IxR X (fun x y H Q => r x y H Q ∨ r' x y H Q) := fun value slice pins s σ H x y v u Q I rx ry q hs =>
  q.elim (fun q => h value slice pins s σ H x y v u Q I rx ry q hs) fun q => h' value slice pins s σ H x y v u Q I rx ry q hs
/-- d[i], the item of a list, tuple, text or dict -/
def itD (d i : D) : Option D := match d, i with
  | .lst xs, .int j => atI xs j
  | .tup xs, .int j => atI xs j
  | .str x, .int j => if x.length ≤ 100000 then (atI x.cps.toList j).map fun ch => .str ⟨#[ch]⟩ else none
  | .dic kvs, i => (keyD i).bind (valD kvs)
  | _, _ => none
def aIx : AR2 := fun x y ρ Q => ∃ d i z, dat x ρ = some d ∧ dat y ρ = some i ∧ itD d i = some z ∧ Q (.v z) ρ
theorem s_ditem : Sim2 K rDIx aDItem := by
  intro c τ S H σ ρ vx vy x y Q R s2 q k
  obtain ⟨kvs, i, kk, z, h1, h2, h3, h4, q2⟩ := q
  obtain ⟨y0, g, r0, e0⟩ := s2.thing (List.mem_cons_of_mem _ (List.mem_cons_self ..)) h1
  obtain ⟨p, ws, rfl, h5, h6⟩ := repA_dic r0 e0 s2.le
  have r2 := (two_dat s2 h1 h2).2
  have ek := key_rep h3 r2
  subst ek
  rcases h6.val (k := kk) with ⟨e1, _⟩ | ⟨d', v', e1, e2, e3⟩
  · rw [e1] at h4; cases h4
  · rw [h4] at e1
    cases e1
    exact ⟨p, v', rfl, .inl ⟨ws, kk, h5, rfl, e2.symm⟩, k _ _ ⟨S, ρ, .v z, s2.drop.drop.hold e3, q2⟩⟩
theorem s_ix : Sim2 K (fun x y H Q => rIx K x y H Q ∨ rDIx x y H Q) aIx := by
  intro c τ S H σ ρ vx vy x y Q R s q k
  obtain ⟨d, i, z, h1, h2, hi, q⟩ := q
  have other : ItD d i z → (rIx K vx vy H R ∨ rDIx vx vy H R) := fun h => .inl (s_item c τ S H σ ρ vx vy x y Q R s ⟨d, i, z, h1, h2, h, q⟩ k)
  cases d with
  | lst xs => cases i <;> first | (simp only [itD] at hi; exact other ⟨_, rfl, hi⟩) | cases hi
  | tup xs => cases i <;> first | (simp only [itD] at hi; exact other ⟨_, rfl, hi⟩) | cases hi
  | str t =>
    cases i with
    | int j =>
      simp only [itD] at hi
      split at hi
      · rename_i hl
        cases e : atI t.cps.toList j with
        | none => rw [e] at hi; cases hi
        | some ch =>
          rw [e] at hi
          exact other ⟨j, ch, rfl, hl, e, (Option.some.inj hi).symm⟩
      · cases hi
    | _ => cases hi
  | dic kvs =>
    have hi' : (keyD i).bind (valD kvs) = some z := by cases i <;> exact hi
    cases e : keyD i with
    | none => rw [e] at hi'; cases hi'
    | some kk =>
      rw [e] at hi'
      exact .inr (s_ditem c τ S H σ ρ vx vy x y Q R s ⟨kvs, i, kk, z, h1, h2, e, hi', q⟩ k)
  | _ => cases hi
theorem qe_ix (hu : X.A.units + 64 < cLine) (ha : QE X P a aa) (hb : QE X P b ab) (hs : PlainIx b := by intro _ _; rfl) : QE X P (.Subscript a b pos) (aOp aIx aa ab) :=
  let ⟨_, p, s⟩ := ha.ex; let ⟨_, p2, s2⟩ := hb.ex; ⟨_, pe_ix (IxR.or ix_seq (ix_dic hu)) p p2 hs, sim_op s s2 s_ix⟩
/-! ### + of any kind -/
def rCatX (K : Fg) : R2 := fun x y H Q => ∃ l b xs zs, x = .ref l ∧ y = .ref b ∧ SqL K H l xs ∧ SqL K H b zs ∧ xs.length + zs.length ≤ sizeLine ∧ ∀ p, H p = none → Q (.ref p) (upd H p (.lst (xs ++ zs)))
theorem op_catX : OpR X (binaryOp .Add) (rCatX X.K) := by
  intro pins s σ H x y v u Q I rx ry h
  obtain ⟨l, b, xs, zs, rfl, rfl, hH, hB, hz, q⟩ := h
  cases rx
  cases ry
  obtain ⟨its, r, p1, z1⟩ := I.list hH
  obtain ⟨its2, r2, p2, z2⟩ := I.list hB
  obtain ⟨⟨cls, dd, data, sl⟩, ho, hc, n, hd⟩ := p1.isList
  obtain ⟨⟨cls2, dd2, data2, sl2⟩, ho2, hc2, n2, hd2⟩ := p2.isList
  simp only at hc hd hc2 hd2
  subst hc hd hc2 hd2
  have l1 := r.length
  have l2 := r2.length
  have e : its.toArray ++ its2.toArray = (its ++ its2).toArray := by simp
  refine concat_meets ⟨_, ho, rfl⟩ ⟨_, ho2, rfl⟩ noFill_list_add seq_list_add PySem.F.slot_list_add PySem.F.entry_list_add (PySem.F.args_list_add_2 _ _) (PyProof.Rows.list_addW l b its.toArray its2.toArray n n2 dd dd2 sl sl2 (by simp; omega)) ⟨ho, ho2, ?_⟩
  rw [e]
  exact ⟨.ref _, _, I.lnew (t' := s.toks) (r.append r2) (by rw [List.length_append]; omega), rfl, q _ I.fresh⟩
/-- x + y: numbers, texts, tuples; lists give an owned one -/
def addA (d e : D) (Q : A → Prop) : Prop := match d, e with
  | .int i, .int j => Q (.v (.int (i + j)))
  | .str x, .str y => x.length + y.length ≤ 100000 ∧ Q (.v (.str (x ++ y)))
  | .tup xs, .tup ys => xs.length + ys.length ≤ 100000 ∧ Q (.v (.tup (xs ++ ys)))
  | .lst xs, .lst ys => xs.length + ys.length ≤ 100000 ∧ Q (.lst (xs ++ ys))
  | _, _ => False
def aPlus : AR2 := fun x y ρ Q => ∃ d e, dat x ρ = some d ∧ dat y ρ = some e ∧ addA d e fun z => Q z ρ
abbrev rPlusX (K : Fg) : R2 := fun x y H Q => (rI0 (fun i j => .int (i + j))) x y H Q ∨ (∃ i j, x = .str i ∧ y = .str j ∧ i.length + j.length ≤ sizeLine ∧ Q (.str (i ++ j)) H) ∨ rCatA K x y H Q ∨ rCatX K x y H Q
theorem op_plus : OpR X (binaryOp .Add) (rPlusX X.K) := OpR.or op_add (OpR.or op_add_str (OpR.or op_catA op_catX))
theorem s_plus : Sim2 K (rPlusX K) aPlus := by
  intro c τ S H σ ρ vx vy x y Q R s q k
  obtain ⟨d, e, h1, h2, q⟩ := q
  cases d with
  | int i => cases e with
    | int j => exact .inl (s_add c τ S H σ ρ vx vy x y Q R s ⟨i, j, h1, h2, q⟩ k)
    | _ => cases q
  | str i => cases e with
    | str j => exact .inr (.inl (s_addS c τ S H σ ρ vx vy x y Q R s ⟨i, j, h1, h2, q.1, q.2⟩ k))
    | _ => cases q
  | tup i => cases e with
    | tup j => exact .inr (.inr (.inl (s_addT c τ S H σ ρ vx vy x y Q R s ⟨i, j, h1, h2, q.1, q.2⟩ k)))
    | _ => cases q
  | lst i => cases e with
    | lst j =>
      obtain ⟨y0, g, r0, e0⟩ := s.thing (List.mem_cons_of_mem _ (List.mem_cons_self ..)) h1
      obtain ⟨y1, g1, r1, e1⟩ := s.thing (List.mem_cons_self ..) h2
      obtain ⟨p, vs, rfl, a2, a3⟩ := repA_lst r0 e0 s.le
      obtain ⟨p', vs', rfl, b2, b3⟩ := repA_lst r1 e1 s.le
      refine .inr (.inr (.inr ⟨p, p', vs, vs', rfl, rfl, a2, b2, by rw [a3.len, b3.len]; exact Nat.le_trans q.1 (by decide), fun pn hp => ?_⟩))
      exact k _ _ ⟨S, ρ, _, s.drop.drop.newList hp (a3.app b3), q.2⟩
    | _ => cases q
  | _ => cases q
/-! ### sharing -/
def aFrz (ae : AE) : AE := fun EA ρ Q => ae EA ρ fun x ρ1 => useA x ρ1 fun d ρ2 => Q (.v d) ρ2
theorem qe_frz (h : QE X P e aa) : QE X P e (aFrz aa) := by
  obtain ⟨t, p, s⟩ := h.ex
  refine ⟨_, p, fun c EA ho hw τ S H σ ρ Q R st q k => s c EA ho hw τ S H σ ρ _ _ st q fun v H1 ⟨S1, ρ1, x, s1, q1⟩ => ?_⟩
  obtain ⟨S2, d, ρ2, sm, s2, q2⟩ := use_sim s1 q1
  exact k _ _ ⟨S2, ρ2, .v d, s2, q2⟩
/-! ### o[i] = e, o an owned list or dict -/
def putX (y : A) (i d : D) : Option A := match y with
  | .lst xs => (match i with
    | .int k => (ixN xs.length k).map fun n => .lst (xs.set n d)
    | _ => none)
  | .dic kvs => (keyD i).map fun k => .dic (putD kvs k d)
  | _ => none
def lenA : A → Nat
  | .dic kvs => kvs.length
  | _ => 0
def asPut (av ao ai : AE) : AS := fun DA ρ => av DA.ex ρ fun x ρ1 => useA x ρ1 fun d ρ2 => ao DA.ex ρ2 fun o ρ3 => ai DA.ex ρ3 fun iv ρ4 => ∃ j y i y', o = .loc j ∧ ρ4[j]? = some (some y) ∧ dat iv ρ4 = some i ∧ putX y i d = some y' ∧ lenA y ≤ 100000 ∧ DA.nx (ρ4.set j (some y'))
theorem PSet.or {t t' : TSet} (h : PSet X t) (h' : PSet X t') : PSet X (fun o i v H Q => t o i v H Q ∨ t' o i v H Q) := fun pins s σ H o i v ov iv u Q I ro ri rv q =>
  q.elim (fun q => h pins s σ H o i v ov iv u Q I ro ri rv q) fun q => h' pins s σ H o i v ov iv u Q I ro ri rv q
theorem qs_put {o i e : Expr} {av ao ai : AE} {pos' : Pos} (hu : X.A.units + 64 < cLine) (hv : QE X P e av) (ho' : QE X P o ao) (hi : QE X P i ai)
    (ha : ∀ v, assign (.Subscript o i pos') X.env v = (do
      let ov ← holding [v] (eval o X.env)
      let iv ← holding [v, ov] (eval i X.env)
      standAt pos'
      holding [v, ov, iv] (setItem ov iv v)
      release [v, ov, iv] []) := by intro _; rfl)
    (hs : swapsWithSole [.Subscript o i pos'] e pos.line X.env = pure false := by rfl) (hw : swappedStores [.Subscript o i pos'] e X.env = pure none := by rfl)
    (h1 : (assignEach [.Subscript o i pos'] X.env).map (·.2) = [assign (.Subscript o i pos') X.env] := by rfl) : QS X P (.Assign [.Subscript o i pos'] e pos) (asPut av ao ai) := by
  obtain ⟨tv, pv, sv⟩ := hv.ex
  obtain ⟨to, po, so⟩ := ho'.ex
  obtain ⟨ti, pi, si⟩ := hi.ex
  refine ⟨_, ps_asg pv (pg_sub po pi (PSet.or set_list (set_dict (by omega))) ha) hs hw h1, fun c D DA ho hw l S H σ ρ st q => sv c DA.ex ho hw [] S H σ ρ _ _ st q fun v H1 ⟨S1, ρ1, y, s1, q1⟩ => ?_⟩
  obtain ⟨S2, d, ρ2, sm, s2, q2⟩ := use_sim s1 q1
  refine so c DA.ex ho hw _ S2 H1 σ ρ2 _ _ s2 q2 fun vo H2 ⟨S3, ρ3, xo, s3, q3⟩ => si c DA.ex ho hw _ S3 H2 σ ρ3 _ _ s3 q3 fun vi H3 ⟨S4, ρ4, xi, s4, j, y, i, y', eo, hj, hk, hp', hlen, q4⟩ => ?_
  subst eo
  have hvo : σ[j]? = some (some vo) := (s4.loc vo j (by simp)).1
  obtain ⟨g, ra⟩ := s4.slotA hj hvo
  have rd : Rep X.K S4 d v := s4.dataMem (by simp)
  have rk := s4.dat (List.mem_cons_self ..) hk
  cases y with
  | lst xs =>
    obtain ⟨p, vs, rfl, hp, rl, rfl⟩ := ra.lst_inv
    cases i with
    | int k =>
      simp only [Rep] at rk
      simp only [putX] at hp'
      cases hn : ixN xs.length k with
      | none => rw [hn] at hp'; cases hp'
      | some n =>
        rw [hn] at hp'
        have e1 := (Option.some.inj hp').symm
        subst e1
        refine .inl ⟨p, vs, k, n, rfl, rk, hp, by rw [rl.len]; exact hn, ?_⟩
        have s5 := s4.write (o := .lst (vs.set n v)) (y' := .lst (xs.set n d)) hj hvo (fun g' h => by obtain ⟨a', _, e, _, _, e2⟩ := h.lst_inv; cases e; exact e2) rfl (.mk_lst upd_same (rl.set n rd))
        exact l.nx S4 _ σ _ s5.drop.drop.drop q4
    | _ => cases hp'
  | dic kvs =>
    obtain ⟨p, ws, rfl, hp, rl, rfl⟩ := ra.dic_inv
    simp only [putX] at hp'
    cases hkk : keyD i with
    | none => rw [hkk] at hp'; cases hp'
    | some k =>
      rw [hkk] at hp'
      have e1 := (Option.some.inj hp').symm
      subst e1
      have ek := key_rep hkk rk
      subst ek
      refine .inr ⟨p, upd H3 p (.dK (putK ws k v)), rfl, .inl ⟨ws, k, hp, rfl, by rw [rl.len]; exact Nat.lt_of_le_of_lt hlen (by decide), rfl⟩, ?_⟩
      have s5 := s4.write (o := .dK (putK ws k v)) (y' := .dic (putD kvs k d)) hj hvo (fun g' h => by obtain ⟨a', _, e, _, _, e2⟩ := h.dic_inv; cases e; exact e2) rfl (.mk_dic upd_same (rl.put k rd))
      exact l.nx S4 _ σ _ s5.drop.drop.drop q4
  | _ => cases hp'
end
/-! ### a callee -/
structure Cal (Pr : Program) (w : World) (K : Fg) (mg : Str → Option Value) (base : Heap) (x : Str) (k : Nat) (ps : List Str) (sp : ASp) : Prop where
  ex : ∃ f fd, mg x = some (.ref f) ∧ PySem.W.keepIn K (.ref f) = true ∧ Binds K fd ps [] ∧ Fok Pr w K mg base k f fd ps sp
theorem qe_callC {X : Cx} {P : Pm} {k : Nat} {ps : List Str} {sp : ASp} {x : Str} {e : Expr} {es : List Expr} {aa : AA} {p pos : Pos} (F : Cal X.prog X.w X.K X.mg X.base x k ps sp) (hr : Room k X.A) (hg : Gl X x) (hx : ∀ σ, PassesAt (L2.CX X.prog X.w) X σ (fun cls d H => P.W cls d σ H)) (ha : QA X P (e :: es) aa)
    (hdb : (x == ("__debug__" : Str)) = false := by decide) (he : starEach (e :: es) X.env = (false, eval e X.env) :: starEach es X.env := by rfl) (hpl : (backTo pos (starEach es X.env)).any (·.1) = false := by rfl) :
    QE X P (.Call (.Name x p) (e :: es) [] pos) (aCall sp [] aa) := let ⟨_, _, h1, h2, h3, h4⟩ := F.ex; qe_call h4 hr hg h1 h2 h3 .nil dfl_nil hx ha hdb he hpl
end Vs

set_option Elab.async false
set_option linter.all false
set_option maxRecDepth 100000
set_option maxHeartbeats 1000000
/-! Vs: readings, each at its whole application. -/
namespace Vs
open PySem PySem.Spec PyProof.Rows L2
section
variable {EA : AX} {ρ : AEnv} {Q : AK} {DA : AEnds} {QB : Bool → AEnv → Prop} {QL : List A → AEnv → Prop}
theorem r_seq {a b : AS} : asSeq a b DA ρ = a { DA with nx := b DA } ρ := rfl
theorem r_next : asNext DA ρ = DA.nx ρ := rfl
theorem r_expr {ae : AE} : asExpr ae DA ρ = ae DA.ex ρ (fun _ ρ' => DA.nx ρ') := rfl
theorem r_ret {ae : AE} : asRet ae DA ρ = ae DA.ex ρ (fun x ρ' => retA x ρ' DA.rt) := rfl
theorem r_retN : asRetN DA ρ = DA.rt (.v .non) ρ := rfl
theorem r_if {t : AT} {a b : AS} : asIf t a b DA ρ = t DA.ex ρ (fun b' ρ' => if b' = true then a DA ρ' else b DA ρ') := rfl
theorem r_break : asBreak DA ρ = DA.bk ρ := rfl
theorem r_cont : asCont DA ρ = DA.ct ρ := rfl
theorem r_set {i : Nat} {ae : AE} : asSet i ae DA ρ = ae DA.ex ρ (fun x ρ' => setA x ρ' i DA.nx) := rfl
theorem r_put {av ao ai : AE} : asPut av ao ai DA ρ = av DA.ex ρ (fun x ρ1 => useA x ρ1 fun d ρ2 => ao DA.ex ρ2 fun o ρ3 => ai DA.ex ρ3 fun iv ρ4 => ∃ j y i y', o = .loc j ∧ ρ4[j]? = some (some y) ∧ dat iv ρ4 = some i ∧ putX y i d = some y' ∧ lenA y ≤ 100000 ∧ DA.nx (ρ4.set j (some y'))) := rfl
theorem r_for {ai : AI} {ag : AG} {ab : AS} : asFor ai ag ab DA ρ = ai DA.ex ρ (fun xs G ρ' => forA G ag ab DA xs ρ') := rfl
theorem r_retv {d : D} {rt : A → AEnv → Prop} : retA (.v d) ρ rt = rt (.v d) ρ := rfl
theorem r_retl {xs : List D} {rt : A → AEnv → Prop} : retA (.lst xs) ρ rt = rt (.lst xs) ρ := rfl
theorem r_retd {xs : List (Key × D)} {rt : A → AEnv → Prop} : retA (.dic xs) ρ rt = rt (.dic xs) ρ := rfl
theorem r_reto {C : Addr} {xs : List (Str × A)} {rt : A → AEnv → Prop} : retA (.obj C xs) ρ rt = rt (.obj C xs) ρ := rfl
theorem r_reti {i : Nat} {rt : A → AEnv → Prop} : retA (.loc i) ρ rt = ∃ y, ρ[i]? = some (some y) ∧ rt y (ρ.set i none) := rfl
theorem r_setv {d : D} {i : Nat} {nx : AEnv → Prop} : setA (.v d) ρ i nx = nx (ρ.set i (some (.v d))) := rfl
theorem r_setl {d : List D} {i : Nat} {nx : AEnv → Prop} : setA (.lst d) ρ i nx = nx (ρ.set i (some (.lst d))) := rfl
theorem r_setd {d : List (Key × D)} {i : Nat} {nx : AEnv → Prop} : setA (.dic d) ρ i nx = nx (ρ.set i (some (.dic d))) := rfl
theorem r_seto {C : Addr} {d : List (Str × A)} {i : Nat} {nx : AEnv → Prop} : setA (.obj C d) ρ i nx = nx (ρ.set i (some (.obj C d))) := rfl
theorem r_seti {j i : Nat} {nx : AEnv → Prop} : setA (.loc j) ρ i nx = ∃ y, ρ[j]? = some (some y) ∧ nx ((ρ.set j (some (.v y.toD))).set i (some (.v y.toD))) := rfl
theorem r_usev {d : D} {k : D → AEnv → Prop} : useA (.v d) ρ k = k d ρ := rfl
theorem r_usel {xs : List D} {k : D → AEnv → Prop} : useA (.lst xs) ρ k = k (.lst xs) ρ := rfl
theorem r_used {xs : List (Key × D)} {k : D → AEnv → Prop} : useA (.dic xs) ρ k = k (.dic xs) ρ := rfl
theorem r_useo {C : Addr} {xs : List (Str × A)} {k : D → AEnv → Prop} : useA (.obj C xs) ρ k = k (A.obj C xs).toD ρ := rfl
theorem r_usei {i : Nat} {k : D → AEnv → Prop} : useA (.loc i) ρ k = ∃ y, ρ[i]? = some (some y) ∧ k y.toD (ρ.set i (some (.v y.toD))) := rfl
theorem r_uses0 {k : List D → AEnv → Prop} : usesA [] ρ k = k [] ρ := rfl
theorem r_uses1 {x : A} {xs : List A} {k : List D → AEnv → Prop} : usesA (x :: xs) ρ k = useA x ρ (fun d ρ' => usesA xs ρ' fun ds ρ'' => k (d :: ds) ρ'') := rfl
theorem r_datv {d : D} : dat (.v d) ρ = some d := rfl
theorem r_datl {d : List D} : dat (.lst d) ρ = some (.lst d) := rfl
theorem r_datd {d : List (Key × D)} : dat (.dic d) ρ = some (.dic d) := rfl
theorem r_dati {i : Nat} {y : A} (h : ρ[i]? = some (some y)) : dat (.loc i) ρ = some y.toD := by
  unfold dat
  simp only [h]
theorem r_toDv {d : D} : (A.v d).toD = d := rfl
theorem r_toDl {d : List D} : (A.lst d).toD = .lst d := rfl
theorem r_toDd {d : List (Key × D)} : (A.dic d).toD = .dic d := rfl
theorem r_c {d : D} : aC d EA ρ Q = Q (.v d) ρ := rfl
theorem r_val {i : Nat} : aVal i EA ρ Q = ∃ d, ρ[i]? = some (some (.v d)) ∧ Q (.v d) ρ := rfl
theorem r_ref {i : Nat} : aRef i EA ρ Q = ((∃ y, ρ[i]? = some (some y)) ∧ Q (.loc i) ρ) := rfl
theorem r_op {ra : AR2} {aa ab : AE} : aOp ra aa ab EA ρ Q = aa EA ρ (fun x ρ1 => ab EA ρ1 fun y ρ2 => ra x y ρ2 Q) := rfl
theorem r_un {ra : AR1} {aa : AE} : aUn ra aa EA ρ Q = aa EA ρ (fun x ρ1 => ra x ρ1 Q) := rfl
theorem r_test {ae : AE} : aTest ae EA ρ QB = ae EA ρ (fun x ρ1 => ∃ b, dat x ρ1 = some (.bl b) ∧ QB b ρ1) := rfl
theorem r_tand {t u : AT} : atAnd t u EA ρ QB = t EA ρ (fun b ρ1 => if b = true then u EA ρ1 QB else QB false ρ1) := rfl
theorem r_tor {t u : AT} : atOr t u EA ρ QB = t EA ρ (fun b ρ1 => if b = true then QB true ρ1 else u EA ρ1 QB) := rfl
theorem r_tnot {t : AT} : atNot t EA ρ QB = t EA ρ (fun b ρ1 => QB (!b) ρ1) := rfl
theorem r_and {t u : AE} : aAnd t u EA ρ Q = t EA ρ (fun x ρ1 => ∃ b, dat x ρ1 = some (.bl b) ∧ if b = true then u EA ρ1 Q else Q (.v (.bl false)) ρ1) := rfl
theorem r_or {t u : AE} : aOr t u EA ρ Q = t EA ρ (fun x ρ1 => ∃ b, dat x ρ1 = some (.bl b) ∧ if b = true then Q (.v (.bl true)) ρ1 else u EA ρ1 Q) := rfl
theorem r_not {t : AE} : aNot t EA ρ Q = t EA ρ (fun x ρ1 => ∃ b, dat x ρ1 = some (.bl b) ∧ Q (.v (.bl (!b))) ρ1) := rfl
theorem r_ifx {t : AT} {a b : AE} : aIf t a b EA ρ Q = t EA ρ (fun c ρ1 => if c = true then a EA ρ1 Q else b EA ρ1 Q) := rfl
theorem r_chain {ra rb : AR2} {aa ab ac : AE} : aChain ra rb aa ab ac EA ρ Q = aa EA ρ (fun x ρ1 => ab EA ρ1 fun y ρ2 => ∃ dy, y = .v dy ∧ ra x y ρ2 fun z ρ3 => ∃ b, dat z ρ3 = some (.bl b) ∧ if b = true then ac EA ρ3 fun w ρ4 => rb (.v dy) w ρ4 Q else Q (.v (.bl false)) ρ3) := rfl
theorem r_nil : aNil EA ρ QL = QL [] ρ := rfl
theorem r_cons {ae : AE} {aa : AA} : aCons ae aa EA ρ QL = ae EA ρ (fun x ρ1 => aa EA ρ1 fun xs ρ2 => QL (x :: xs) ρ2) := rfl
theorem r_tup {aa : AA} : aTup aa EA ρ Q = aa EA ρ (fun xs ρ1 => xs.length ≤ 1000 ∧ usesA xs ρ1 fun ds ρ2 => Q (.v (.tup ds)) ρ2) := rfl
theorem r_lst {aa : AA} : aLst aa EA ρ Q = aa EA ρ (fun xs ρ1 => xs.length ≤ 1000 ∧ usesA xs ρ1 fun ds ρ2 => Q (.lst ds) ρ2) := rfl
theorem r_dict0 : aDict0 EA ρ Q = Q (.dic []) ρ := rfl
theorem r_cb {ra : ARs} {aa : AA} : aCB ra aa EA ρ Q = aa EA ρ (fun xs ρ1 => ra xs ρ1 Q) := rfl
theorem r_frz {ae : AE} : aFrz ae EA ρ Q = ae EA ρ (fun x ρ1 => useA x ρ1 fun d ρ2 => Q (.v d) ρ2) := rfl
/-! operations on what is known -/
theorem r_ix {x y : A} : aIx x y ρ Q = ∃ d i z, dat x ρ = some d ∧ dat y ρ = some i ∧ itD d i = some z ∧ Q (.v z) ρ := rfl
theorem r_plus {x y : A} : aPlus x y ρ Q = ∃ d e, dat x ρ = some d ∧ dat y ρ = some e ∧ addA d e fun z => Q z ρ := rfl
theorem r_addi {i j : Int} {q : A → Prop} : addA (.int i) (.int j) q = q (.v (.int (i + j))) := rfl
theorem r_adds {i j : Str} {q : A → Prop} : addA (.str i) (.str j) q = (i.length + j.length ≤ 100000 ∧ q (.v (.str (i ++ j)))) := rfl
theorem r_addt {i j : List D} {q : A → Prop} : addA (.tup i) (.tup j) q = (i.length + j.length ≤ 100000 ∧ q (.v (.tup (i ++ j)))) := rfl
theorem r_addl {i j : List D} {q : A → Prop} : addA (.lst i) (.lst j) q = (i.length + j.length ≤ 100000 ∧ q (.lst (i ++ j))) := rfl
theorem r_sub {x y : A} : aSub x y ρ Q = ∃ i j, dat x ρ = some (.int i) ∧ dat y ρ = some (.int j) ∧ Q (.v (.int (i - j))) ρ := rfl
theorem r_lt {x y : A} : aLt x y ρ Q = ∃ i j, dat x ρ = some (.int i) ∧ dat y ρ = some (.int j) ∧ Q (.v (.bl (decide (i < j)))) ρ := rfl
theorem r_le {x y : A} : aLe x y ρ Q = ∃ i j, dat x ρ = some (.int i) ∧ dat y ρ = some (.int j) ∧ Q (.v (.bl (decide (i ≤ j)))) ρ := rfl
theorem r_gt {x y : A} : aGt x y ρ Q = ∃ i j, dat x ρ = some (.int i) ∧ dat y ρ = some (.int j) ∧ Q (.v (.bl (decide (j < i)))) ρ := rfl
theorem r_ge {x y : A} : aGe x y ρ Q = ∃ i j, dat x ρ = some (.int i) ∧ dat y ρ = some (.int j) ∧ Q (.v (.bl (decide (j ≤ i)))) ρ := rfl
theorem r_mul {x y : A} : aMul x y ρ Q = ∃ i j, dat x ρ = some (.int i) ∧ dat y ρ = some (.int j) ∧ CMul i j ∧ Q (.v (.int (i * j))) ρ := rfl
theorem r_mod {x y : A} : aMod x y ρ Q = ∃ i j, dat x ρ = some (.int i) ∧ dat y ρ = some (.int j) ∧ 0 < j ∧ Q (.v (.int (i % j))) ρ := rfl
theorem r_pow {x y : A} : aPow x y ρ Q = ∃ i j, dat x ρ = some (.int i) ∧ dat y ρ = some (.int j) ∧ CPow i j ∧ Q (.v (.int (i ^ j.toNat))) ρ := rfl
/-- wide division -/
def aDivW : AR2 := aI CDivW fun i j => .int (i / j)
theorem s_divW {K : Fg} : Sim2 K (rI CDivW fun i j => .int (i / j)) aDivW := s2_I fun _ _ => rfl
theorem r_div {x y : A} : aDivW x y ρ Q = ∃ i j, dat x ρ = some (.int i) ∧ dat y ρ = some (.int j) ∧ CDivW i j ∧ Q (.v (.int (i / j))) ρ := rfl
theorem r_neg {x : A} : aNeg x ρ Q = ∃ i, dat x ρ = some (.int i) ∧ Q (.v (.int (-i))) ρ := rfl
theorem r_eq {x y : A} : aEq x y ρ Q = ∃ d e, dat x ρ = some d ∧ dat y ρ = some e ∧ PlD 20 d ∧ PlD 20 e ∧ Q (.v (.bl (deq d e))) ρ := rfl
theorem r_ne {x y : A} : aNe x y ρ Q = ∃ d e, dat x ρ = some d ∧ dat y ρ = some e ∧ PlD 20 d ∧ PlD 20 e ∧ Q (.v (.bl (!deq d e))) ρ := rfl
theorem r_is {x y : A} : aIs x y ρ Q = ∃ d, dat x ρ = some d ∧ dat y ρ = some .non ∧ Q (.v (.bl (isNon d))) ρ := rfl
theorem r_isnot {x y : A} : aIsNot x y ρ Q = ∃ d, dat x ρ = some d ∧ dat y ρ = some .non ∧ Q (.v (.bl (!isNon d))) ρ := rfl
theorem r_in {x y : A} {n : Bool} : aIn n x y ρ Q = ∃ d e b, dat x ρ = some d ∧ dat y ρ = some e ∧ InD d e b ∧ Q (.v (.bl (if n then !b else b))) ρ := rfl
theorem r_len {x : A} : aLen [x] ρ Q = ∃ d n, dat x ρ = some d ∧ lenD d = some n ∧ Q (.v (.int n)) ρ := by
  unfold aLen
  simp only [List.cons.injEq, and_true, exists_and_left, exists_eq_left']
theorem r_int {x : A} : aInt [x] ρ Q = ((∃ i, dat x ρ = some (.int i) ∧ Q (.v (.int i)) ρ) ∨ ∃ b, dat x ρ = some (.bl b) ∧ Q (.v (.int (if b then 1 else 0))) ρ) := by
  unfold aInt
  simp only [List.cons.injEq, and_true, exists_and_left, exists_eq_left']
theorem r_list {x : A} : aList [x] ρ Q = ∃ d ys, dat x ρ = some d ∧ itemsD d = some ys ∧ Q (.lst ys) ρ := by
  unfold aList
  simp only [List.cons.injEq, and_true, exists_and_left, exists_eq_left']
theorem r_max {x y : A} : aMax2 [x, y] ρ Q = ∃ i j, dat x ρ = some (.int i) ∧ dat y ρ = some (.int j) ∧ Q (.v (.int (if j > i then j else i))) ρ := by
  unfold aMax2
  refine propext ⟨?_, ?_⟩
  · rintro ⟨a, b, i, j, e, h1, h2, q⟩
    cases e
    exact ⟨i, j, h1, h2, q⟩
  · rintro ⟨i, j, h1, h2, q⟩
    exact ⟨x, y, i, j, rfl, h1, h2, q⟩
theorem r_min {x y : A} : aMin2 [x, y] ρ Q = ∃ i j, dat x ρ = some (.int i) ∧ dat y ρ = some (.int j) ∧ Q (.v (.int (if j < i then j else i))) ρ := by
  unfold aMin2
  refine propext ⟨?_, ?_⟩
  · rintro ⟨a, b, i, j, e, h1, h2, q⟩
    cases e
    exact ⟨i, j, h1, h2, q⟩
  · rintro ⟨i, j, h1, h2, q⟩
    exact ⟨x, y, i, j, rfl, h1, h2, q⟩
theorem r_tuple {x : A} : aTuple [x] ρ Q = ∃ d ys, dat x ρ = some d ∧ (d = .lst ys ∨ d = .tup ys) ∧ Q (.v (.tup ys)) ρ := by
  unfold aTuple
  simp only [List.cons.injEq, and_true, exists_and_left, exists_eq_left']
theorem r_all {x : A} : aAll [x] ρ Q = ∃ bs : List Bool, dat x ρ = some (.lst (bs.map D.bl)) ∧ Q (.v (.bl (bs.all id))) ρ := by
  unfold aAll
  refine propext ⟨?_, ?_⟩
  · rintro ⟨a, bs, e, h1, q⟩
    cases e
    exact ⟨bs, h1, q⟩
  · rintro ⟨bs, h1, q⟩
    exact ⟨x, bs, rfl, h1, q⟩
theorem r_append {ao ae : AE} : aAppend ao ae EA ρ Q = ao EA ρ (fun o ρ1 => (∃ xs, dat o ρ1 = some (.lst xs)) ∧ ae EA ρ1 fun x ρ2 => useA x ρ2 fun d ρ3 => ∃ j xs, o = .loc j ∧ ρ3[j]? = some (some (.lst xs)) ∧ xs.length ≤ 100000 ∧ Q (.v .non) (ρ3.set j (some (.lst (xs ++ [d]))))) := rfl
theorem r_get1 {aa ab : AE} : aGet1 aa ab EA ρ Q = aa EA ρ (fun x ρ1 => (∃ kvs, dat x ρ1 = some (.dic kvs)) ∧ ab EA ρ1 fun y ρ2 => ∃ kvs i k, dat x ρ2 = some (.dic kvs) ∧ dat y ρ2 = some i ∧ keyD i = some k ∧ Q (.v ((valD kvs k).getD .non)) ρ2) := rfl
theorem r_itl {xs : List D} {j : Int} : itD (.lst xs) (.int j) = atI xs j := rfl
theorem r_itt {xs : List D} {j : Int} : itD (.tup xs) (.int j) = atI xs j := rfl
theorem r_itdi {kvs : List (Key × D)} {j : Int} : itD (.dic kvs) (.int j) = valD kvs (.inl j) := rfl
theorem r_itds {kvs : List (Key × D)} {j : Str} : itD (.dic kvs) (.str j) = valD kvs (.inr j) := rfl
theorem r_putl {xs : List D} {k : Int} {d : D} : putX (.lst xs) (.int k) d = (ixN xs.length k).map fun n => .lst (xs.set n d) := rfl
theorem r_putdi {kvs : List (Key × D)} {k : Int} {d : D} : putX (.dic kvs) (.int k) d = some (.dic (putD kvs (.inl k) d)) := rfl
theorem r_putds {kvs : List (Key × D)} {k : Str} {d : D} : putX (.dic kvs) (.str k) d = some (.dic (putD kvs (.inr k) d)) := rfl
theorem r_lenl {xs : List D} : lenA (.lst xs) = 0 := rfl
theorem r_lend {xs : List (Key × D)} : lenA (.dic xs) = xs.length := rfl
theorem r_lenDl {xs : List D} : lenD (.lst xs) = some xs.length := rfl
theorem r_lenDt {xs : List D} : lenD (.tup xs) = some xs.length := rfl
theorem r_at0 {α : Type} {a : α} {xs : List α} : atI (a :: xs) 0 = some a := by
  simp [atI, ixN]
theorem r_at1 {α : Type} {a b : α} {xs : List α} : atI (a :: b :: xs) 1 = some b := by
  have h : (1 : Int) < ((xs.length : Int) + 1 + 1) := by omega
  simp [atI, ixN, h]
theorem at_nat {α : Type} {xs : List α} {k : Nat} (h : k < xs.length) : atI xs (k : Int) = xs[k]? := by
  have h1 : (0 : Int) ≤ (k : Int) := by omega
  have h2 : (k : Int) < (xs.length : Int) := by omega
  simp only [atI, ixN, if_pos h1, if_pos h2, Option.bind_some, Int.toNat_natCast]
theorem r_at2 {α : Type} {a b c : α} {xs : List α} : atI (a :: b :: c :: xs) 2 = some c := at_nat (k := 2) (by simp)
theorem r_at3 {α : Type} {a b c d : α} {xs : List α} : atI (a :: b :: c :: d :: xs) 3 = some d := at_nat (k := 3) (by simp)
theorem r_at4 {α : Type} {a b c d e : α} {xs : List α} : atI (a :: b :: c :: d :: e :: xs) 4 = some e := at_nat (k := 4) (by simp)
theorem r_at5 {α : Type} {a b c d e f : α} {xs : List α} : atI (a :: b :: c :: d :: e :: f :: xs) 5 = some f := at_nat (k := 5) (by simp)
theorem r_at6 {α : Type} {a b c d e f g : α} {xs : List α} : atI (a :: b :: c :: d :: e :: f :: g :: xs) 6 = some g := at_nat (k := 6) (by simp)
theorem r_ixn0 : ixN 5 0 = some 0 := rfl
theorem r_ixn1 : ixN 5 1 = some 1 := rfl
theorem r_ixn2 : ixN 5 2 = some 2 := rfl
theorem r_ixn3 : ixN 5 3 = some 3 := rfl
theorem r_ixn4 : ixN 5 4 = some 4 := rfl
/-! calls -/
theorem r_call {sp : ASp} {dd : List D} {aa : AA} : aCall sp dd aa EA ρ Q = aa EA ρ (fun xs ρ1 => callA sp (xs ++ dd.map A.v) EA ρ1 Q) := rfl
theorem r_callA {sp : ASp} {xs : List A} : callA sp xs EA ρ Q = ∃ ys ρ', pass xs ρ = some (ys, ρ') ∧ sp.pre ys ∧ (∀ r xs', sp.post ys r xs' → xs'.length = ys.length → Q r (give xs xs' ρ')) ∧ ∀ C fs xs', sp.exc ys C fs xs' → xs'.length = ys.length → EA C fs (give xs xs' ρ') := rfl
end
/-! ### introduction, one step each -/
section
variable {EA : AX} {ρ : AEnv} {Q : AK} {DA : AEnds} {QB : Bool → AEnv → Prop} {QL : List A → AEnv → Prop} {x y : A} {d e z : D}
theorem i_seq {a b : AS} (k : a { DA with nx := b DA } ρ) : asSeq a b DA ρ := k
theorem i_next (k : DA.nx ρ) : asNext DA ρ := k
theorem i_expr {ae : AE} (k : ae DA.ex ρ fun _ ρ' => DA.nx ρ') : asExpr ae DA ρ := k
theorem i_ret {ae : AE} (k : ae DA.ex ρ fun x ρ' => retA x ρ' DA.rt) : asRet ae DA ρ := k
theorem i_retN (k : DA.rt (.v .non) ρ) : asRetN DA ρ := k
theorem i_if {t : AT} {a b : AS} (k : t DA.ex ρ fun b' ρ' => if b' = true then a DA ρ' else b DA ρ') : asIf t a b DA ρ := k
theorem i_break (k : DA.bk ρ) : asBreak DA ρ := k
theorem i_cont (k : DA.ct ρ) : asCont DA ρ := k
theorem i_set {i : Nat} {ae : AE} (k : ae DA.ex ρ fun x ρ' => setA x ρ' i DA.nx) : asSet i ae DA ρ := k
theorem i_put {av ao ai : AE} (k : av DA.ex ρ fun x ρ1 => useA x ρ1 fun d ρ2 => ao DA.ex ρ2 fun o ρ3 => ai DA.ex ρ3 fun iv ρ4 => ∃ j y i y', o = .loc j ∧ ρ4[j]? = some (some y) ∧ dat iv ρ4 = some i ∧ putX y i d = some y' ∧ lenA y ≤ 100000 ∧ DA.nx (ρ4.set j (some y'))) : asPut av ao ai DA ρ := k
/-- the store itself -/
def storeK (o iv : A) (d : D) (ρ : AEnv) (nx : AEnv → Prop) : Prop := ∃ j y i y', o = .loc j ∧ ρ[j]? = some (some y) ∧ dat iv ρ = some i ∧ putX y i d = some y' ∧ lenA y ≤ 100000 ∧ nx (ρ.set j (some y'))
theorem i_putX {av ao ai : AE} (k : av DA.ex ρ fun x ρ1 => useA x ρ1 fun d ρ2 => ao DA.ex ρ2 fun o ρ3 => ai DA.ex ρ3 fun iv ρ4 => storeK o iv d ρ4 DA.nx) : asPut av ao ai DA ρ := k
theorem i_putK {j : Nat} {iv y y' : A} {i d : D} {nx : AEnv → Prop} (h1 : ρ[j]? = some (some y)) (h2 : dat iv ρ = some i) (h3 : putX y i d = some y') (h4 : lenA y ≤ 100000) (k : nx (ρ.set j (some y'))) : storeK (.loc j) iv d ρ nx := ⟨j, y, i, y', rfl, h1, h2, h3, h4, k⟩
theorem i_for {ai : AI} {ag : AG} {ab : AS} (k : ai DA.ex ρ fun xs G ρ' => forA G ag ab DA xs ρ') : asFor ai ag ab DA ρ := k
theorem i_retv {rt : A → AEnv → Prop} (k : rt (.v d) ρ) : retA (.v d) ρ rt := k
theorem i_retl {xs : List D} {rt : A → AEnv → Prop} (k : rt (.lst xs) ρ) : retA (.lst xs) ρ rt := k
theorem i_retd {xs : List (Key × D)} {rt : A → AEnv → Prop} (k : rt (.dic xs) ρ) : retA (.dic xs) ρ rt := k
theorem i_reto {C : Addr} {xs : List (Str × A)} {rt : A → AEnv → Prop} (k : rt (.obj C xs) ρ) : retA (.obj C xs) ρ rt := k
theorem i_reti {i : Nat} {rt : A → AEnv → Prop} (h : ρ[i]? = some (some y)) (k : rt y (ρ.set i none)) : retA (.loc i) ρ rt := ⟨y, h, k⟩
theorem i_setv {i : Nat} {nx : AEnv → Prop} (k : nx (ρ.set i (some (.v d)))) : setA (.v d) ρ i nx := k
theorem i_setl {d : List D} {i : Nat} {nx : AEnv → Prop} (k : nx (ρ.set i (some (.lst d)))) : setA (.lst d) ρ i nx := k
theorem i_setd {d : List (Key × D)} {i : Nat} {nx : AEnv → Prop} (k : nx (ρ.set i (some (.dic d)))) : setA (.dic d) ρ i nx := k
theorem i_seto {C : Addr} {d : List (Str × A)} {i : Nat} {nx : AEnv → Prop} (k : nx (ρ.set i (some (.obj C d)))) : setA (.obj C d) ρ i nx := k
theorem i_seti {j i : Nat} {nx : AEnv → Prop} (h : ρ[j]? = some (some y)) (k : nx ((ρ.set j (some (.v y.toD))).set i (some (.v y.toD)))) : setA (.loc j) ρ i nx := ⟨y, h, k⟩
theorem i_usev {k : D → AEnv → Prop} (h : k d ρ) : useA (.v d) ρ k := h
theorem i_usel {xs : List D} {k : D → AEnv → Prop} (h : k (.lst xs) ρ) : useA (.lst xs) ρ k := h
theorem i_used {xs : List (Key × D)} {k : D → AEnv → Prop} (h : k (.dic xs) ρ) : useA (.dic xs) ρ k := h
theorem i_useo {C : Addr} {xs : List (Str × A)} {k : D → AEnv → Prop} (h : k (.obj C (A.toDs xs)) ρ) : useA (.obj C xs) ρ k := h
theorem i_usei {i : Nat} {k : D → AEnv → Prop} (h : ρ[i]? = some (some y)) (hk : k y.toD (ρ.set i (some (.v y.toD)))) : useA (.loc i) ρ k := ⟨y, h, hk⟩
theorem i_useil {i : Nat} {xs : List D} {k : D → AEnv → Prop} (h : ρ[i]? = some (some (.lst xs))) (hk : k (.lst xs) (ρ.set i (some (.v (.lst xs))))) : useA (.loc i) ρ k := ⟨_, h, hk⟩
theorem i_useid {i : Nat} {xs : List (Key × D)} {k : D → AEnv → Prop} (h : ρ[i]? = some (some (.dic xs))) (hk : k (.dic xs) (ρ.set i (some (.v (.dic xs))))) : useA (.loc i) ρ k := ⟨_, h, hk⟩
theorem i_useiv {i : Nat} {k : D → AEnv → Prop} (h : ρ[i]? = some (some (.v d))) (hk : k d (ρ.set i (some (.v d)))) : useA (.loc i) ρ k := ⟨_, h, hk⟩
theorem i_uses0 {k : List D → AEnv → Prop} (h : k [] ρ) : usesA [] ρ k := h
theorem i_uses1 {xs : List A} {k : List D → AEnv → Prop} (h : useA x ρ fun d ρ' => usesA xs ρ' fun ds ρ'' => k (d :: ds) ρ'') : usesA (x :: xs) ρ k := h
theorem i_c (k : Q (.v d) ρ) : aC d EA ρ Q := k
theorem i_val {i : Nat} (h : ρ[i]? = some (some (.v d))) (k : Q (.v d) ρ) : aVal i EA ρ Q := ⟨d, h, k⟩
theorem i_ref {i : Nat} (h : ρ[i]? = some (some y)) (k : Q (.loc i) ρ) : aRef i EA ρ Q := ⟨⟨y, h⟩, k⟩
theorem i_op {ra : AR2} {aa ab : AE} (k : aa EA ρ fun x ρ1 => ab EA ρ1 fun y ρ2 => ra x y ρ2 Q) : aOp ra aa ab EA ρ Q := k
theorem i_un {ra : AR1} {aa : AE} (k : aa EA ρ fun x ρ1 => ra x ρ1 Q) : aUn ra aa EA ρ Q := k
/-- a truth value -/
def isB (x : A) (ρ : AEnv) (k : Bool → Prop) : Prop := ∃ b, dat x ρ = some (.bl b) ∧ k b
theorem i_isB {b : Bool} {k : Bool → Prop} (h : dat x ρ = some (.bl b)) (hk : k b) : isB x ρ k := ⟨b, h, hk⟩
theorem i_test {ae : AE} (k : ae EA ρ fun x ρ1 => isB x ρ1 fun b => QB b ρ1) : aTest ae EA ρ QB := k
theorem i_tand {t u : AT} (k : t EA ρ fun b ρ1 => if b = true then u EA ρ1 QB else QB false ρ1) : atAnd t u EA ρ QB := k
theorem i_tor {t u : AT} (k : t EA ρ fun b ρ1 => if b = true then QB true ρ1 else u EA ρ1 QB) : atOr t u EA ρ QB := k
theorem i_tnot {t : AT} (k : t EA ρ fun b ρ1 => QB (!b) ρ1) : atNot t EA ρ QB := k
theorem i_and {t u : AE} (k : t EA ρ fun x ρ1 => isB x ρ1 fun b => if b = true then u EA ρ1 Q else Q (.v (.bl false)) ρ1) : aAnd t u EA ρ Q := k
theorem i_or {t u : AE} (k : t EA ρ fun x ρ1 => isB x ρ1 fun b => if b = true then Q (.v (.bl true)) ρ1 else u EA ρ1 Q) : aOr t u EA ρ Q := k
theorem i_not {t : AE} (k : t EA ρ fun x ρ1 => isB x ρ1 fun b => Q (.v (.bl (!b))) ρ1) : aNot t EA ρ Q := k
theorem i_ifx {t : AT} {a b : AE} (k : t EA ρ fun c ρ1 => if c = true then a EA ρ1 Q else b EA ρ1 Q) : aIf t a b EA ρ Q := k
def chnK (ra rb : AR2) (ac : AE) (EA : AX) (Q : AK) (x y : A) (ρ : AEnv) : Prop := ∃ dy, y = .v dy ∧ ra x y ρ fun z ρ3 => isB z ρ3 fun b => if b = true then ac EA ρ3 fun w ρ4 => rb (.v dy) w ρ4 Q else Q (.v (.bl false)) ρ3
theorem i_chain {ra rb : AR2} {aa ab ac : AE} (k : aa EA ρ fun x ρ1 => ab EA ρ1 fun y ρ2 => chnK ra rb ac EA Q x y ρ2) : aChain ra rb aa ab ac EA ρ Q := k
theorem i_chnK {ra rb : AR2} {ac : AE} (k : ra x (.v d) ρ fun z ρ3 => isB z ρ3 fun b => if b = true then ac EA ρ3 fun w ρ4 => rb (.v d) w ρ4 Q else Q (.v (.bl false)) ρ3) : chnK ra rb ac EA Q x (.v d) ρ := ⟨d, rfl, k⟩
theorem i_nil (k : QL [] ρ) : aNil EA ρ QL := k
theorem i_cons {ae : AE} {aa : AA} (k : ae EA ρ fun x ρ1 => aa EA ρ1 fun xs ρ2 => QL (x :: xs) ρ2) : aCons ae aa EA ρ QL := k
theorem i_tup {aa : AA} (k : aa EA ρ fun xs ρ1 => xs.length ≤ 1000 ∧ usesA xs ρ1 fun ds ρ2 => Q (.v (.tup ds)) ρ2) : aTup aa EA ρ Q := k
theorem i_lst {aa : AA} (k : aa EA ρ fun xs ρ1 => xs.length ≤ 1000 ∧ usesA xs ρ1 fun ds ρ2 => Q (.lst ds) ρ2) : aLst aa EA ρ Q := k
theorem i_sz {xs : List A} {p : Prop} (h : xs.length ≤ 1000) (k : p) : xs.length ≤ 1000 ∧ p := ⟨h, k⟩
theorem i_dict0 (k : Q (.dic []) ρ) : aDict0 EA ρ Q := k
theorem i_cb {ra : ARs} {aa : AA} (k : aa EA ρ fun xs ρ1 => ra xs ρ1 Q) : aCB ra aa EA ρ Q := k
theorem i_frz {ae : AE} (k : ae EA ρ fun x ρ1 => useA x ρ1 fun d ρ2 => Q (.v d) ρ2) : aFrz ae EA ρ Q := k
theorem i_ix {i : D} (h1 : dat x ρ = some d) (h2 : dat y ρ = some i) (h3 : itD d i = some z) (k : Q (.v z) ρ) : aIx x y ρ Q := ⟨d, i, z, h1, h2, h3, k⟩
theorem i_plus (h1 : dat x ρ = some d) (h2 : dat y ρ = some e) (k : addA d e fun z => Q z ρ) : aPlus x y ρ Q := ⟨d, e, h1, h2, k⟩
theorem i_addi {i j : Int} {q : A → Prop} (k : q (.v (.int (i + j)))) : addA (.int i) (.int j) q := k
theorem i_adds {i j : Str} {q : A → Prop} (h : i.length + j.length ≤ 100000) (k : q (.v (.str (i ++ j)))) : addA (.str i) (.str j) q := ⟨h, k⟩
theorem i_addt {i j : List D} {q : A → Prop} (h : i.length + j.length ≤ 100000) (k : q (.v (.tup (i ++ j)))) : addA (.tup i) (.tup j) q := ⟨h, k⟩
theorem i_addl {i j : List D} {q : A → Prop} (h : i.length + j.length ≤ 100000) (k : q (.lst (i ++ j))) : addA (.lst i) (.lst j) q := ⟨h, k⟩
variable {i j : Int}
theorem i_sub (h1 : dat x ρ = some (.int i)) (h2 : dat y ρ = some (.int j)) (k : Q (.v (.int (i - j))) ρ) : aSub x y ρ Q := ⟨i, j, h1, h2, k⟩
theorem i_lt (h1 : dat x ρ = some (.int i)) (h2 : dat y ρ = some (.int j)) (k : Q (.v (.bl (decide (i < j)))) ρ) : aLt x y ρ Q := ⟨i, j, h1, h2, k⟩
theorem i_le (h1 : dat x ρ = some (.int i)) (h2 : dat y ρ = some (.int j)) (k : Q (.v (.bl (decide (i ≤ j)))) ρ) : aLe x y ρ Q := ⟨i, j, h1, h2, k⟩
theorem i_gt (h1 : dat x ρ = some (.int i)) (h2 : dat y ρ = some (.int j)) (k : Q (.v (.bl (decide (j < i)))) ρ) : aGt x y ρ Q := ⟨i, j, h1, h2, k⟩
theorem i_ge (h1 : dat x ρ = some (.int i)) (h2 : dat y ρ = some (.int j)) (k : Q (.v (.bl (decide (j ≤ i)))) ρ) : aGe x y ρ Q := ⟨i, j, h1, h2, k⟩
theorem i_mul (h1 : dat x ρ = some (.int i)) (h2 : dat y ρ = some (.int j)) (hc : CMul i j) (k : Q (.v (.int (i * j))) ρ) : aMul x y ρ Q := ⟨i, j, h1, h2, hc, k⟩
theorem i_mod (h1 : dat x ρ = some (.int i)) (h2 : dat y ρ = some (.int j)) (hc : 0 < j) (k : Q (.v (.int (i % j))) ρ) : aMod x y ρ Q := ⟨i, j, h1, h2, hc, k⟩
theorem i_pow (h1 : dat x ρ = some (.int i)) (h2 : dat y ρ = some (.int j)) (hc : CPow i j) (k : Q (.v (.int (i ^ j.toNat))) ρ) : aPow x y ρ Q := ⟨i, j, h1, h2, hc, k⟩
theorem i_div (h1 : dat x ρ = some (.int i)) (h2 : dat y ρ = some (.int j)) (hc : CDivW i j) (k : Q (.v (.int (i / j))) ρ) : aDivW x y ρ Q := ⟨i, j, h1, h2, hc, k⟩
theorem i_neg (h1 : dat x ρ = some (.int i)) (k : Q (.v (.int (-i))) ρ) : aNeg x ρ Q := ⟨i, h1, k⟩
theorem i_eq (h1 : dat x ρ = some d) (h2 : dat y ρ = some e) (p1 : PlD 20 d) (p2 : PlD 20 e) (k : Q (.v (.bl (deq d e))) ρ) : aEq x y ρ Q := ⟨d, e, h1, h2, p1, p2, k⟩
theorem i_ne (h1 : dat x ρ = some d) (h2 : dat y ρ = some e) (p1 : PlD 20 d) (p2 : PlD 20 e) (k : Q (.v (.bl (!deq d e))) ρ) : aNe x y ρ Q := ⟨d, e, h1, h2, p1, p2, k⟩
theorem i_is (h1 : dat x ρ = some d) (h2 : dat y ρ = some .non) (k : Q (.v (.bl (isNon d))) ρ) : aIs x y ρ Q := ⟨d, h1, h2, k⟩
theorem i_isnot (h1 : dat x ρ = some d) (h2 : dat y ρ = some .non) (k : Q (.v (.bl (!isNon d))) ρ) : aIsNot x y ρ Q := ⟨d, h1, h2, k⟩
theorem i_in {b : Bool} (h1 : dat x ρ = some d) (h2 : dat y ρ = some e) (h : InD d e b) (k : Q (.v (.bl b)) ρ) : aIn false x y ρ Q := ⟨d, e, b, h1, h2, h, k⟩
theorem i_notin {b : Bool} (h1 : dat x ρ = some d) (h2 : dat y ρ = some e) (h : InD d e b) (k : Q (.v (.bl (!b))) ρ) : aIn true x y ρ Q := ⟨d, e, b, h1, h2, h, k⟩
theorem i_len {n : Nat} (h1 : dat x ρ = some d) (h2 : lenD d = some n) (k : Q (.v (.int n)) ρ) : aLen [x] ρ Q := ⟨x, d, n, rfl, h1, h2, k⟩
theorem i_int (h1 : dat x ρ = some (.int i)) (k : Q (.v (.int i)) ρ) : aInt [x] ρ Q := ⟨x, rfl, .inl ⟨i, h1, k⟩⟩
theorem i_list {ys : List D} (h1 : dat x ρ = some d) (h2 : itemsD d = some ys) (k : Q (.lst ys) ρ) : aList [x] ρ Q := ⟨x, d, ys, rfl, h1, h2, k⟩
theorem i_max (h1 : dat x ρ = some (.int i)) (h2 : dat y ρ = some (.int j)) (k : Q (.v (.int (if j > i then j else i))) ρ) : aMax2 [x, y] ρ Q := ⟨x, y, i, j, rfl, h1, h2, k⟩
theorem i_min (h1 : dat x ρ = some (.int i)) (h2 : dat y ρ = some (.int j)) (k : Q (.v (.int (if j < i then j else i))) ρ) : aMin2 [x, y] ρ Q := ⟨x, y, i, j, rfl, h1, h2, k⟩
theorem i_tuplel {ys : List D} (h1 : dat x ρ = some (.lst ys)) (k : Q (.v (.tup ys)) ρ) : aTuple [x] ρ Q := ⟨x, _, ys, rfl, h1, .inl rfl, k⟩
theorem i_tuplet {ys : List D} (h1 : dat x ρ = some (.tup ys)) (k : Q (.v (.tup ys)) ρ) : aTuple [x] ρ Q := ⟨x, _, ys, rfl, h1, .inr rfl, k⟩
theorem i_all {bs : List Bool} (h1 : dat x ρ = some (.lst (bs.map D.bl))) (k : Q (.v (.bl (bs.all id))) ρ) : aAll [x] ρ Q := ⟨x, bs, rfl, h1, k⟩
def appK (o : A) (d : D) (ρ : AEnv) (Q : AK) : Prop := ∃ j xs, o = .loc j ∧ ρ[j]? = some (some (.lst xs)) ∧ xs.length ≤ 100000 ∧ Q (.v .non) (ρ.set j (some (.lst (xs ++ [d]))))
def isL (o : A) (ρ : AEnv) (p : Prop) : Prop := (∃ xs, dat o ρ = some (.lst xs)) ∧ p
theorem i_isL {xs : List D} {p : Prop} (h : dat x ρ = some (.lst xs)) (k : p) : isL x ρ p := ⟨⟨xs, h⟩, k⟩
theorem i_append {ao ae : AE} (k : ao EA ρ fun o ρ1 => isL o ρ1 (ae EA ρ1 fun x ρ2 => useA x ρ2 fun d ρ3 => appK o d ρ3 Q)) : aAppend ao ae EA ρ Q := k
theorem i_appK {j : Nat} {xs : List D} (h1 : ρ[j]? = some (some (.lst xs))) (h2 : xs.length ≤ 100000) (k : Q (.v .non) (ρ.set j (some (.lst (xs ++ [d]))))) : appK (.loc j) d ρ Q := ⟨j, xs, rfl, h1, h2, k⟩
theorem i_call {sp : ASp} {dd : List D} {aa : AA} (k : aa EA ρ fun xs ρ1 => callA sp (xs ++ dd.map A.v) EA ρ1 Q) : aCall sp dd aa EA ρ Q := k
theorem i_callA {sp : ASp} {xs ys : List A} {ρ' : AEnv} (h : pass xs ρ = some (ys, ρ')) (hp : sp.pre ys) (hq : ∀ r ys', sp.post ys r ys' → ys'.length = ys.length → Q r (give xs ys' ρ')) (hx : ∀ C fs ys', sp.exc ys C fs ys' → ys'.length = ys.length → EA C fs (give xs ys' ρ')) : callA sp xs EA ρ Q := ⟨ys, ρ', h, hp, hq, hx⟩
theorem i_ite {c : Prop} [Decidable c] {p q : Prop} (h1 : c → p) (h2 : ¬c → q) : if c then p else q := by
  split
  · exact h1 ‹_›
  · exact h2 ‹_›
/-- a cut -/
theorem i_cut {a b : AS} (M : AEnv → Prop) (h1 : a { DA with nx := M } ρ) (h2 : ∀ ρ, M ρ → b DA ρ) (mono : (∀ ρ, M ρ → b DA ρ) → a { DA with nx := M } ρ → a { DA with nx := b DA } ρ) : asSeq a b DA ρ := mono h2 h1
end
section
variable {ρ : AEnv} {i : Nat}
theorem datV {d : D} : dat (.v d) ρ = some d := rfl
theorem datL {d : List D} : dat (.lst d) ρ = some (.lst d) := rfl
theorem datD {d : List (Key × D)} : dat (.dic d) ρ = some (.dic d) := rfl
theorem datO {C : Addr} {d : List (Str × A)} : dat (.obj C d) ρ = some (.obj C (A.toDs d)) := rfl
theorem datI {y : A} (h : ρ[i]? = some (some y)) : dat (.loc i) ρ = some y.toD := by
  unfold dat
  simp only [h]
theorem datIv {d : D} (h : ρ[i]? = some (some (.v d))) : dat (.loc i) ρ = some d := datI h
theorem datIl {d : List D} (h : ρ[i]? = some (some (.lst d))) : dat (.loc i) ρ = some (.lst d) := datI h
theorem datId {d : List (Key × D)} (h : ρ[i]? = some (some (.dic d))) : dat (.loc i) ρ = some (.dic d) := datI h
theorem datIo {C : Addr} {d : List (Str × A)} (h : ρ[i]? = some (some (.obj C d))) : dat (.loc i) ρ = some (.obj C (A.toDs d)) := datI h
end
section
theorem pl_int {n : Nat} {i : Int} : PlD (n + 1) (.int i) := by simp only [PlD]
theorem pl_str {n : Nat} {i : Str} : PlD (n + 1) (.str i) := by simp only [PlD]
theorem pl_bl {n : Nat} {i : Bool} : PlD (n + 1) (.bl i) := by simp only [PlD]
theorem pl_non {n : Nat} : PlD (n + 1) .non := by simp only [PlD]
theorem lenA_l {xs : List D} : lenA (.lst xs) ≤ 100000 := Nat.zero_le _
theorem i_itet {p q : Prop} (k : p) : if true = true then p else q := by rw [if_pos rfl]; exact k
theorem i_itef {p q : Prop} (k : q) : if false = true then p else q := by rw [if_neg Bool.false_ne_true]; exact k
theorem deq_int {i j : Int} : deq (.int i) (.int j) = decide (i = j) := by
  simp only [deq]
  rw [Bool.eq_iff_iff]
  simp
theorem deq_str {i j : Str} : deq (.str i) (.str j) = decide (i = j) := by
  simp only [deq]
  rw [Bool.eq_iff_iff]
  simp
end
end Vs

set_option Elab.async false
set_option linter.all false
set_option maxRecDepth 100000
set_option maxHeartbeats 1000000
/-! Vs: fields, isinstance, raise, try. -/
namespace Vs
open PySem PySem.Spec PyProof.Rows L2
/-! ### fields -/
def lkA (x : A) (ρ : AEnv) : Option A := match x with
  | .loc i => (match ρ[i]? with
    | some (some y) => some y
    | _ => none)
  | y => some y
def fldA (y : A) (C : Addr) (f : Str) : Option D := match y with
  | .v (.obj C' fs) => if C' = C then fs.lookup f else none
  | .obj C' fs => if C' = C then (match fs.lookup f with
    | some (.v d) => some d
    | _ => none) else none
  | _ => none
section
variable {X : Cx} {P : Pm} {K : Fg} {c : Ctx} {S H : Hp} {σ : L2.St} {ρ : AEnv} {τ : List (V × A)} {v : V} {x : A} {pos : Pos}
theorem Stt.held2 {y : A} (s : Stt K c S H σ ρ τ) (m : (v, x) ∈ τ) (h : lkA x ρ = some y) : ∃ g, RepA K S H y v g := by
  cases hx : isLoc x with
  | false =>
    have e : y = x := by
      cases x <;> first | (simp only [lkA] at h; exact (Option.some.inj h).symm) | cases hx
    subst e
    obtain ⟨fp, h1, _, _⟩ := s.own
    obtain ⟨g, a1, _⟩ := RepP.pick h1 (v := v) (x := y) (List.mem_append_right _ (by
      have : ∀ {τ : List (V × A)}, (v, y) ∈ τ → (v, y) ∈ tmpP τ := fun {τ} m => List.mem_filter.mpr ⟨m, by
        cases y <;> first | rfl | cases hx⟩
      exact this m))
    exact ⟨g, a1⟩
  | true =>
    cases x with
    | loc i =>
      obtain ⟨hv, z, hz⟩ := s.loc v i m
      simp only [lkA, hz] at h
      have e := Option.some.inj h
      subst e
      exact s.slotA hz hv
    | _ => cases hx
theorem fld_rep {y : A} {C : Addr} {f : Str} {d : D} {g : List Addr} (hl : Le S H) (r : RepA K S H y v g) (h : fldA y C f = some d) : ∃ a dx ws u, v = .ref a ∧ H a = some (.ins C dx ws) ∧ ws.lookup f = some u ∧ Rep K S d u := by
  cases y with
  | v e =>
    cases e with
    | obj C' fs =>
      simp only [fldA] at h
      split at h
      · rename_i hc
        subst hc
        simp only [RepA, Rep] at r
        obtain ⟨⟨a, dx, ws, rfl, h1, h2⟩, _⟩ := r
        rcases repF_look (m := f) h2 with ⟨e1, _⟩ | ⟨d', u, e1, e2, e3⟩
        · rw [e1] at h; cases h
        · rw [h] at e1; cases e1
          exact ⟨a, dx, ws, u, rfl, ins_le hl h1, e2, e3⟩
      · cases h
    | _ => cases h
  | obj C' fs =>
    simp only [fldA] at h
    split at h
    · rename_i hc
      subst hc
      simp only [RepA] at r
      obtain ⟨a, dx, ws, g', rfl, h1, h2, _⟩ := r
      have look : ∀ {fs : List (Str × A)} {ws : List (Str × V)} {g : List Addr}, RepAF K S H fs ws g → fs.lookup f = some (.v d) → ∃ u, ws.lookup f = some u ∧ Rep K S d u := by
        intro fs
        induction fs with
        | nil => intro ws g _ e; simp at e
        | cons p r ih =>
          obtain ⟨k, x⟩ := p
          intro ws g h e
          simp only [RepAF] at h
          obtain ⟨u, r', g1, g2, rfl, h1, h2, _⟩ := h
          by_cases hk : f = k
          · subst hk
            have e' : x = .v d := by simpa [List.lookup] using e
            subst e'
            simp only [RepA] at h1
            exact ⟨u, by simp [List.lookup], h1.1⟩
          · have q : (f == k) = false := by simpa using hk
            obtain ⟨u', a1, a2⟩ := ih h2 (by simpa [List.lookup, q] using e)
            exact ⟨u', by simpa [List.lookup, q] using a1, a2⟩
      cases e : fs.lookup f with
      | none => rw [e] at h; cases h
      | some z =>
        rw [e] at h
        cases z with
        | v d' =>
          have e2 : d' = d := by simpa using h
          subst e2
          obtain ⟨u, a1, a2⟩ := look h2 e
          exact ⟨a, dx, ws, u, rfl, h1, a1, a2⟩
        | _ => cases h
    · cases h
  | _ => cases h
def aFld (C : Addr) (f : Str) : AR1 := fun x ρ Q => ∃ y d, lkA x ρ = some y ∧ fldA y C f = some d ∧ Q (.v d) ρ
theorem qe_fld {e : Expr} {C : Addr} {f : Str} {ae : AE} (hc : Cls X.K C) (hn : NoAttr X.K C f) (he : QE X P e ae) (hb : attributeBase e f X.env (eval e X.env) = eval e X.env := by rfl) : QE X P (.Attribute e f pos) (aUn (aFld C f) ae) := by
  obtain ⟨t, p, s⟩ := he.ex
  refine ⟨_, pe_fld p hb, fun c EA ho hw τ S H σ ρ Q R st q k => s c EA ho hw τ S H σ ρ _ _ st q fun v H1 ⟨S1, ρ1, x, s1, y, d, h1, h2, q1⟩ => ?_⟩
  obtain ⟨g, r⟩ := s1.held2 (List.mem_cons_self ..) h1
  obtain ⟨a, dx, ws, u, rfl, e1, e2, e3⟩ := fld_rep s1.le r h2
  exact ⟨a, C, dx, ws, u, rfl, e1, hc, hn, e2, k _ _ ⟨S1, ρ1, .v d, s1.drop.hold e3, q1⟩⟩
/-- self.f = e, self an owned instance in a slot -/
def putFA (f : Str) (d : D) : List (Str × A) → List (Str × A)
  | [] => [(f, .v d)]
  | (g, x) :: r => if g = f then (g, .v d) :: r else (g, x) :: putFA f d r
def asFld (C : Addr) (f : Str) (av ao : AE) : AS := fun DA ρ => av DA.ex ρ fun x ρ1 => useA x ρ1 fun d ρ2 => ao DA.ex ρ2 fun o ρ3 => ∃ j fs, o = .loc j ∧ ρ3[j]? = some (some (.obj C fs)) ∧ (∀ p ∈ fs, ∃ d, p.2 = .v d) ∧ fs.length ≤ 100 ∧ DA.nx (ρ3.set j (some (.obj C (putFA f d fs))))
theorem repAF_v : ∀ {fs : List (Str × A)} {ws : List (Str × V)} {g : List Addr}, (∀ p ∈ fs, ∃ d, p.2 = A.v d) → RepAF K S H fs ws g → g = [] ∧ ws.length = fs.length
  | [], ws, g, _, h => by
    simp only [RepAF] at h
    exact ⟨h.2, by rw [h.1]; rfl⟩
  | (k, x) :: r, ws, g, hv, h => by
    simp only [RepAF] at h
    obtain ⟨u, r', g1, g2, rfl, h1, h2, rfl⟩ := h
    obtain ⟨d, e⟩ := hv (k, x) (by simp)
    have e' : x = .v d := e
    subst e'
    simp only [RepA] at h1
    obtain ⟨e1, e2⟩ := repAF_v (fun p hp => hv p (by simp [hp])) h2
    exact ⟨by rw [h1.2, e1]; rfl, by simp [e2]⟩
theorem repAF_put {H' : Hp} {f : Str} {d : D} {u : V} (hd : Rep K S d u) : ∀ {fs : List (Str × A)} {ws : List (Str × V)} {g : List Addr}, (∀ p ∈ fs, ∃ d, p.2 = A.v d) → RepAF K S H fs ws g → RepAF K S H' (putFA f d fs) (putF f u ws) []
  | [], ws, g, _, h => by
    simp only [RepAF] at h
    obtain ⟨rfl, _⟩ := h
    simp only [putFA, putF, RepAF]
    exact ⟨u, [], [], [], rfl, RepA.ofv hd, ⟨rfl, rfl⟩, rfl⟩
  | (k, x) :: r, ws, g, hv, h => by
    simp only [RepAF] at h
    obtain ⟨w, r', g1, g2, rfl, h1, h2, rfl⟩ := h
    obtain ⟨d', e⟩ := hv (k, x) (by simp)
    have e' : x = .v d' := e
    subst e'
    simp only [RepA] at h1
    have same : ∀ {fs : List (Str × A)} {ws : List (Str × V)} {g : List Addr}, (∀ p ∈ fs, ∃ d, p.2 = A.v d) → RepAF K S H fs ws g → RepAF K S H' fs ws [] := by
      intro fs
      induction fs with
      | nil => intro ws g _ h; simp only [RepAF] at h ⊢; exact ⟨h.1, trivial⟩
      | cons p r ih =>
        obtain ⟨k2, x2⟩ := p
        intro ws g hv h
        simp only [RepAF] at h ⊢
        obtain ⟨u2, r2, g3, g4, rfl, a1, a2, rfl⟩ := h
        obtain ⟨d2, e2⟩ := hv (k2, x2) (by simp)
        have e3 : x2 = .v d2 := e2
        subst e3
        simp only [RepA] at a1
        exact ⟨u2, r2, [], [], rfl, RepA.ofv a1.1, ih (fun p hp => hv p (by simp [hp])) a2, rfl⟩
    simp only [putFA, putF]
    by_cases hk : k = f
    · rw [if_pos hk, if_pos hk]
      simp only [RepAF]
      exact ⟨u, r', [], [], rfl, RepA.ofv hd, same (fun p hp => hv p (by simp [hp])) h2, rfl⟩
    · rw [if_neg hk, if_neg hk]
      simp only [RepAF]
      exact ⟨w, _, [], [], rfl, RepA.ofv h1.1, repAF_put hd (fun p hp => hv p (by simp [hp])) h2, rfl⟩
theorem qs_fld {o e : Expr} {C : Addr} {f : Str} {av ao : AE} {pos' : Pos} (hc : Cls X.K C) (hn : NoAttr X.K C f) (hv : QE X P e av) (ho' : QE X P o ao) (hs : swapsWith e (some (.Attribute o f pos')) pos.line X.env = pure false := by rfl) :
    QS X P (.Assign [.Attribute o f pos'] e pos) (asFld C f av ao) := by
  obtain ⟨tv, pv, sv⟩ := hv.ex
  obtain ⟨to, po, so⟩ := ho'.ex
  refine ⟨_, ps_fld po pv hs, fun c D DA ho hw l S H σ ρ st q => sv c DA.ex ho hw [] S H σ ρ _ _ st q fun v H1 ⟨S1, ρ1, y, s1, q1⟩ => ?_⟩
  obtain ⟨S2, d, ρ2, sm, s2, q2⟩ := use_sim s1 q1
  refine so c DA.ex ho hw _ S2 H1 σ ρ2 _ _ s2 q2 fun vo H2 ⟨S3, ρ3, xo, s3, j, fs, eo, hj, hall, hlen, q3⟩ => ?_
  subst eo
  have hvo : σ[j]? = some (some vo) := (s3.loc vo j (by simp)).1
  obtain ⟨g, ra⟩ := s3.slotA hj hvo
  have rd : Rep X.K S3 d v := s3.dataMem (by simp)
  simp only [RepA] at ra
  obtain ⟨a, dx, ws, g', rfl, h1, h2, rfl⟩ := ra
  obtain ⟨rfl, hl⟩ := repAF_v hall h2
  refine ⟨a, C, dx, ws, rfl, h1, hc, hn, by omega, ?_⟩
  have s5 := s3.write (o := .ins C dx (putF f v ws)) (y' := .obj C (putFA f d fs)) hj hvo (fun g' h => by
    simp only [RepA] at h
    obtain ⟨a', dx', ws', g2, e, h3, h4, e2⟩ := h
    cases e
    obtain ⟨rfl, _⟩ := repAF_v hall h4
    exact e2) rfl (by
      simp only [RepA]
      exact ⟨a, dx, _, [], rfl, upd_same, repAF_put rd hall h2, by first | rfl | trivial⟩)
  exact l.nx S3 _ σ _ s5.drop.drop q3
/-! ### isinstance -/
/-- what isinstance asks of an own class -/
structure ClsI (K : Fg) (C : Addr) : Prop where
  cl : Cls K C
  ha : PySem.W.findIn K (.ref C) "__class__" = some (some (.builtin "object.__class__"))
  hn : PySem.W.specialIn K (.builtin "object.__class__") "__get__" = some (some (.builtin "getset_descriptor.__get__"))
  htk : PySem.W.takesIn K (.builtin "object.__class__") = some true
  hm : PySem.W.mroIn K C (.type "object") = some true
def tyD : D → Option Value
  | .non => some (.type "NoneType")
  | .bl _ => some (.type "bool")
  | .int _ => some (.type "int")
  | .str _ => some (.type "str")
  | .ty _ => none
  | .lst _ => some (.type "list")
  | .tup _ => some (.type "tuple")
  | .dic _ => some (.type "dict")
  | .obj C _ => some (.ref C)
theorem ty_rep {d : D} {t : Value} (hC : ∀ C fs, d = .obj C fs → ClsI K C) (h : tyD d = some t) (r : Rep K H d v) : TyX K H v t := by
  cases d with
  | non => simp only [tyD] at h; cases h; simp only [Rep] at r; subst r; exact .base .non
  | bl b => simp only [tyD] at h; cases h; simp only [Rep] at r; subst r; exact .base (.bl b)
  | int b => simp only [tyD] at h; cases h; simp only [Rep] at r; subst r; exact .base (.int b)
  | str b => simp only [tyD] at h; cases h; simp only [Rep] at r; subst r; exact .base (.str b)
  | ty n => cases h
  | lst xs =>
    simp only [tyD] at h; cases h
    simp only [Rep] at r
    obtain ⟨a, vs, rfl, h1, _⟩ := r
    rcases h1 with h1 | ⟨o, its, n, hk, hc, _⟩
    · rcases h1 with h1 | ⟨o, h1⟩
      · exact .base (.lst h1)
      · exact .base (.frz h1)
    · exact .kList hk hc
  | tup xs =>
    simp only [tyD] at h; cases h
    simp only [Rep] at r
    obtain ⟨a, vs, rfl, h1, _⟩ := r
    rcases h1 with h1 | ⟨o, its, n, hk, hc, _⟩
    · rcases h1 with h1 | ⟨o, h1⟩
      · exact .base (.tup h1)
      · exact .fTuple h1
    · exact .kTuple hk hc
  | dic xs =>
    simp only [tyD] at h; cases h
    simp only [Rep] at r
    obtain ⟨a, vs, rfl, h1, _⟩ := r
    rcases h1 with h1 | ⟨o, h1⟩
    · exact .base (.dK h1)
    · exact .fDict h1
  | obj C fs =>
    simp only [tyD] at h; cases h
    simp only [Rep] at r
    obtain ⟨a, dx, vs, rfl, h1, _⟩ := r
    have c := hC C fs rfl
    exact .base (.ins h1 c.cl c.ha c.hn c.htk c.hm)
/-- isinstance(x, c): what the tables say -/
def isiR (K : Fg) (d : D) (us : List Value) (b : Bool) : Prop := ∃ t, tyD d = some t ∧ (∀ C fs, d = .obj C fs → ClsI K C) ∧ PySem.W.kitAny K t us = some b
def aIsi (K : Fg) (us : List Value) : AR1 := fun x ρ Q => ∃ d b, dat x ρ = some d ∧ isiR K d us b ∧ Q (.v (.bl b)) ρ
theorem kitAny_one {K : Fg} {t u : Value} {b : Bool} (h : PySem.W.kitAny K t [u] = some b) : PySem.W.kitOne K t u = some b := by
  unfold PySem.W.kitAny at h
  cases e : PySem.W.kitOne K t u with
  | none => rw [e] at h; cases h
  | some r =>
    rw [e] at h
    cases r with
    | true => exact h
    | false =>
      have h' : PySem.W.kitAny K t [] = some b := h
      exact h'
/-- a class by its name -/
structure QC (X : Cx) (e : Expr) (u : Value) : Prop where
  ex : ∃ v, PE X e (tC v) ∧ ClsV v u
theorem qc_ty {x : Str} {n : String} (hg : Gl X x) (hm : X.mg x = none) (hv : bootBuiltins x = some (.type n)) (hd : (x == ("__debug__" : Str)) = false := by decide) (hn : x ≠ "__name__" := by decide) : QC X (.Name x pos) (.type n) := ⟨.ty n, pe_bltn hg hm hv rfl hn hd, .ty n⟩
theorem qc_own {x : Str} {C : Addr} (hg : Gl X x) (hm : X.mg x = some (.ref C)) (hd : (x == ("__debug__" : Str)) = false := by decide) : QC X (.Name x pos) (.ref C) := ⟨.ref C, pe_glob hg hm rfl hd, .own C⟩
theorem qe_isi {e c : Expr} {u : Value} {ae : AE} {p : Pos} (hg : Gl X "isinstance") (hm : X.mg "isinstance" = none) (he : QE X P e ae) (hc : QC X c u) (hs : starEach [e, c] X.env = (false, eval e X.env) :: starEach [c] X.env := by rfl) (hs2 : starEach [c] X.env = (false, eval c X.env) :: starEach [] X.env := by rfl)
    (hpl : (backTo pos (starEach [c] X.env)).any (·.1) = false := by rfl) : QE X P (.Call (.Name "isinstance" p) [e, c] [] pos) (aUn (aIsi X.K [u]) ae) := by
  obtain ⟨t, pe, s⟩ := he.ex
  obtain ⟨v, pc, k⟩ := hc.ex
  refine ⟨_, pe_callB call_isi hg hm PyProof.Rows.boot_isinstance (pa_cons pe (pa_cons pc pa_nil hs2) hs) (by decide) (by decide) hs hpl, fun c EA ho hw τ S H σ ρ Q R st q kk => s c EA ho hw τ S H σ ρ _ _ st q fun vx H1 ⟨S1, ρ1, x, s1, d, b, h1, ⟨ty, h2, h3, h4⟩, q1⟩ => ?_⟩
  exact ⟨vx, v, ty, u, b, rfl, k, ty_rep h3 h2 (s1.dat (List.mem_cons_self ..) h1), kitAny_one h4, kk _ _ (KE.sc s1.drop rfl q1)⟩
theorem qe_isi2 {e c c2 : Expr} {u u2 : Value} {ae : AE} {p tp : Pos} {j : Nat} (hg : Gl X "isinstance") (hm : X.mg "isinstance" = none) (he : QE X P e ae) (hc : QC X c u) (hc2 : QC X c2 u2) (hs : starEach [e, .Tuple [c, c2] j tp] X.env = (false, eval e X.env) :: starEach [.Tuple [c, c2] j tp] X.env := by rfl) (hs2 : starEach [.Tuple [c, c2] j tp] X.env = (false, eval (.Tuple [c, c2] j tp) X.env) :: starEach [] X.env := by rfl)
    (hs3 : starEach [c, c2] X.env = (false, eval c X.env) :: starEach [c2] X.env := by rfl) (hs4 : starEach [c2] X.env = (false, eval c2 X.env) :: starEach [] X.env := by rfl)
    (hpl : (backTo pos (starEach [.Tuple [c, c2] j tp] X.env)).any (·.1) = false := by rfl) : QE X P (.Call (.Name "isinstance" p) [e, .Tuple [c, c2] j tp] [] pos) (aUn (aIsi X.K [u, u2]) ae) := by
  obtain ⟨t, pe, s⟩ := he.ex
  obtain ⟨v, pc, k⟩ := hc.ex
  obtain ⟨v2, pc2, k2⟩ := hc2.ex
  refine ⟨_, pe_callB call_isiT hg hm PyProof.Rows.boot_isinstance (pa_cons pe (pa_cons (pe_tup (pa_cons pc (pa_cons pc2 pa_nil hs4) hs3)) pa_nil hs2) hs) (by decide) (by decide) hs hpl, fun c EA ho hw τ S H σ ρ Q R st q kk => s c EA ho hw τ S H σ ρ _ _ st q fun vx H1 ⟨S1, ρ1, x, s1, d, b, h1, ⟨ty, h2, h3, h4⟩, q1⟩ => ?_⟩
  refine ⟨show 2 ≤ sizeLine by decide, fun tp hp => ?_⟩
  have s2 : Stt X.K c S1 (upd H1 tp (.tup [v, v2])) σ ρ1 ((vx, x) :: τ) := s1.beside hp
  exact ⟨vx, tp, [v, v2], ty, [u, u2], b, rfl, upd_same, .cons k (.cons k2 .nil), ty_rep h3 h2 (s2.dat (List.mem_cons_self ..) h1), h4, kk _ _ (KE.sc s2.drop rfl q1)⟩
/-! ### raise -/
/-- an own exception's __init__: self.f = x -/
def spOex (C : Addr) (f : Str) : Sp := fun vs H Q _ => ∃ a y, vs = [.ref a, y] ∧ H a = some (exo a C none) ∧ ∀ dx, H dx = none → dx ≠ a → Q .non (upd (upd H dx (exd dx [(f, y)])) a (exo a C (some dx)))
def asRaise (C : Addr) (f : Str) (ae : AE) : AS := fun DA ρ => ae DA.ex ρ fun x ρ1 => useA x ρ1 fun d ρ2 => DA.ex C [(f, d)] ρ2
/-- what a raise leans on -/
structure Rai (Pr : Program) (w : World) (K : Fg) (mg : Str → Option Value) (base : Heap) (x : Str) (C : Addr) (f : Str) (k : Nat) : Prop where
  ox : OexC K C
  gx : mg x = some (.ref C)
  ex : ∃ fI fd ps, PySem.W.findIn K (.ref C) "__init__" = some (some (.ref fI)) ∧ PySem.W.typeIn K (.ref fI) = some (.type "function") ∧ Binds K fd ps [] ∧ FnOk Pr w K mg base (L2.CX Pr w) k fI fd ps (spOex C f)
theorem pass_never {CX : CXT} {X : Cx} (h : ∀ st H s e s', ¬ CX st H s (fun _ _ _ => False) e s') : Passes CX X (fun _ _ _ => False) := fun pins σ H s e s' I c => (h _ _ _ _ _ c).elim
theorem upd_xd {H1 : Hp} {a dx C : Addr} {fs : List (Str × V)} (ha : H1 a = none) (hne : dx ≠ a) : upd (L2.del (upd (upd (upd H1 a (exo a C none)) dx (exd dx fs)) a (exo a C (some dx))) a) dx (.xd fs) = upd H1 dx (.xd fs) := by
  funext b
  by_cases h1 : b = dx
  · rw [h1, upd_same, upd_same]
  · rw [upd_ne h1, upd_ne h1]
    by_cases h2 : b = a
    · rw [h2, L2.del_same, ha]
    · rw [L2.del_ne h2, upd_ne h2, upd_ne h1, upd_ne h2]
theorem cx_false {Pr : Program} {w : World} : ∀ st H s e s', ¬ L2.CX Pr w st H s (fun _ _ _ => False) e s' := fun st H s e s' c => by
  unfold L2.CX at c
  first
    | exact c.elim
    | (obtain ⟨_, _, _, _, _, _, _, _, _, _, _, _, _, _, _, h⟩ := c; exact h)
    | (obtain ⟨_, _, _, _, _, _, _, _, _, _, _, _, _, _, h⟩ := c; exact h)
    | (obtain ⟨_, _, _, _, _, _, _, _, _, _, _, _, _, h⟩ := c; exact h)
    | (obtain ⟨_, _, _, _, _, _, _, _, _, _, _, _, h⟩ := c; exact h)
theorem qs_raise {x : Str} {C : Addr} {f : Str} {k : Nat} {e : Expr} {ae : AE} {p cpos : Pos} (R : Rai X.prog X.w X.K X.mg X.base x C f k) (hc : X.calm = true) (tk : Takes X P.W) (hr : Room (k + 1) X.A) (hg : Gl X x) (he : QE X P e ae) (hdb : (x == ("__debug__" : Str)) = false := by decide) (hs : starEach [e] X.env = (false, eval e X.env) :: starEach [] X.env := by rfl) (hpl : (backTo cpos (starEach [] X.env)).any (·.1) = false := by rfl) :
    QS X P (.Raise (some (.Call (.Name x p) [e] [] cpos)) none pos) (asRaise C f ae) := by
  obtain ⟨t, pe, s⟩ := he.ex
  obtain ⟨fI, fd, ps, h1, h2, h3, h4⟩ := R.ex
  refine ⟨_, ps_raise hc tk (pmk_oex R.ox h1 h2 h4 hr h3 .nil (pass_never cx_false) hg R.gx (pa_cons pe pa_nil hs) hdb hs hpl), fun c D DA ho hw l S H σ ρ st q => s c DA.ex ho hw [] S H σ ρ _ _ st q fun v H1 ⟨S1, ρ1, y, s1, q1⟩ => ?_⟩
  obtain ⟨S2, d, ρ2, sm, s2, q2⟩ := use_sim s1 q1
  have rd := s2.data
  refine ⟨by show 1 ≤ 1000; decide, fun a ha => ⟨a, v, rfl, upd_same, fun dx hdx hne => ⟨rfl, dx, [(f, v)], upd_same, by rw [upd_ne hne, upd_same], ?_, ?_⟩⟩⟩
  · rw [upd_ne hne] at hdx; exact hdx
  · rw [upd_xd ha hne]
    have hdx' : H1 dx = none := by rw [upd_ne hne] at hdx; exact hdx
    have s3 : Stt X.K c S2 (upd H1 dx (.xd [(f, v)])) σ ρ2 [] := s2.drop.beside hdx'
    refine hw S2 _ σ ρ2 C [(f, d)] (some dx) s3 (.inr ⟨dx, [(f, v)], rfl, upd_same, ?_⟩) q2
    simp only [RepF]
    exact ⟨v, [], rfl, rd, rfl⟩
end
end Vs

set_option Elab.async false
set_option linter.all false
set_option maxRecDepth 100000
set_option maxHeartbeats 1000000
/-! Vs: own exceptions: __init__, try .. except .. as. -/
namespace Vs
open PySem PySem.Spec PyProof.Rows L2
section
variable {Pr : Program} {w : World} {K : Fg} {mg : Str → Option Value} {base : Heap} {x qual : Str} {params : Arguments} {body : List Stmt} {scope : Scope} {f : Addr} {fd : FuncData}
theorem oex_fn {a b : Str} {C : Addr} {g : Str} (F : FunD K x qual params body scope [] [] f fd) (S : FnScope [a, b] [a, b] scope) (ox : OexC K C) (no : PySem.W.findIn K (.ref C) g = some none)
    (hb : ∀ (cdv : Value) (Ar : Around) (outer : List Env) (s : Shared) (H : Hp) (E : XK), PSs (cxOf (L2.CX Pr w) Pr w K mg base [a, b] qual scope f cdv Ar outer s H E) body (tOst K g (tVar 0) (tVar 1))) : FnOk Pr w K mg base (L2.CX Pr w) 1 f fd [a, b] (spOex C g) := by
  refine F.ok (k := 0) S (fun vs H Q E h => ?_) (fun cdv Ar outer s H vs Q E hr h => ⟨_, hb cdv Ar outer s H E, ?_⟩)
  · obtain ⟨a, y, rfl, _⟩ := h
    rfl
  · obtain ⟨a', y, rfl, ha, hq⟩ := h
    exact ⟨y, rfl, .ref a', rfl, a', C, rfl, ox, no, .inl ⟨ha, fun dx h1 h2 => hq dx h1 h2⟩⟩
end
section
variable {X : Cx} {P : Pm} {K : Fg} {pos : Pos}
/-! ### a canonical meaning -/
def canS (K : Fg) (P : Pm) (ab : AS) : TS := fun D σ H => ∃ c DA S ρ, OsIn c P.O ∧ XOk K c P.W DA.ex ∧ Link K c D DA ∧ Stt K c S H σ ρ [] ∧ ab DA ρ
theorem PSs.imp {st : List Stmt} {t t' : TS} (h : PSs X st t) (hi : ∀ D σ H, t' D σ H → t D σ H) : PSs X st t' := ⟨fun pins s σ H D I h' => h.run pins s σ H D I (hi D σ H h')⟩
theorem can_of {st : List Stmt} {ab : AS} (h : QSs X P st ab) : PSs X st (canS X.K P ab) := by
  obtain ⟨t, p, s⟩ := h.ex
  exact PSs.imp p fun D σ H ⟨c, DA, S, ρ, h1, h2, h3, h4, h5⟩ => s c D DA h1 h2 h3 S H σ ρ h4 h5
/-! ### expressions of an except suite: i the name's slot, a the exception, dd its dict -/
def SimU (K : Fg) (i : Nat) (a dd : Addr) (te : TE) (u : List (Str × D) → Option D) : Prop := ∀ c τ S H σ ρ ws fs d (R : VK), Stt K c S H σ ρ τ → σ[i]? = some (some (.ref a)) → H dd = some (.xd ws) → RepF K S fs ws → u fs = some d →
  (∀ v H' S', Same S S' → Stt K c S' H' σ ρ ((v, .v d) :: τ) → H' dd = some (.xd ws) → R v H') → te σ H R
def SimUs (K : Fg) (i : Nat) (a dd : Addr) (ta : TA) (u : List (Str × D) → Option (List D)) : Prop := ∀ c τ S H σ ρ ws fs ds (R : List V → Hp → Prop), Stt K c S H σ ρ τ → σ[i]? = some (some (.ref a)) → H dd = some (.xd ws) → RepF K S fs ws → u fs = some ds →
  (∀ vs H' S', Same S S' → RepL K S' ds vs → Stt K c S' H' σ ρ τ → H' dd = some (.xd ws) → R vs H') → ta σ H R
structure QU (X : Cx) (i : Nat) (a dd : Addr) (e : Expr) (u : List (Str × D) → Option D) : Prop where
  ex : ∃ te, PE X e te ∧ SimU X.K i a dd te u
structure QUs (X : Cx) (i : Nat) (a dd : Addr) (e : List Expr) (u : List (Str × D) → Option (List D)) : Prop where
  ex : ∃ te, PA X e te ∧ SimUs X.K i a dd te u
variable {i : Nat} {a dd C : Addr} {e : Expr} {es : List Expr}
theorem simU_c {d : D} {v : V} (h : sc d = some v) : SimU K i a dd (tC v) (fun _ => some d) := fun c τ S H σ ρ ws fs d' R s h1 h2 h3 h4 k => by
  cases h4
  exact k _ _ S (Same.refl S) (s.hold (rep_sc h)) h2
theorem qu_str {x : Str} {j} : QU X i a dd (.Constant (.str x) j pos) (fun _ => some (.str x)) := ⟨_, pe_str, simU_c rfl⟩
theorem qu_int {x : Int} {j} : QU X i a dd (.Constant (.int x) j pos) (fun _ => some (.int x)) := ⟨_, pe_int, simU_c rfl⟩
theorem qu_bl {x : Bool} {j} : QU X i a dd (.Constant (.bool x) j pos) (fun _ => some (.bl x)) := ⟨_, pe_bl, simU_c rfl⟩
theorem qu_non {j} : QU X i a dd (.Constant .none j pos) (fun _ => some .non) := ⟨_, pe_non, simU_c rfl⟩
theorem qu_fld {f n : Str} {oe : Obj} {pn : List (Addr × Obj)} {np : Pos} (T : XfC X.K C) (hno : PySem.W.findIn X.K (.ref C) f = some none) (hz : Zc (.ref C) (some dd) oe) (hf : ∃ vs, oe.data = .fields vs) (hN : X.N[i]? = some n := by rfl) (hv : Vis X.env.scope n := by first | exact Or.inl rfl | exact Or.inr (Or.inl rfl) | exact Or.inr (Or.inr rfl)) (hd : (n == ("__debug__" : Str)) = false := by decide) (hcd : (n == ("__classdict__" : Str)) = false := by decide)
    (hb : attributeBase (.Name n np) f X.env (eval (.Name n np) X.env) = eval (.Name n np) X.env := by rfl) : QU (X.suite a ((a, oe) :: pn)) i a dd (.Attribute (.Name n np) f pos) (fun fs => fs.lookup f) := by
  refine ⟨_, pe_xf T hno hz hf (pe_var hN hv hd hcd) hb, fun c τ S H σ ρ ws fs d R s h1 h2 h3 h4 k => ⟨.ref a, h1, rfl, rfl, ?_⟩⟩
  rcases repF_look (m := f) h3 with ⟨e1, _⟩ | ⟨d', u, e1, e2, e3⟩
  · have h4' : fs.lookup f = some d := h4
    rw [e1] at h4'; cases h4'
  · have h4' : fs.lookup f = some d := h4
    rw [h4'] at e1
    cases e1
    exact ⟨dd, ws, u, rfl, h2, e2, k _ _ S (Same.refl S) (s.hold e3) h2⟩
theorem qus_nil : QUs X i a dd [] (fun _ => some []) := ⟨_, pa_nil, fun c τ S H σ ρ ws fs ds R s h1 h2 h3 h4 k => by
  cases h4
  exact k _ _ S (Same.refl S) (by simp only [RepL]) s h2⟩
def consU (u : List (Str × D) → Option D) (us : List (Str × D) → Option (List D)) (fs : List (Str × D)) : Option (List D) := match u fs, us fs with
  | some d, some ds => some (d :: ds)
  | _, _ => none
theorem qus_cons {u : List (Str × D) → Option D} {us : List (Str × D) → Option (List D)} (h1 : QU X i a dd e u) (h2 : QUs X i a dd es us) (hs : starEach (e :: es) X.env = (false, eval e X.env) :: starEach es X.env := by rfl) : QUs X i a dd (e :: es) (consU u us) := by
  obtain ⟨t, p, s⟩ := h1.ex
  obtain ⟨t2, p2, s2⟩ := h2.ex
  refine ⟨_, pa_cons p p2 hs, fun c τ S H σ ρ ws fs ds R st a1 a2 a3 a4 k => ?_⟩
  unfold consU at a4
  cases e1 : u fs with
  | none => rw [e1] at a4; cases a4
  | some d =>
    cases e2 : us fs with
    | none => rw [e1, e2] at a4; cases a4
    | some ds' =>
      rw [e1, e2] at a4
      cases a4
      refine s c τ S H σ ρ ws fs d _ st a1 a2 a3 e1 fun v H' S' sm st' h' => s2 c _ S' H' σ ρ ws fs ds' _ st' a1 h' (RepF.le (Le.of_same sm) _ _ a3) e2 fun vs H2 S2 sm2 rl st2 h2 => k _ _ S2 (sm.trans sm2) ?_ st2.drop h2
      simp only [RepL]
      exact ⟨v, vs, rfl, st2.data, rl⟩
def tupU (us : List (Str × D) → Option (List D)) (fs : List (Str × D)) : Option D := match us fs with
  | some ds => if ds.length ≤ 1000 then some (.tup ds) else none
  | none => none
theorem qu_tup {us : List (Str × D) → Option (List D)} {x1} (h : QUs X i a dd es us) : QU X i a dd (.Tuple es x1 pos) (tupU us) := by
  obtain ⟨t, p, s⟩ := h.ex
  refine ⟨_, pe_tup p, fun c τ S H σ ρ ws fs d R st a1 a2 a3 a4 k => ?_⟩
  unfold tupU at a4
  cases e1 : us fs with
  | none => rw [e1] at a4; cases a4
  | some ds =>
    rw [e1] at a4
    simp only at a4
    split at a4
    · rename_i hz
      cases a4
      refine s c τ S H σ ρ ws fs ds _ st a1 a2 a3 e1 fun vs H' S' sm rl st' h' => ⟨by rw [rl.len]; exact sz1000 hz, fun p hp => ?_⟩
      have f1 := (st'.fresh hp).1
      have ne : dd ≠ p := fun z => by rw [z, hp] at h'; cases h'
      refine k _ _ _ (sm.trans (Same.up f1)) (st'.share (o := .tup vs) hp ?_) (by rw [upd_ne ne]; exact h')
      simp only [Rep]
      exact ⟨p, vs, rfl, SqT.of upd_same, RepL.le (Le.of_same (Same.up f1)) ds vs rl⟩
    · cases a4
/-! ### try: body, except C as n: return e -/
def asTry (K : Fg) (C : Addr) (i : Nat) (ab : AS) (u : List (Str × D) → Option D) : AS := fun DA ρ => ab { DA with ex := fun C' fs ρ' => ∃ b, PySem.W.exmOne K (.ref C') (.ref C) = some b ∧ (b = true → C' = C ∧ fs ≠ [] ∧ i < ρ'.length ∧ ∃ d, u fs = some d ∧ DA.rt (.v d) (ρ'.set i none)) ∧ (b = false → DA.ex C' fs ρ') } ρ
theorem qs_try {x n : Str} {body : List Stmt} {ab : AS} {u : List (Str × D) → Option D} {np pos' rp : Pos} (hs : X.stack = X.env :: X.outer) (hf : X.env.frame = some X.env.locals) (hN : X.N.Nodup) (hi : X.N[i]? = some n) (hln : X.env.kindOf n = some .local) (hO : i ∉ P.O) (hg : Gl X x) (hm : X.mg x = some (.ref C)) (tk : Takes X P.W)
    (hb : ∀ (W : WX) (pn : List (Addr × Obj)) (xe : Value → Shared → Prop), Takes (X.tr pn xe) W → PassesOwn (model X.prog X.w) X.A X.env xe → QSs (X.tr pn xe) ⟨W, P.O⟩ body ab)
    (hsu : ∀ (a : Addr) (oe : Obj) (dd : Addr) (pn : List (Addr × Obj)), Zc (.ref C) (some dd) oe → (∃ vs, oe.data = .fields vs) → QU (X.suite a ((a, oe) :: pn)) i a dd e u) (hdb : (x == ("__debug__" : Str)) = false := by decide) :
    QS X P (.Try body [.ExceptHandler (some (.Name x np)) (some n) [.Return (some e) rp] pos'] [] [] pos) (asTry X.K C i ab u) := by
  refine ⟨_, ps_try_as (tb := fun W => canS X.K ⟨W, P.O⟩ ab) (ts := fun a cls d D σ H => ∃ c DA S ρ dd ws fs v, cls = .ref C ∧ d = some dd ∧ Link X.K c D DA ∧ Stt X.K c S H σ ρ [] ∧ σ[i]? = some (some (.ref a)) ∧ H dd = some (.xd ws) ∧ RepF X.K S fs ws ∧ u fs = some v ∧ DA.rt (.v v) ρ) hs hf hN hi hln ⟨hg, hdb, .inl hm⟩ tk (fun W pn xe h1 h2 => can_of (hb W pn xe h1 h2)) (fun a oe cls d pn hz hfs => ?_), fun c D DA ho hw l S H σ ρ st q => ?_⟩
  · refine ⟨fun pins s σ H D I h => ?_⟩
    obtain ⟨c, DA, S, ρ, dd, ws, fs, v, rfl, rfl, l, st, h1, h2, h3, h4, h5⟩ := h
    obtain ⟨te, pe, se⟩ := (hsu a oe dd pn hz hfs).ex
    exact (pss_one (ps_ret pe)).run pins s σ H D I (se c [] S H σ ρ ws fs v _ st h1 h2 h3 h4 fun v' H' S' sm st' _ => l.rt S' H' σ ρ v' (.v v) st' rfl h5)
  · refine ⟨c, { DA with ex := fun C' fs ρ' => ∃ b, PySem.W.exmOne X.K (.ref C') (.ref C) = some b ∧ (b = true → C' = C ∧ fs ≠ [] ∧ i < ρ'.length ∧ ∃ d, u fs = some d ∧ DA.rt (.v d) (ρ'.set i none)) ∧ (b = false → DA.ex C' fs ρ') }, S, ρ, ho, ?_, ⟨l.nx, l.rt, l.bk, l.ct⟩, st, q⟩
    rintro S' H' σ' ρ' C' fs dd st' xd ⟨b, hb1, hb2, hb3⟩
    refine ⟨b, hb1, fun e1 a ha => ?_, fun e1 => hw S' H' σ' ρ' C' fs dd st' xd (hb3 e1)⟩
    obtain ⟨rfl, hne, hil, d, hd, hq⟩ := hb2 e1
    rcases xd with ⟨rfl, rfl⟩ | ⟨d', ws, rfl, hw', rf⟩
    · exact absurd rfl hne
    · have st2 : Stt X.K c S' H' (σ'.set i (some (.ref a))) (ρ'.set i none) [] := by
        have z := st'.clear i (by simp)
        have ev : EnvOk (ρ'.set i none) (σ'.set i (some (.ref a))) := by
          have y := z.env.store (i := i) (o := none) (w := some (.ref a)) fun _ e => (nomatch e)
          rwa [set_set] at y
        refine ⟨?_, ev, fun _ _ m => by simp at m, z.le, z.r, z.new, z.up, fun p m => ?_⟩
        · have e2 := envP_none (ρ := ρ') (σ := σ') (i := i) (w := some (.ref a))
          rw [e2]
          exact z.own
        · rw [List.getElem?_set_ne (Ne.symm (ho.ne hO p m))]
          exact z.os p m
      have hlt : i < σ'.length := by rw [st'.env.len]; exact hil
      exact ⟨c, { DA with nx := fun _ => False, bk := fun _ => False, ct := fun _ => False }, S', _, d', ws, fs, d, rfl, rfl, ⟨fun _ _ _ _ _ z => z.elim, fun S2 H2 σ2 ρ2 v2 x2 a1 a2 a3 => l.rt S2 H2 σ2 ρ2 v2 x2 a1 a2 a3, fun _ _ _ _ _ z => z.elim, fun _ _ _ _ _ z => z.elim⟩, st2, by rw [List.getElem?_set_self hlt], hw', rf, hd, hq⟩
end
end Vs

set_option Elab.async false
set_option linter.all false
set_option maxRecDepth 100000
set_option maxHeartbeats 1000000
/-! Vs: comprehensions. -/
namespace Vs
open PySem PySem.Spec PyProof.Rows L2
/-! ### the block's own slots -/
theorem wipe_out' {σ : L2.St} {i : Nat} : ∀ {vs : List Nat}, i ∉ vs → (wipe σ vs)[i]? = σ[i]?
  | [], _ => rfl
  | v :: vs, h => by
    unfold wipe
    rw [List.getElem?_set_ne (fun z => h (by simp [z]))]
    exact wipe_out' fun z => h (by simp [z])
theorem wipe_in {σ : L2.St} {i : Nat} : ∀ {vs : List Nat}, i ∈ vs → i < σ.length → (wipe σ vs)[i]? = some none
  | [], h, _ => by simp at h
  | v :: vs, h, hl => by
    unfold wipe
    by_cases e : v = i
    · subst e
      rw [List.getElem?_set_self (by rw [wipe_length]; exact hl)]
    · rw [List.getElem?_set_ne e]
      exact wipe_in (by
        rcases List.mem_cons.mp h with z | z
        · exact absurd z.symm e
        · exact z) hl
theorem But.wipe {σ σ2 : L2.St} {vs : List Nat} (h : But vs σ σ2) : wipe σ2 vs = wipe σ vs := by
  apply List.ext_getElem?
  intro i
  by_cases hi : i ∈ vs
  · by_cases hl : i < σ.length
    · rw [wipe_in hi hl, wipe_in hi (by rw [h.1]; exact hl)]
    · rw [List.getElem?_eq_none (by rw [wipe_length, h.1]; omega), List.getElem?_eq_none (by rw [wipe_length]; omega)]
  · rw [wipe_out' hi, wipe_out' hi, h.2 i hi]
theorem wipe_but {σ : L2.St} {vs : List Nat} : But vs σ (wipe σ vs) := ⟨wipe_length σ vs, fun i hi => wipe_out' hi⟩
theorem But.symm {ws : List Nat} {σ σ2 : L2.St} (h : But ws σ σ2) : But ws σ2 σ := ⟨h.1.symm, fun i hi => (h.2 i hi).symm⟩
theorem But.mono {ws vs : List Nat} {σ σ2 : L2.St} (h : But ws σ σ2) (hs : ∀ i ∈ ws, i ∈ vs) : But vs σ σ2 := ⟨h.1, fun i hi => h.2 i fun z => hi (hs i z)⟩
/-- some slots hold nothing -/
def NoneAt (vs : List Nat) (ρ : AEnv) : Prop := ∀ v ∈ vs, ρ[v]? = some none
theorem clear_none : ∀ {vs : List Nat} {ρ : AEnv}, (∀ v ∈ vs, v < ρ.length) → NoneAt vs (clearA vs ρ)
  | [], ρ, _, v, hv => by simp at hv
  | w :: vs, ρ, hl, v, hv => by
    have len : ∀ (vs : List Nat) (ρ : AEnv), (clearA vs ρ).length = ρ.length := by
      intro vs ρ
      induction vs with
      | nil => rfl
      | cons x xs ih => unfold clearA; rw [List.length_set, ih]
    unfold clearA
    by_cases e : w = v
    · subst e
      rw [List.getElem?_set_self (by rw [len]; exact hl w (by simp))]
    · rw [List.getElem?_set_ne e]
      exact clear_none (fun v hv => hl v (by simp [hv])) v (by
        rcases List.mem_cons.mp hv with z | z
        · exact absurd z.symm e
        · exact z)
theorem clear_len : ∀ (vs : List Nat) (ρ : AEnv), (clearA vs ρ).length = ρ.length
  | [], ρ => rfl
  | v :: vs, ρ => by unfold clearA; rw [List.length_set, clear_len vs ρ]
section
variable {K : Fg} {c : Ctx} {S H : Hp} {σ σ2 : L2.St} {ρ : AEnv} {τ : List (V × A)} {vs : List Nat}
theorem envP_but : ∀ {ρ : AEnv} {σ σ2 : L2.St}, σ2.length = σ.length → (∀ (i : Nat) (y : A), ρ[i]? = some (some y) → σ2[i]? = σ[i]?) → envP ρ σ2 = envP ρ σ
  | [], σ, σ2, _, _ => by cases σ <;> cases σ2 <;> rfl
  | o :: ρ, [], σ2, hl, _ => by
    have e : σ2 = [] := by simpa using hl
    rw [e]
  | o :: ρ, x :: σ, [], hl, _ => by simp at hl
  | o :: ρ, x :: σ, y :: σ2, hl, h => by
    have ih := envP_but (ρ := ρ) (σ := σ) (σ2 := σ2) (by simpa using hl) (fun i z hz => by
      have := h (i + 1) z (by simpa using hz)
      simpa using this)
    cases o with
    | none => simp only [envP]; exact ih
    | some z =>
      have e : y = x := by
        have := h 0 z (by simp)
        simpa using this
      subst e
      cases y with
      | none => simp only [envP]; exact ih
      | some v => simp only [envP]; rw [ih]
theorem envOk_but : ∀ {ρ : AEnv} {σ σ2 : L2.St}, σ2.length = σ.length → (∀ (i : Nat) (y : A), ρ[i]? = some (some y) → σ2[i]? = σ[i]?) → EnvOk ρ σ → EnvOk ρ σ2
  | [], σ, σ2, hl, _, h => by
    have e : σ = [] := h
    subst e
    have e2 : σ2 = [] := by simpa using hl
    exact e2
  | o :: ρ, σ, [], hl, _, h => by
    obtain ⟨w, r, rfl, _, _⟩ := h
    simp at hl
  | o :: ρ, σ, y :: σ2, hl, hq, h => by
    obtain ⟨w, r, rfl, h1, h2⟩ := h
    refine ⟨y, σ2, rfl, fun z ez => ?_, envOk_but (by simpa using hl) (fun i z hz => by
      have := hq (i + 1) z (by simpa using hz)
      simpa using this) h2⟩
    obtain ⟨⟨v, hv⟩, hn⟩ := h1 z ez
    have e : y = w := by
      have := hq 0 z (by simp [ez])
      simpa using this
    exact ⟨⟨v, by rw [e]; exact hv⟩, hn⟩
theorem Stt.but (s : Stt K c S H σ ρ τ) (b : But vs σ σ2) (hn : NoneAt vs ρ) (ho : ∀ p ∈ c.os, p.1 ∉ vs) : Stt K c S H σ2 ρ τ := by
  have out : ∀ (i : Nat) (y : A), ρ[i]? = some (some y) → σ2[i]? = σ[i]? := fun i y h => b.2 i fun z => by rw [hn i z] at h; cases h
  refine ⟨?_, envOk_but b.1 out s.env, fun v i m => ?_, s.le, s.r, s.new, s.up, fun p m => by rw [b.2 p.1 (ho p m)]; exact s.os p m⟩
  · rw [envP_but b.1 out]; exact s.own
  · obtain ⟨h1, y, h2⟩ := s.loc v i m
    exact ⟨by rw [out i y h2]; exact h1, y, h2⟩
/-- an owned thing on top is changed -/
theorem Stt.writeTop {p : Addr} {o : HO} {y y' : A} (s : Stt K c S H σ ρ ((.ref p, y) :: τ)) (hx : isLoc y = false) (hx' : isLoc y' = false) (hg : ∀ g, RepA K S H y (.ref p) g → g = [p]) (hr : RepA K S (upd H p o) y' (.ref p) [p]) : Stt K c S (upd H p o) σ ρ ((.ref p, y') :: τ) := by
  obtain ⟨g, h, h1, h2, nd, h3⟩ := s.top hx
  have eg := hg g h1
  subst eg
  have np : p ∉ h := fun z => (List.nodup_append.mp nd).2.2 p (List.mem_cons_self ..) p z rfl
  have Sp : S p = none := (h3 p (by simp)).1
  have Rp : c.R p = none := (h3 p (by simp)).2
  exact Stt.push (g := [p]) (h := h) hx' hr (h2.keep (Same.refl S) fun a ha => upd_ne (fun z => np (z ▸ ha))) nd h3 s.env (fun v' i m => s.loc v' i (List.mem_cons_of_mem _ m)) (s.le.up Sp) (fun a o' e => by rw [upd_ne (ne_of_none e Rp)]; exact s.r a o' e) s.new s.up s.os
end
/-! ### tests of a comprehension -/
structure QTs (X : Cx) (P : Pm) (ifs : List Expr) (a : AT) : Prop where
  ex : ∃ t, PTs X ifs t ∧ SimT X.K P t a
def atYes : AT := fun _ ρ Q => Q true ρ
section
variable {X : Cx} {P : Pm} {K : Fg} {pos : Pos}
theorem qts_nil : QTs X P [] atYes := ⟨_, pts_nil, fun c EA _ _ τ S H σ ρ Q R s q k => k _ _ ⟨S, ρ, s, q⟩⟩
theorem qts_one {e : Expr} {t : AT} (h : QT X P e t) : QTs X P [e] t := let ⟨_, p, s⟩ := h.ex; ⟨_, pts_one p, s⟩
def noX : AX := fun _ _ _ => False
theorem xok_no {c : Ctx} : XOk K c (fun _ _ _ _ => False) noX := fun _ _ _ _ _ _ _ _ _ h => h
/-! ### [e for t in it if ..] -/
def lcA (G : AEnv → Prop) (ag : AG) (at_ : AT) (ae : AE) (vs : List Nat) : List D → List D → AEnv → AK → Prop
  | [], acc, ρ, Q => G ρ ∧ Q (.lst acc) ρ
  | x :: xs, acc, ρ, Q => G ρ ∧ ag x ρ fun ρ1 => at_ noX ρ1 fun b ρ2 => if b = true then ae noX ρ2 fun y ρ3 => useA y ρ3 fun d ρ4 => acc.length ≤ 100000 ∧ lcA G ag at_ ae vs xs (acc ++ [d]) (clearA vs ρ4) Q else lcA G ag at_ ae vs xs acc (clearA vs ρ2) Q
def aLc (ai : AI) (ag : AG) (at_ : AT) (ae : AE) (vs : List Nat) : AE := fun EA ρ Q => ai EA ρ fun xs G ρ1 => NoneAt vs ρ1 ∧ lcA G ag at_ ae vs xs [] ρ1 Q
abbrev Pn (P : Pm) : Pm := ⟨fun _ _ _ _ => False, P.O⟩
theorem sim_lc {wi : TI} {g : TG} {tt : TT} {te : TE} {ai : AI} {ag : AG} {at_ : AT} {ae : AE} {vs ws : List Nat} (hO : ∀ v ∈ vs, v ∉ P.O) (hws : ∀ i ∈ ws, i ∈ vs) (si : SimI K P wi ai) (sg : SimG K (Pn P) g ag ws) (st : SimT K (Pn P) tt at_) (se : SimE K (Pn P) te ae) :
    SimE K P (tLc wi g tt te vs) (aLc ai ag at_ ae vs) := by
  intro c EA ho hw τ S H σ ρ Q R s q k
  refine si c EA ho hw τ S H σ ρ _ _ s q fun c' J H1 S1 ρ1 xs G rb s1 hJ ⟨hn1, q1⟩ Dl hD => ?_
  have ho' := rb.osIn ho
  have hos : ∀ p ∈ c'.os, p.1 ∉ vs := fun p m z => hO p.1 z (ho'.1 p m)
  have s1' : Stt K c' S1 H1 (wipe σ vs) ρ1 τ := s1.but wipe_but hn1 hos
  have s2 : Stt K c' S1 (upd H1 Dl (.lst [])) (wipe σ vs) ρ1 ((.ref Dl, .lst []) :: τ) := s1'.newList hD (by simp only [RepL])
  refine ⟨fun i m H => ∃ S ρ acc, Stt K c' S H (wipe σ vs) ρ ((.ref Dl, .lst acc) :: τ) ∧ NoneAt vs ρ ∧ i + m = xs.length ∧ lcA G ag at_ ae vs (xs.drop i) acc ρ Q, ⟨xs.length, S1, ρ1, [], s2, hn1, by omega, by simpa using q1⟩, ?_⟩
  rintro i m H2 ⟨S2, ρ2, acc, s3, hn2, hm, q2⟩
  have noloc : ∀ u j, (u, A.loc j) ∈ (V.ref Dl, A.lst acc) :: τ → j ∉ vs := fun u j mm z => by
    obtain ⟨_, y, hy⟩ := s3.loc u j mm
    rw [hn2 j z] at hy
    cases hy
  by_cases hlt : i < xs.length
  · have e : xs.drop i = xs[i] :: xs.drop (i + 1) := List.drop_eq_getElem_cons hlt
    rw [e] at q2
    obtain ⟨hG, q2⟩ := q2
    obtain ⟨h1, h2⟩ := (hJ S2 H2 (wipe σ vs) ρ2 _ s3 hG).1 i xs[i] (List.getElem?_eq_getElem hlt)
    refine .inr ⟨h1, fun H' => ∃ S ρ acc, Stt K c' S H' (wipe σ vs) ρ ((.ref Dl, .lst acc) :: τ) ∧ NoneAt vs ρ ∧ lcA G ag at_ ae vs (xs.drop (i + 1)) acc ρ Q, fun H' ⟨S', ρ', acc', a1, a2, a3⟩ => ⟨m - 1, by omega, S', ρ', acc', a1, a2, by omega, a3⟩, fun x H' hy => ?_⟩
    obtain ⟨S3, s4⟩ := h2 x H' hy
    refine sg c' ho' _ S3 H' (wipe σ vs) ρ2 x xs[i] _ _ s4 (fun u j mm z => noloc u j mm (hws j z)) q2 fun σ' ρ' s5 bt q5 => ?_
    have btv : But vs (wipe σ vs) σ' := bt.mono hws
    have wip : wipe (wipe σ vs) vs = wipe σ vs := But.wipe (But.symm wipe_but).symm
    refine ⟨(But.wipe btv).trans wip, st c' noX ho' xok_no _ S3 H' σ' ρ' _ _ s5 q5 fun b H3 ⟨S4, ρ4, s6, q6⟩ => ?_⟩
    -- back to the block's start
    have back : ∀ {S H : Hp} {ρ : AEnv} {acc : List D}, Stt K c' S H σ' ρ ((.ref Dl, .lst acc) :: τ) → Stt K c' S H (wipe σ vs) (clearA vs ρ) ((.ref Dl, .lst acc) :: τ) ∧ NoneAt vs (clearA vs ρ) := fun {S H ρ acc'} z => by
      have nl : ∀ u j, (u, A.loc j) ∈ (V.ref Dl, A.lst acc') :: τ → j ∉ vs := fun u j mm zz => by
        rcases List.mem_cons.mp mm with y | y
        · injection y with _ y; cases y
        · exact noloc u j (List.mem_cons_of_mem _ y) zz
      have hlen : ∀ v ∈ vs, v < ρ.length := fun v hv => by
        have e1 := lt_of_get (hn2 v hv)
        have e2 := s3.env.len
        have e3 := z.env.len
        have e4 := btv.1
        omega
      have nn := clear_none (ρ := ρ) hlen
      exact ⟨(z.clears vs nl).but (But.symm btv) nn hos, nn⟩
    cases b with
    | false =>
      rw [if_neg Bool.false_ne_true] at q6 ⊢
      obtain ⟨z1, z2⟩ := back s6
      exact ⟨S4, _, acc, z1, z2, q6⟩
    | true =>
      rw [if_pos rfl] at q6 ⊢
      refine se c' noX ho' xok_no _ S4 H3 σ' ρ4 _ _ s6 q6 fun vy H4 ⟨S5, ρ5, y, s7, q7⟩ => ?_
      obtain ⟨S6, d, ρ6, sm, s8, hz, q8⟩ := use_sim s7 q7
      have rd := s8.data
      have s9 := s8.drop
      obtain ⟨g, hh, r1, _, _, _⟩ := s9.top rfl
      obtain ⟨p', us, e1, hp, rl, _⟩ := r1.lst_inv
      cases e1
      refine ⟨us, hp, by rw [rl.len]; exact Nat.lt_of_le_of_lt hz (by decide), ?_⟩
      have s10 : Stt K c' S6 (upd H4 Dl (.lst (us ++ [vy]))) σ' ρ6 ((.ref Dl, .lst (acc ++ [d])) :: τ) := s9.writeTop rfl rfl (fun g' h => by obtain ⟨a', _, e, _, _, e2⟩ := h.lst_inv; cases e; exact e2) (.mk_lst upd_same (rl.app (by simp only [RepL]; exact ⟨vy, [], rfl, rd, rfl⟩)))
      obtain ⟨z1, z2⟩ := back s10
      exact ⟨S6, _, _, z1, z2, q8⟩
  · have e : xs.drop i = [] := List.drop_eq_nil_of_le (by omega)
    rw [e] at q2
    refine .inl ⟨(hJ S2 H2 (wipe σ vs) ρ2 _ s3 q2.1).2 i (by omega), k _ _ ⟨S2, ρ2, .lst acc, ?_, q2.2⟩⟩
    exact rb.back (s3.but (But.symm wipe_but) hn2 hos)
theorem qe_lc {elt tg iter : Expr} {ifs : List Expr} {scope : Scope} {own : List (Str × Nat)} {ai : AI} {ag : AG} {at_ : AT} {ae : AE} {ws : List Nat} (hc : X.calm = true) (hN : X.N.Nodup) (hi : QI X P tg iter ai) (ok : BlkOk X.N X.env.scope scope own)
    (hg : ∃ g, SimG X.K (Pn P) g ag ws ∧ ∀ (s : Shared) (H : Hp) (C : Addr) (cl : List (Str × Addr)) (fp : List Addr), PG (X.blk s H scope (compEnvC scope cl C X.env) fp) tg g) (ht : ∃ t, SimT X.K (Pn P) t at_ ∧ ∀ (s : Shared) (H : Hp) (C : Addr) (cl : List (Str × Addr)) (fp : List Addr), PTs (X.blk s H scope (compEnvC scope cl C X.env) fp) ifs t)
    (he : ∃ t, SimE X.K (Pn P) t ae ∧ ∀ (s : Shared) (H : Hp) (C : Addr) (cl : List (Str × Addr)) (fp : List Addr), PE (X.blk s H scope (compEnvC scope cl C X.env) fp) elt t) (hO : ∀ v ∈ own.map (·.2), v ∉ P.O) (hws : ∀ i ∈ ws, i ∈ own.map (·.2)) (hs : ∀ x, foldedSetIterable iter X.env x = pure x := by intro _; rfl) :
    QE X P (.ListComp elt [⟨tg, iter, ifs, 0⟩] scope pos) (aLc ai ag at_ ae (own.map (·.2))) := by
  obtain ⟨wi, pi, si⟩ := hi.ex
  obtain ⟨g, sg, pg⟩ := hg
  obtain ⟨tt, st, pt⟩ := ht
  obtain ⟨te, se, pe⟩ := he
  exact ⟨_, pe_lc hc hN pi ok pg pt pe hs, sim_lc hO hws si sg st se⟩
end
/-! ### canonical meanings: from a judgement in each block to one meaning -/
section
variable {K : Fg} {P : Pm}
def canE (K : Fg) (P : Pm) (ae : AE) : TE := fun σ H R => ∃ c EA τ S ρ Q, OsIn c P.O ∧ XOk K c P.W EA ∧ Stt K c S H σ ρ τ ∧ ae EA ρ Q ∧ ∀ v H', KE K c σ τ Q v H' → R v H'
def canT (K : Fg) (P : Pm) (at_ : AT) : TT := fun σ H R => ∃ c EA τ S ρ Q, OsIn c P.O ∧ XOk K c P.W EA ∧ Stt K c S H σ ρ τ ∧ at_ EA ρ Q ∧ ∀ v H', KT K c σ τ Q v H' → R v H'
def canG (K : Fg) (P : Pm) (ag : AG) (ws : List Nat) : TG := fun v σ H R => ∃ c τ S ρ d Q, OsIn c P.O ∧ Stt K c S H σ ρ ((v, .v d) :: τ) ∧ (∀ u i, (u, A.loc i) ∈ τ → i ∉ ws) ∧ ag d ρ Q ∧ ∀ σ' ρ', Stt K c S H σ' ρ' τ → But ws σ σ' → Q ρ' → R σ' H
theorem sim_canE {ae : AE} : SimE K P (canE K P ae) ae := fun c EA ho hw τ S H σ ρ Q R s q k => ⟨c, EA, τ, S, ρ, Q, ho, hw, s, q, k⟩
theorem sim_canT {ae : AT} : SimT K P (canT K P ae) ae := fun c EA ho hw τ S H σ ρ Q R s q k => ⟨c, EA, τ, S, ρ, Q, ho, hw, s, q, k⟩
theorem sim_canG {ag : AG} {ws : List Nat} : SimG K P (canG K P ag ws) ag ws := fun c ho τ S H σ ρ v d Q R s hn q k => ⟨c, τ, S, ρ, d, Q, ho, s, hn, q, k⟩
theorem can_E {X : Cx} {e : Expr} {ae : AE} (h : QE X P e ae) (hK : X.K = K) : PE X e (canE K P ae) := by
  subst hK
  obtain ⟨t, p, s⟩ := h.ex
  exact ⟨fun pins st σ H Q I ⟨c, EA, τ, S, ρ, Q', h1, h2, h3, h4, h5⟩ => p.run pins st σ H Q I (s c EA h1 h2 τ S H σ ρ Q' Q h3 h4 h5)⟩
theorem can_Ts {X : Cx} {e : List Expr} {ae : AT} (h : QTs X P e ae) (hK : X.K = K) : PTs X e (canT K P ae) := by
  subst hK
  obtain ⟨t, p, s⟩ := h.ex
  exact ⟨fun pins st σ H Q I ⟨c, EA, τ, S, ρ, Q', h1, h2, h3, h4, h5⟩ => p.run pins st σ H Q I (s c EA h1 h2 τ S H σ ρ Q' Q h3 h4 h5)⟩
theorem can_G {X : Cx} {e : Expr} {ag : AG} {ws : List Nat} (h : QG X P e ag ws) (hK : X.K = K) : PG X e (canG K P ag ws) := by
  subst hK
  obtain ⟨t, p, s⟩ := h.ex
  exact ⟨fun pins st σ H v u Q I r ⟨c, τ, S, ρ, d, Q', h1, h2, h3, h4, h5⟩ => p.run pins st σ H v u Q I r (s c h1 τ S H σ ρ v d Q' Q h2 h3 h4 h5)⟩
theorem qe_lcX {X : Cx} {elt tg iter : Expr} {ifs : List Expr} {scope : Scope} {ai : AI} {ag : AG} {at_ : AT} {ae : AE} {ws : List Nat} {pos : Pos} (own : List (Str × Nat)) (hc : X.calm = true) (hN : X.N.Nodup) (ok : BlkOk X.N X.env.scope scope own) (hi : QI X P tg iter ai)
    (hg : ∀ (s : Shared) (H : Hp) (C : Addr) (cl : List (Str × Addr)) (fp : List Addr), QG (X.blk s H scope (compEnvC scope cl C X.env) fp) (Pn P) tg ag ws) (ht : ∀ (s : Shared) (H : Hp) (C : Addr) (cl : List (Str × Addr)) (fp : List Addr), QTs (X.blk s H scope (compEnvC scope cl C X.env) fp) (Pn P) ifs at_)
    (he : ∀ (s : Shared) (H : Hp) (C : Addr) (cl : List (Str × Addr)) (fp : List Addr), QE (X.blk s H scope (compEnvC scope cl C X.env) fp) (Pn P) elt ae) (hO : ∀ v ∈ own.map (·.2), v ∉ P.O) (hws : ∀ i ∈ ws, i ∈ own.map (·.2)) (hs : ∀ x, foldedSetIterable iter X.env x = pure x := by intro _; rfl) :
    QE X P (.ListComp elt [⟨tg, iter, ifs, 0⟩] scope pos) (aLc ai ag at_ ae (own.map (·.2))) :=
  qe_lc hc hN hi ok ⟨_, sim_canG, fun s H C cl fp => can_G (hg s H C cl fp) rfl⟩ ⟨_, sim_canT, fun s H C cl fp => can_Ts (ht s H C cl fp) rfl⟩ ⟨_, sim_canE, fun s H C cl fp => can_E (he s H C cl fp) rfl⟩ hO hws hs
end
end Vs

set_option Elab.async false
set_option linter.all false
set_option maxRecDepth 100000
set_option maxHeartbeats 1000000
/-! Vs: dict comprehensions; a name gets a comprehension. -/
namespace Vs
open PySem PySem.Spec PyProof.Rows L2
section
variable {X : Cx} {P : Pm} {K : Fg} {pos : Pos}
/-! ### {k: e for t in it if ..} -/
def dcA (G : AEnv → Prop) (ag : AG) (at_ : AT) (ak ae : AE) (vs : List Nat) : List D → List (Key × D) → AEnv → AK → Prop
  | [], acc, ρ, Q => G ρ ∧ Q (.dic acc) ρ
  | x :: xs, acc, ρ, Q => G ρ ∧ ag x ρ fun ρ1 => at_ noX ρ1 fun b ρ2 => if b = true then ak noX ρ2 fun ky ρ3 => ae noX ρ3 fun y ρ4 => useA y ρ4 fun d ρ5 => ∃ kd kk, dat ky ρ5 = some kd ∧ keyD kd = some kk ∧ acc.length ≤ 100000 ∧ dcA G ag at_ ak ae vs xs (putD acc kk d) (clearA vs ρ5) Q else dcA G ag at_ ak ae vs xs acc (clearA vs ρ2) Q
def aDc (ai : AI) (ag : AG) (at_ : AT) (ak ae : AE) (vs : List Nat) : AE := fun EA ρ Q => ai EA ρ fun xs G ρ1 => NoneAt vs ρ1 ∧ dcA G ag at_ ak ae vs xs [] ρ1 Q
theorem sim_dc {wi : TI} {g : TG} {tt : TT} {tk te : TE} {ai : AI} {ag : AG} {at_ : AT} {ak ae : AE} {vs ws : List Nat} (hO : ∀ v ∈ vs, v ∉ P.O) (hws : ∀ i ∈ ws, i ∈ vs) (si : SimI K P wi ai) (sg : SimG K (Pn P) g ag ws) (st : SimT K (Pn P) tt at_) (sk : SimE K (Pn P) tk ak) (se : SimE K (Pn P) te ae) :
    SimE K P (tDc wi g tt tk te vs) (aDc ai ag at_ ak ae vs) := by
  intro c EA ho hw τ S H σ ρ Q R s q k
  refine si c EA ho hw τ S H σ ρ _ _ s q fun c' J H1 S1 ρ1 xs G rb s1 hJ ⟨hn1, q1⟩ Dl hD => ?_
  have ho' := rb.osIn ho
  have hos : ∀ p ∈ c'.os, p.1 ∉ vs := fun p m z => hO p.1 z (ho'.1 p m)
  have s1' : Stt K c' S1 H1 (wipe σ vs) ρ1 τ := s1.but wipe_but hn1 hos
  have s2 : Stt K c' S1 (upd H1 Dl (.dK [])) (wipe σ vs) ρ1 ((.ref Dl, .dic []) :: τ) := s1'.alloc hD rfl (.mk_dic upd_same (by simp only [RepK]))
  refine ⟨fun i m H => ∃ S ρ acc, Stt K c' S H (wipe σ vs) ρ ((.ref Dl, .dic acc) :: τ) ∧ NoneAt vs ρ ∧ i + m = xs.length ∧ dcA G ag at_ ak ae vs (xs.drop i) acc ρ Q, ⟨xs.length, S1, ρ1, [], s2, hn1, by omega, by simpa using q1⟩, ?_⟩
  rintro i m H2 ⟨S2, ρ2, acc, s3, hn2, hm, q2⟩
  have noloc : ∀ u j, (u, A.loc j) ∈ (V.ref Dl, A.dic acc) :: τ → j ∉ vs := fun u j mm z => by
    obtain ⟨_, y, hy⟩ := s3.loc u j mm
    rw [hn2 j z] at hy
    cases hy
  by_cases hlt : i < xs.length
  · have e : xs.drop i = xs[i] :: xs.drop (i + 1) := List.drop_eq_getElem_cons hlt
    rw [e] at q2
    obtain ⟨hG, q2⟩ := q2
    obtain ⟨h1, h2⟩ := (hJ S2 H2 (wipe σ vs) ρ2 _ s3 hG).1 i xs[i] (List.getElem?_eq_getElem hlt)
    refine .inr ⟨h1, fun H' => ∃ S ρ acc, Stt K c' S H' (wipe σ vs) ρ ((.ref Dl, .dic acc) :: τ) ∧ NoneAt vs ρ ∧ dcA G ag at_ ak ae vs (xs.drop (i + 1)) acc ρ Q, fun H' ⟨S', ρ', acc', a1, a2, a3⟩ => ⟨m - 1, by omega, S', ρ', acc', a1, a2, by omega, a3⟩, fun x H' hy => ?_⟩
    obtain ⟨S3, s4⟩ := h2 x H' hy
    refine sg c' ho' _ S3 H' (wipe σ vs) ρ2 x xs[i] _ _ s4 (fun u j mm z => noloc u j mm (hws j z)) q2 fun σ' ρ' s5 bt q5 => ?_
    have btv : But vs (wipe σ vs) σ' := bt.mono hws
    have wip : wipe (wipe σ vs) vs = wipe σ vs := But.wipe (But.symm wipe_but).symm
    refine ⟨(But.wipe btv).trans wip, st c' noX ho' xok_no _ S3 H' σ' ρ' _ _ s5 q5 fun b H3 ⟨S4, ρ4, s6, q6⟩ => ?_⟩
    have back : ∀ {S H : Hp} {ρ : AEnv} {acc : List (Key × D)}, Stt K c' S H σ' ρ ((.ref Dl, .dic acc) :: τ) → Stt K c' S H (wipe σ vs) (clearA vs ρ) ((.ref Dl, .dic acc) :: τ) ∧ NoneAt vs (clearA vs ρ) := fun {S H ρ acc'} z => by
      have nl : ∀ u j, (u, A.loc j) ∈ (V.ref Dl, A.dic acc') :: τ → j ∉ vs := fun u j mm zz => by
        rcases List.mem_cons.mp mm with y | y
        · injection y with _ y; cases y
        · exact noloc u j (List.mem_cons_of_mem _ y) zz
      have hlen : ∀ v ∈ vs, v < ρ.length := fun v hv => by
        have e1 := lt_of_get (hn2 v hv)
        have e2 := s3.env.len
        have e3 := z.env.len
        have e4 := btv.1
        omega
      have nn := clear_none (ρ := ρ) hlen
      exact ⟨(z.clears vs nl).but (But.symm btv) nn hos, nn⟩
    cases b with
    | false =>
      rw [if_neg Bool.false_ne_true] at q6 ⊢
      obtain ⟨z1, z2⟩ := back s6
      exact ⟨S4, _, acc, z1, z2, q6⟩
    | true =>
      rw [if_pos rfl] at q6 ⊢
      refine sk c' noX ho' xok_no _ S4 H3 σ' ρ4 _ _ s6 q6 fun vk H4 ⟨S5, ρ5, ky, s7, q7⟩ => se c' noX ho' xok_no _ S5 H4 σ' ρ5 _ _ s7 q7 fun vy H5 ⟨S6, ρ6, y, s8, q8⟩ => ?_
      obtain ⟨S7, d, ρ7, sm, s9, kd, kk, hk1, hk2, hz, q9⟩ := use_sim s8 q8
      have rd := s9.data
      have rk := s9.dat (v := vk) (x := ky) (by simp) hk1
      have ek := key_rep hk2 rk
      subst ek
      have s10 := s9.drop.drop
      obtain ⟨g, hh, r1, _, _, _⟩ := s10.top rfl
      obtain ⟨p', us, e1, hp, rl, _⟩ := r1.dic_inv
      cases e1
      refine ⟨us, kk, rfl, hp, by rw [rl.len]; exact Nat.lt_of_le_of_lt hz (by decide), ?_⟩
      have s11 : Stt K c' S7 (upd H5 Dl (.dK (putK us kk vy))) σ' ρ7 ((.ref Dl, .dic (putD acc kk d)) :: τ) := s10.writeTop rfl rfl (fun g' h => by obtain ⟨a', _, e, _, _, e2⟩ := h.dic_inv; cases e; exact e2) (.mk_dic upd_same (rl.put kk rd))
      obtain ⟨z1, z2⟩ := back s11
      exact ⟨S7, _, _, z1, z2, q9⟩
  · have e : xs.drop i = [] := List.drop_eq_nil_of_le (by omega)
    rw [e] at q2
    refine .inl ⟨(hJ S2 H2 (wipe σ vs) ρ2 _ s3 q2.1).2 i (by omega), k _ _ ⟨S2, ρ2, .dic acc, ?_, q2.2⟩⟩
    exact rb.back (s3.but (But.symm wipe_but) hn2 hos)
theorem qe_dcX {kx elt tg iter : Expr} {ifs : List Expr} {scope : Scope} {ai : AI} {ag : AG} {at_ : AT} {ak ae : AE} {ws : List Nat} (own : List (Str × Nat)) (hc : X.calm = true) (hN : X.N.Nodup) (ok : BlkOk X.N X.env.scope scope own) (hi : QI X P tg iter ai)
    (hg : ∀ (s : Shared) (H : Hp) (C : Addr) (cl : List (Str × Addr)) (fp : List Addr), QG (X.blk s H scope (compEnvC scope cl C X.env) fp) (Pn P) tg ag ws) (ht : ∀ (s : Shared) (H : Hp) (C : Addr) (cl : List (Str × Addr)) (fp : List Addr), QTs (X.blk s H scope (compEnvC scope cl C X.env) fp) (Pn P) ifs at_)
    (hk : ∀ (s : Shared) (H : Hp) (C : Addr) (cl : List (Str × Addr)) (fp : List Addr), QE (X.blk s H scope (compEnvC scope cl C X.env) fp) (Pn P) kx ak)
    (he : ∀ (s : Shared) (H : Hp) (C : Addr) (cl : List (Str × Addr)) (fp : List Addr), QE (X.blk s H scope (compEnvC scope cl C X.env) fp) (Pn P) elt ae) (hO : ∀ v ∈ own.map (·.2), v ∉ P.O) (hws : ∀ i ∈ ws, i ∈ own.map (·.2)) (hs : ∀ x, foldedSetIterable iter X.env x = pure x := by intro _; rfl) :
    QE X P (.DictComp kx elt [⟨tg, iter, ifs, 0⟩] scope pos) (aDc ai ag at_ ak ae (own.map (·.2))) := by
  obtain ⟨wi, pi, si⟩ := hi.ex
  exact ⟨_, pe_dc hc hN pi ok (fun s H C cl fp => can_G (hg s H C cl fp) rfl) (fun s H C cl fp => can_Ts (ht s H C cl fp) rfl) (fun s H C cl fp => can_E (hk s H C cl fp) rfl) (fun s H C cl fp => can_E (he s H C cl fp) rfl) hs, sim_dc hO hws si sim_canG sim_canT sim_canE sim_canE⟩
/-! ### name = [..] on one line -/
theorem qs_setLc {i : Nat} {y : Str} {py : Pos} {elt tg iter : Expr} {ifs : List Expr} {scope : Scope} {ai : AI} {ag : AG} {at_ : AT} {ae : AE} {ws : List Nat} {spos : Pos} (own : List (Str × Nat)) (hc : X.calm = true) (hN : X.N.Nodup) (hy : X.N[i]? = some y) (hyl : X.env.scope.names.lookup y = some .local) (hyO : i ∉ P.O)
    (hsw : swapsWith (.ListComp elt [⟨tg, iter, ifs, 0⟩] scope pos) (some (.Name y py)) spos.line X.env = pure true) (ok : BlkOk X.N X.env.scope scope own) (hi : QI X P tg iter ai)
    (hg : ∀ (s : Shared) (H : Hp) (C : Addr) (cl : List (Str × Addr)) (fp : List Addr), QG (X.blk s H scope (compEnvC scope cl C X.env) fp) (Pn P) tg ag ws) (ht : ∀ (s : Shared) (H : Hp) (C : Addr) (cl : List (Str × Addr)) (fp : List Addr), QTs (X.blk s H scope (compEnvC scope cl C X.env) fp) (Pn P) ifs at_)
    (he : ∀ (s : Shared) (H : Hp) (C : Addr) (cl : List (Str × Addr)) (fp : List Addr), QE (X.blk s H scope (compEnvC scope cl C X.env) fp) (Pn P) elt ae) (hO : ∀ v ∈ own.map (·.2), v ∉ P.O) (hws : ∀ i ∈ ws, i ∈ own.map (·.2)) (hs : ∀ x, foldedSetIterable iter X.env x = pure x := by intro _; rfl) :
    QS X P (.Assign [.Name y py] (.ListComp elt [⟨tg, iter, ifs, 0⟩] scope pos) spos) (asSet i (aFrz (aLc ai ag at_ ae (own.map (·.2))))) := by
  obtain ⟨wi, pi, si⟩ := hi.ex
  refine ⟨_, ps_setLc hc hN hy hyl hsw pi ok (fun s H C cl fp => can_G (hg s H C cl fp) rfl) (fun s H C cl fp => can_Ts (ht s H C cl fp) rfl) (fun s H C cl fp => can_E (he s H C cl fp) rfl) hs, fun c D DA ho hw l S H σ ρ st q => ?_⟩
  refine sim_lc hO hws si sim_canG sim_canT sim_canE c DA.ex ho hw [] S H σ ρ _ _ st q fun v H1 ⟨S1, ρ1, y, s1, q1⟩ => ?_
  obtain ⟨S2, d, ρ2, sm, s2, q2⟩ := use_sim s1 q1
  exact set_sim s2 (ho.ne hyO) q2 fun S' ρ' s3 q3 => l.nx S' H1 _ ρ' s3 q3
end
end Vs

set_option Elab.async false
set_option linter.all false
set_option maxRecDepth 100000
set_option maxHeartbeats 1000000
/-! Vs: == and != by an own __eq__, len by an own __len__. -/
namespace Vs
open PySem PySem.Spec PyProof.Rows L2
structure EqC (Pr : Program) (w : World) (K : Fg) (mg : Str → Option Value) (base : Heap) (C : Addr) (k : Nat) (sp : ASp) : Prop where
  ne : PySem.W.findIn K (.ref C) "__ne__" = some (some (.builtin "object.__ne__"))
  mo : PySem.W.mroIn K C (.type "object") = some true
  ex : ∃ f fd ps, PySem.W.findIn K (.ref C) "__eq__" = some (some (.ref f)) ∧ PySem.W.isFn K (.ref f) = true ∧ Binds K fd ps [] ∧ Fok Pr w K mg base k f fd ps sp
section
variable {X : Cx} {P : Pm} {K : Fg} {C : Addr} {k : Nat} {sp : ASp}
/-- a def run in any room like the frame's -/
theorem run_at {pins : List (Addr × Obj)} {σ : L2.St} {H : Hp} {s : Shared} {A' : Around} {Q : VK} {f : Addr} {fd : FuncData} {ps : List Str} {us : List Value} {vs : List V} (F : Fok X.prog X.w X.K X.mg X.base k f fd ps sp) (hr : Room k A') (hfr : A'.frames = X.A.frames) (hb : Binds X.K fd ps []) (I : Inv X pins σ H s) (r : Vals vs us)
    (h : lift X.K sp vs H Q (fun _ _ _ => False)) {E : Value → Shared → Prop} : wpAny (model X.prog X.w) A' (call (.ref f) us) (EP X pins σ Q) E s := by
  have e0 : Env0 X.prog X.w X.K X.mg X.base A' X.stack s H := by
    have e := I.env0
    exact ⟨by rw [hfr]; exact e.frames, e.mod, e.bs, e.bsz, e.funs, e.frf, e.hok, e.bare⟩
  have hl := F.len _ _ _ _ h
  have bd := hb s us I.kIn (by rw [List.append_nil, ← r.length]; exact hl)
  refine wpAny_call (codeAny_mono (F.run A' X.stack s H ⟨us, []⟩ us vs _ _ hr e0 (by simpa using bd) r h) fun rr s' hq => ?_)
  cases rr with
  | error e => exact (cx_false _ _ _ _ _ hq).elim
  | ok fl =>
    cases fl with
    | ret u =>
      obtain ⟨v, H', I', rv, q⟩ := I.after hq
      exact ⟨v, H', I', rv, q⟩
    | next => exact False.elim hq
    | brk => exact False.elim hq
    | cont => exact False.elim hq
def rOwn (K : Fg) (C : Addr) (sp : ASp) (g : Bool → Bool) : R2 := fun x y H Q => ∃ a b dx dy fs gs, x = .ref a ∧ y = .ref b ∧ H a = some (.ins C dx fs) ∧ H b = some (.ins C dy gs) ∧ lift K sp [x, y] H (fun v H' => ∃ t, v = .bl t ∧ Q (.bl (g t)) H') (fun _ _ _ => False)
theorem op_ownEq (T : EqC X.prog X.w X.K X.mg X.base C k sp) (hr : Room k X.A) : OpR X (compareOp .Eq) (rOwn X.K C sp id) := by
  intro pins s σ H x y v u Q I rx ry h
  obtain ⟨a, b, dx, dy, fs, gs, rfl, rfl, ha, hb, h⟩ := h
  cases rx
  cases ry
  obtain ⟨f, fd, ps, hs, hf, hbd, F⟩ := T.ex
  obtain ⟨mA, J, _⟩ := ins_get I.hok ha
  obtain ⟨mB, J', _⟩ := ins_get I.hok hb
  obtain ⟨od, J, _⟩ := J.look
  obtain ⟨od', J', _⟩ := J'.look
  obtain ⟨m, hF⟩ := I.fr
  show wpAny (model X.prog X.w) X.A (richCompare .Eq (.ref a) (.ref b)) (EP X pins σ Q) X.xe s
  refine PySem.W.cmp_K (op := .Eq) (tb := .ref C) hr.units0 hF I.ok.mod.kin J J'.type (by simp [PySem.W.notFirst]) hs hf ?_
  refine thn (run_at F hr rfl hbd I (us := [.ref a, .ref b]) (vs := [.ref a, .ref b]) (.cons rfl (.cons rfl .nil)) h) fun u s1 hu => ?_
  obtain ⟨v, H', I', rv, t, rfl, q⟩ := hu
  cases (show u = Value.bool t from rv)
  exact ⟨.bl t, H', I', rfl, q⟩
section
variable {M : Model} {prog : Program} {w : World} {A : Around} {E : Value → Shared → Prop} {s : Shared} {x : Addr} {ox : Obj} {od : Option Obj}
theorem ifBound_objNe {args : List Value} {Q : Option Value → Shared → Prop} (X : K.In s.heap) (I : PySem.W.InstAt s.heap x ox C od) (hs : PySem.W.findIn K (.ref C) "__ne__" = some (some (.builtin "object.__ne__")))
    (h : wpAny M A (call (.builtin "object.__ne__") (.ref x :: args)) (fun v => Q (some v)) E s) : wpAny M A (callSpecialIfBound? (.ref x) "__ne__" args) Q E s := by
  simp only [callSpecialIfBound?, bindSpecialIfBound?]
  refine wpAny_holding (wpAny_bind (wpAny_bind (wpAny_bind (I.type.here ((PySem.W.looks_findIn X hs).here ?_)))))
  refine wpAny_bind (wpAny_askSetting (wpAny_ite ?_))
  have fin : wpAny M A (call (.builtin "object.__ne__") ([.ref x] ++ args) >>= fun v => pure (some v)) Q E s := wpAny_bind (wpAny_mono h (fun v s' h' => wpAny_pure h') fun _ _ h' => h')
  split
  · exact wpAny_bind (wpAny_of_eq (F.cmp_object.ne.bind _) (wpAny_pure (by exact fin)))
  · exact wpAny_tryCatch (wpAny_bind (wpAny_of_eq (F.cmp_object.ne.bind _) (wpAny_pure (by exact fin))))
theorem entry_ne {y f : Addr} {Q : Fin → Shared → Prop} (hu : A.units < cLine) (X : K.In s.heap) (I : PySem.W.InstAt s.heap x ox C od) (hs : PySem.W.findIn K (.ref C) "__eq__" = some (some (.ref f))) (hf : PySem.W.isFn K (.ref f) = true)
    (hcall : wpAny M A (call (.ref f) [.ref x, .ref y]) (fun v s' => ∃ b, v = .bool b ∧ Q (.done (.ret (.bool (!b)))) s') E s) : wpAny M A (Builtin.«object.__ne__» ⟨[.ref x, .ref y], []⟩) Q E s := by
  unfold Builtin.«object.__ne__»
  repeat (first
    | with_reducible refine wpAny_cRoomFor hu ?_
    | (refine wpAny_bind (m := callSpecialIfBound? (.ref x) (Str.ofString "__eq__") [.ref y])
        (PySem.W.ifBound_K X I hs hf (wpAny_mono hcall (fun r s' hr => by
          obtain ⟨b, rfl, hq⟩ := hr
          repeat (first | exact hq | exact wpAny_pure hq | exact wpAny_truthy_bool hq | (refine wpAny_bind (m := truthy (.bool _)) (wpAny_truthy_bool ?_)) | wp_step)) fun _ _ e => e)))
    | wp_step)
end
theorem op_ownNe (T : EqC X.prog X.w X.K X.mg X.base C k sp) (hr : Room (k + 1) X.A) : OpR X (compareOp .NotEq) (rOwn X.K C sp (!·)) := by
  intro pins s σ H x y v u Q I rx ry h
  obtain ⟨a, b, dx, dy, fs, gs, rfl, rfl, ha, hb, h⟩ := h
  cases rx
  cases ry
  obtain ⟨f, fd, ps, hs, hf, hbd, F⟩ := T.ex
  obtain ⟨mA, J, _⟩ := ins_get I.hok ha
  obtain ⟨mB, J', _⟩ := ins_get I.hok hb
  obtain ⟨od, J, _⟩ := J.look
  obtain ⟨od', J', _⟩ := J'.look
  have hk := I.kIn
  have one : wpAny (model X.prog X.w) X.A (tryCompare (.ref a) "__ne__" (.ref b)) (fun r s' => ∃ v, r = some v ∧ EP X pins σ Q v s') X.xe s := by
    unfold tryCompare
    refine wpAny_bind (ifBound_objNe hk J T.ne (wpAny_call (codeAny_call_builtin PySem.F.cmp_object.ne.plain PySem.F.cmpEntry_ne (PySem.W.check_slot PySem.F.cmpKind_ne PySem.F.cmpSplit_ne (J.type.andThen (PySem.W.looks_mroIn hk T.mo)) (PySem.F.cmpArgs_ne _ _) (entry_ne (A := X.A.in1) hr.in1.units0 hk J hs hf ?_)))))
    refine thn (run_at F hr.in1 rfl hbd I (us := [.ref a, .ref b]) (vs := [.ref a, .ref b]) (.cons rfl (.cons rfl .nil)) h) fun u s1 hu => ?_
    obtain ⟨v, H', I', rv, t, rfl, q⟩ := hu
    cases (show u = Value.bool t from rv)
    exact ⟨t, rfl, wpAny_pure ⟨_, rfl, .bl (!t), H', I', rfl, q⟩⟩
  show wpAny (model X.prog X.w) X.A (richCompare .NotEq (.ref a) (.ref b)) (EP X pins σ Q) X.xe s
  unfold richCompare
  simp only [oneThing_ref]
  refine wpAny_holding (wpAny_bind (wpAny_cRoomFor hr.units0 ?_))
  refine wpAny_bind (J.type.here (wpAny_bind (J'.type.here ?_)))
  split
  · rename_i q
    simp at q
  · refine wpAny_bind (wpAny_pure ?_)
    simp only [Bool.false_eq_true, if_false]
    refine wpAny_bind (wpAny_mono one (fun r s' z => ?_) fun _ _ e => e)
    obtain ⟨v, rfl, hq⟩ := z
    exact wpAny_pure hq
/-- x == y, x != y by the own __eq__ -/
def aOwn (C : Addr) (sp : ASp) (g : Bool → Bool) : AR2 := fun x y ρ Q => (∃ fs, dat x ρ = some (.obj C fs)) ∧ (∃ fs, dat y ρ = some (.obj C fs)) ∧ callA sp [x, y] noX ρ fun r ρ' => ∃ t, r = .v (.bl t) ∧ Q (.v (.bl (g t))) ρ'
theorem s_own {g : Bool → Bool} : Sim2 K (rOwn K C sp g) (aOwn C sp g) := by
  intro c τ S H σ ρ vx vy x y Q R s q k
  obtain ⟨⟨fs, h1⟩, ⟨gs, h2⟩, h3⟩ := q
  obtain ⟨r1, r2⟩ := two_dat s h1 h2
  simp only [Rep] at r1 r2
  obtain ⟨a, dx, ws, rfl, a1, _⟩ := r1
  obtain ⟨b, dy, us, rfl, b1, _⟩ := r2
  refine ⟨a, b, dx, dy, ws, us, rfl, rfl, a1, b1, ?_⟩
  have s2 : Stt K c S H σ ρ ([V.ref a, V.ref b].zip [x, y] ++ τ) := s.swap (.swap _ _ _)
  refine lift_mono (call_sim (W := fun _ _ _ _ => False) (EA := noX) xok_no rfl s2 h3) (fun v H' hv => ?_) fun _ _ _ h => h
  obtain ⟨S', ρ', r, s3, t, rfl, q⟩ := hv
  have rv := s3.data
  simp only [Rep] at rv
  exact ⟨t, rv, k _ _ (KE.sc s3.drop rfl q)⟩
end
end Vs

set_option Elab.async false
set_option linter.all false
set_option maxRecDepth 100000
set_option maxHeartbeats 1000000
/-! Vs: sorted, len of an own class, max and min of a list. -/
namespace Vs
open PySem PySem.Spec PyProof.Rows L2
theorem CallR.or {X : Cx} {f : Value} {r r' : List V → Hp → VK → Prop} (h : CallR X f r) (h' : CallR X f r') : CallR X f (fun xs H Q => r xs H Q ∨ r' xs H Q) := fun pins s σ H xs us Q I rx q =>
  q.elim (fun q => h pins s σ H xs us Q I rx q) fun q => h' pins s σ H xs us Q I rx q
/-! ### sorted -/
def srtD (ds : List D) : List D := ds.mergeSort (PySem.W.dataLe false pd)
def EachT (T : D → V → Prop) : List D → List V → Prop
  | [], vs => vs = []
  | d :: ds, vs => ∃ v r, vs = v :: r ∧ T d v ∧ EachT T ds r
theorem eachT_rep {K : Fg} {S : Hp} : ∀ {ds : List D} {vs : List V}, EachT (Rep K S) ds vs ↔ RepL K S ds vs
  | [], vs => by simp only [EachT, RepL]
  | d :: ds, vs => by
    simp only [EachT, RepL]
    constructor
    · rintro ⟨v, r, e, h1, h2⟩
      exact ⟨v, r, e, h1, eachT_rep.mp h2⟩
    · rintro ⟨v, r, e, h1, h2⟩
      exact ⟨v, r, e, h1, eachT_rep.mpr h2⟩
def rSortD (K : Fg) : List V → Hp → VK → Prop := fun xs H Q => ∃ (a : Addr) (vs : List V) (ds : List D) (T : D → V → Prop), xs = [.ref a] ∧ SqL K H a vs ∧ EachT T ds vs ∧ (∀ d v, T d v → Rep K H d v) ∧ (∀ d ∈ ds, PlD 20 d) ∧ PySem.W.AllAlike (ds.map pd) ∧ PySem.W.Sortable (ds.map pd) ∧
  ∀ vs' p, EachT T (srtD ds) vs' → H p = none → Q (.ref p) (upd H p (.lst vs'))
section
variable {X : Cx} {P : Pm} {K : Fg} {pos : Pos}
theorem cr_sortD (hu : X.A.units + 64 < cLine) : CallR X (.builtin "sorted") (rSortD X.K) := by
  intro pins s σ H xs us Q I r h
  obtain ⟨a, vs, ds, T, rfl, hs, ht, hT, hp, hal, hk, q⟩ := h
  obtain ⟨its, rv, hl, hz⟩ := I.list hs
  obtain ⟨u, rfl, ru⟩ := vals1 r
  obtain rfl : u = Value.ref a := ru
  have e1 : ∀ {ds : List D} {vs : List V} {its : List Value}, EachT T ds vs → Vals vs its → PySem.W.EachIs (fun u d => ∃ v, RelV v u ∧ T d v) its ds := by
    intro ds
    induction ds with
    | nil =>
      intro vs its h r
      simp only [EachT] at h
      subst h
      cases r
      exact .nil
    | cons d ds ih =>
      intro vs its h r
      simp only [EachT] at h
      obtain ⟨v, rr, rfl, h1, h2⟩ := h
      cases r with
      | cons ra rb => exact .cons ⟨v, ra, h1⟩ (ih h2 rb)
  have e2 : ∀ {ds : List D} {its : List Value}, (∀ d ∈ ds, PlD 20 d) → PySem.W.EachIs (fun u d => ∃ v, RelV v u ∧ T d v) its ds → PySem.W.EachIs (fun u d => ∃ as, Reads s.heap u (pd d) as) its ds := by
    intro ds
    induction ds with
    | nil => intro its _ h; cases h; exact .nil
    | cons d ds ih =>
      intro its hp h
      cases h with
      | cons h1 h2 =>
        obtain ⟨v, ra, rb⟩ := h1
        exact .cons (Dp.reads I _ v _ (rep_dp 20 d v (hp d (by simp)) (hT d v rb)) ra) (ih (fun x hx => hp x (by simp [hx])) h2)
  have e3 : ∀ {ds : List D} {out : List Value}, PySem.W.EachIs (fun u d => ∃ v, RelV v u ∧ T d v) out ds → ∃ vs', Vals vs' out ∧ EachT T ds vs' := by
    intro ds
    induction ds with
    | nil => intro out h; cases h; exact ⟨[], .nil, by simp only [EachT]⟩
    | cons d ds ih =>
      intro out h
      cases h with
      | cons h1 h2 =>
        obtain ⟨v, ra, rb⟩ := h1
        obtain ⟨vs', z1, z2⟩ := ih h2
        exact ⟨v :: vs', .cons ra z1, by simp only [EachT]; exact ⟨v, vs', rfl, rb, z2⟩⟩
  have hE := e1 ht rv
  have lds : ds.length = its.length := hE.length.symm
  have lvs := rv.length
  refine PySem.W.sorted_data (R := fun u d => ∃ v, RelV v u ∧ T d v) (enc := pd) hl.isList hE (e2 hp hE) hal hk (by omega) (fun d hd => ?_) fun out hlen ho => ?_
  · have := (pd_plain 20 d (hp d hd)).2
    omega
  · obtain ⟨vs', z1, z2⟩ := e3 ho
    obtain ⟨ep, he'⟩ := PyProof.Rows.sortedAll_at s.heap its out.toArray
    have hlo := z1.length
    exact ⟨.ref _, upd H (s.heap.objs.size + 1) (.lst vs'), I.laid (t' := s.toks) (fun _ _ => PyProof.Rows.sortedAll_old) (Nat.le_succ _) ⟨by omega, out, ep, z1, he'⟩, rfl, q _ _ z2 (I.hok.fresh (Nat.le_succ _))⟩
abbrev rSortX (K : Fg) : List V → Hp → VK → Prop := fun xs H Q => rSortD K xs H Q ∨ ∃ (a : Addr) (kvs : List (Key × V)) (ks : List Str), xs = [.ref a] ∧ Rd H a (.dK kvs) ∧ kvs.map (·.1) = ks.map Sum.inr ∧ ks.length < 64 ∧ ∀ ys p, ys.Perm ks → sortedS ys = true → H p = none → Q (.ref p) (upd H p (.lst (ys.map V.str)))
theorem cr_sortX (hc : X.calm = true) (hu : X.A.units + 64 < cLine) : CallR X (.builtin "sorted") (rSortX X.K) := CallR.or (cr_sortD hu) (call_sortedD hc)
def aSort : ARs := fun xs ρ Q => ∃ x d, xs = [x] ∧ dat x ρ = some d ∧ match d with
  | .lst ds => (∀ d ∈ ds, PlD 20 d) ∧ PySem.W.AllAlike (ds.map pd) ∧ PySem.W.Sortable (ds.map pd) ∧ Q (.lst (srtD ds)) ρ
  | .dic kvs => ∃ ks : List Str, kvs.map (·.1) = ks.map Sum.inr ∧ ks.length < 64 ∧ ∀ ys : List Str, ys.Perm ks → sortedS ys = true → Q (.lst (ys.map D.str)) ρ
  | _ => False
theorem repL_strs {S : Hp} : ∀ (ys : List Str), RepL K S (ys.map D.str) (ys.map V.str)
  | [] => by simp only [List.map_nil, RepL]
  | y :: ys => by
    simp only [List.map_cons, RepL, Rep]
    exact ⟨_, _, rfl, rfl, repL_strs ys⟩
theorem repK_fst {S : Hp} : ∀ {kvs : List (Key × D)} {ws : List (Key × V)}, RepK K S kvs ws → ws.map (·.1) = kvs.map (·.1)
  | [], ws, h => by simp only [RepK] at h; subst h; rfl
  | (k, d) :: kvs, ws, h => by
    simp only [RepK] at h
    obtain ⟨v, r, rfl, _, h2⟩ := h
    simp only [List.map_cons, repK_fst h2]
theorem s_sort : Sims K (rSortX K) aSort := by
  intro c τ S H σ ρ vs xs Q R hl s q k
  obtain ⟨x, d, rfl, h1, q⟩ := q
  obtain ⟨v, rfl, s1⟩ := one_arg hl s
  obtain ⟨y0, g0, r0, e0⟩ := s1.thing (List.mem_cons_self ..) h1
  cases d with
  | lst ds =>
    obtain ⟨p, vs, rfl, h3, h4⟩ := repA_lst r0 e0 s1.le
    obtain ⟨q1, q2, q3, q4⟩ := q
    refine .inl ⟨p, vs, ds, Rep K S, rfl, h3, eachT_rep.mpr h4, fun d v r => Rep.le s1.le d v r, q1, q2, q3, fun vs' p' hv hp => ?_⟩
    exact k _ _ ⟨S, ρ, _, s1.drop.newList hp (eachT_rep.mp hv), q4⟩
  | dic kvs =>
    obtain ⟨p, ws, rfl, h3, h4⟩ := repA_dic r0 e0 s1.le
    obtain ⟨ks, q1, q2, q3⟩ := q
    refine .inr ⟨p, ws, ks, rfl, h3, (repK_fst h4).trans q1, q2, fun ys p' hy1 hy2 hp => ?_⟩
    exact k _ _ ⟨S, ρ, _, s1.drop.newList hp (repL_strs ys), q3 ys hy1 hy2⟩
  | _ => cases q
/-! ### len of an own class -/
structure LenC (Pr : Program) (w : World) (K : Fg) (mg : Str → Option Value) (base : Heap) (C : Addr) (k : Nat) (sp : ASp) : Prop where
  ex : ∃ f fd ps, PySem.W.findIn K (.ref C) "__len__" = some (some (.ref f)) ∧ PySem.W.isFn K (.ref f) = true ∧ Binds K fd ps [] ∧ Fok Pr w K mg base k f fd ps sp
def rLenO (K : Fg) (C : Addr) (sp : ASp) : List V → Hp → VK → Prop := fun xs H Q => ∃ a dx fs, xs = [.ref a] ∧ H a = some (.ins C dx fs) ∧ lift K sp xs H (fun v H' => ∃ n : Int, v = .int n ∧ 0 ≤ n ∧ n < 2 ^ 63 ∧ Q (.int n) H') (fun _ _ _ => False)
theorem cr_lenO {C : Addr} {k : Nat} {sp : ASp} (T : LenC X.prog X.w X.K X.mg X.base C k sp) (hr : Room (k + 1) X.A) : CallR X (.builtin "len") (rLenO X.K C sp) := by
  intro pins s σ H xs us Q I r h
  obtain ⟨a, dx, fs, rfl, ha, h⟩ := h
  obtain ⟨u, rfl, ru⟩ := vals1 r
  obtain rfl : u = Value.ref a := ru
  obtain ⟨f, fd, ps, hs, hf, hbd, F⟩ := T.ex
  obtain ⟨mA, J, _⟩ := ins_get I.hok ha
  obtain ⟨od, J, _⟩ := J.look
  obtain ⟨m, hF⟩ := I.fr
  refine PySem.W.len_K hF I.ok.mod.kin J hs hf ?_
  refine thn (run_at F hr.in1 rfl hbd I (us := [.ref a]) (vs := [.ref a]) (.cons rfl .nil) h) fun u s1 hu => ?_
  obtain ⟨v, H', I', rv, n, rfl, n0, n1, q⟩ := hu
  obtain ⟨t, rfl⟩ := (show ∃ t, u = Value.int n t from rv)
  exact ⟨⟨n0, n1⟩, .int n, H', I'.tok _, ⟨_, rfl⟩, q⟩
def aLenO (C : Addr) (sp : ASp) : ARs := fun xs ρ Q => ∃ x, xs = [x] ∧ (∃ fs, dat x ρ = some (.obj C fs)) ∧ callA sp [x] noX ρ fun r ρ' => ∃ n : Int, r = .v (.int n) ∧ 0 ≤ n ∧ n < 2 ^ 63 ∧ Q (.v (.int n)) ρ'
theorem s_lenO {C : Addr} {sp : ASp} : Sims K (rLenO K C sp) (aLenO C sp) := by
  intro c τ S H σ ρ vs xs Q R hl s q k
  obtain ⟨x, rfl, ⟨fs, h1⟩, h3⟩ := q
  obtain ⟨v, rfl, s1⟩ := one_arg hl s
  have r1 := s1.dat (List.mem_cons_self ..) h1
  simp only [Rep] at r1
  obtain ⟨a, dx, ws, rfl, a1, _⟩ := r1
  refine ⟨a, dx, ws, rfl, a1, ?_⟩
  refine lift_mono (call_sim (W := fun _ _ _ _ => False) (EA := noX) xok_no rfl s h3) (fun v H' hv => ?_) fun _ _ _ h => h
  obtain ⟨S', ρ', r, s3, n, rfl, n0, n1, q⟩ := hv
  have rv := s3.data
  simp only [Rep] at rv
  exact ⟨n, rv, n0, n1, k _ _ (KE.sc s3.drop rfl q)⟩
/-! ### max, min of a list of numbers -/
def aMaxL : ARs := fun xs ρ Q => ∃ x, ∃ ns : List Int, xs = [x] ∧ dat x ρ = some (.lst (ns.map D.int)) ∧ 0 < ns.length ∧ ∀ m, m ∈ ns → (∀ y, y ∈ ns → y ≤ m) → Q (.v (.int m)) ρ
def aMinL : ARs := fun xs ρ Q => ∃ x, ∃ ns : List Int, xs = [x] ∧ dat x ρ = some (.lst (ns.map D.int)) ∧ 0 < ns.length ∧ ∀ m, m ∈ ns → (∀ y, y ∈ ns → m ≤ y) → Q (.v (.int m)) ρ
theorem repL_ints {S : Hp} : ∀ {ns : List Int} {vs : List V}, RepL K S (ns.map D.int) vs → vs = ns.map V.int
  | [], vs, h => by simpa only [List.map_nil, RepL] using h
  | n :: ns, vs, h => by
    simp only [List.map_cons, RepL, Rep] at h
    obtain ⟨v, r, rfl, rfl, h2⟩ := h
    rw [repL_ints h2]
    rfl
theorem s_maxL : Sims K (rMax K) aMaxL := by
  intro c τ S H σ ρ vs xs Q R hl s q k
  obtain ⟨x, ns, rfl, h1, h2, q⟩ := q
  obtain ⟨v, rfl, s1⟩ := one_arg hl s
  obtain ⟨y0, g0, r0, e0⟩ := s1.thing (List.mem_cons_self ..) h1
  obtain ⟨p, vs, rfl, h3, h4⟩ := repA_lst r0 e0 s1.le
  rw [repL_ints h4] at h3
  exact ⟨p, ns, rfl, h3, h2, fun m hm hy => k _ _ (KE.sc s1.drop rfl (q m hm hy))⟩
theorem s_minL : Sims K (rMin K) aMinL := by
  intro c τ S H σ ρ vs xs Q R hl s q k
  obtain ⟨x, ns, rfl, h1, h2, q⟩ := q
  obtain ⟨v, rfl, s1⟩ := one_arg hl s
  obtain ⟨y0, g0, r0, e0⟩ := s1.thing (List.mem_cons_self ..) h1
  obtain ⟨p, vs, rfl, h3, h4⟩ := repA_lst r0 e0 s1.le
  rw [repL_ints h4] at h3
  exact ⟨p, ns, rfl, h3, h2, fun m hm hy => k _ _ (KE.sc s1.drop rfl (q m hm hy))⟩
end
end Vs

set_option Elab.async false
set_option linter.all false
set_option maxRecDepth 100000
set_option maxHeartbeats 1000000
/-! Vs: the pairs of a dict. -/
namespace Vs
open PySem PySem.Spec PyProof.Rows L2
def pairD (p : Key × D) : D := .tup [keyOf p.1, p.2]
section
variable {X : Cx} {P : Pm} {K : Fg} {pos : Pos}
theorem keyOf_rep {S : Hp} (k : Key) : Rep K S (keyOf k) (kV k) := by
  cases k <;> simp only [keyOf, kV, Rep]
theorem RepK.get0 {S : Hp} : ∀ {kvs : List (Key × D)} {ws : List (Key × V)} {i : Nat} {k : Key} {v : V}, RepK K S kvs ws → ws[i]? = some (k, v) → ∃ d, kvs[i]? = some (k, d) ∧ Rep K S d v
  | [], ws, i, k, v, h, e => by
    simp only [RepK] at h
    subst h
    simp at e
  | (k', d) :: kvs, ws, i, k, v, h, e => by
    simp only [RepK] at h
    obtain ⟨u, r, rfl, h1, h2⟩ := h
    cases i with
    | zero =>
      have e' : (k', u) = (k, v) := by simpa using e
      cases e'
      exact ⟨d, by simp, h1⟩
    | succ i =>
      obtain ⟨d', a1, a2⟩ := RepK.get0 h2 (i := i) (by simpa using e)
      exact ⟨d', by simpa using a1, a2⟩
/-- the pairs of a locked dict -/
theorem itOk_items {c : Ctx} {d : Addr} {o : Obj} {kvs : List (Key × D)} {ws : List (Key × V)} (hR : c.R d = some (.frz o (.dK ws))) (hr : RepK K c.S0 kvs ws) : ItOk K c (Iti d o ws) (kvs.map pairD) fun _ => True := fun S H σ ρ τ s _ => by
  have hd : H d = some (.frz o (.dK ws)) := s.r d _ hR
  have hlen := hr.len
  refine ⟨fun i e he => ?_, fun i hi => ⟨hd, by rw [List.length_map] at hi; omega⟩⟩
  rw [List.getElem?_map] at he
  cases ek : kvs[i]? with
  | none => rw [ek] at he; cases he
  | some p =>
    rw [ek] at he
    have hi : i < kvs.length := lt_of_get ek
    refine ⟨⟨hd, by omega⟩, fun v H' ⟨T, k, u, h1, h2, h3, h4⟩ => ?_⟩
    subst h2 h4
    obtain ⟨d', a1, a2⟩ := hr.get0 h1
    rw [ek] at a1
    cases a1
    have e1 := (Option.some.inj he).symm
    subst e1
    have f1 := (s.fresh h3).1
    refine ⟨_, s.share (o := .tup [kV k, u]) (d := pairD (k, d')) h3 ?_⟩
    simp only [pairD, Rep]
    refine ⟨T, [kV k, u], rfl, SqT.of upd_same, ?_⟩
    simp only [RepL]
    exact ⟨_, _, rfl, keyOf_rep k, _, _, rfl, Rep.le (Le.of_same (fun a o e => Same.up f1 a o (s.up a o e))) d' u a2, rfl⟩
/-! ### a dict just made -/
def iItemsX (td : TE) : TI := fun σ H R => td σ H fun x H1 => ∃ d kvs, x = .ref d ∧ H1 d = some (.dK kvs) ∧ ∀ o, R (Iti d o kvs) (upd H1 d (.frz o (.dK kvs)))
theorem pi_itemsX {e : Expr} {td : TE} {apos cpos tpos : Pos} {elts : List Expr} {kk : Nat} (he : PE X e td) (hbase : attributeBase e "items" X.env (eval e X.env) = eval e X.env := by rfl) (hline : (apos.endLine == cpos.line) = true := by rfl) :
    PI X (.Tuple elts kk tpos) (.Call (.Attribute e "items" apos) [] [] cpos) (iItemsX td) := by
  refine ⟨fun pins s σ H R I h => ?_⟩
  refine wpAny_Call_method (T := "dict") (id := "dict.items") hbase rfl hline F.plainAttrs_dict F.slot_dict_items F.type_dict_items (thn (he.run pins s σ H _ I h) fun u s1 ⟨x, H1, I0, rx, d, kvs, ex, hd0, q0⟩ => ?_)
  subst ex
  obtain rfl : u = Value.ref d := rx
  obtain ⟨o, I1⟩ := I0.lock hd0 trivial
  have hd : (upd H1 d (.frz o (.dK kvs))) d = some (.frz o (.dK kvs)) := upd_same
  have q := q0 o
  obtain ⟨hs, hgd, hx, es, ep, vs, hdt, hsz, kv, hm⟩ := I1.frzK hd
  have hl : kvs.length = vs.length := Paired.length kv
  refine ⟨hm.dictOf.typeIs, hm.dictOf.mapOf.noDict, ?_⟩
  have I2 : Inv X pins σ (upd H1 d (.frz o (.dK kvs))) { s1 with heap := s1.heap.push { cls := .type "dict_items", data := .fields #[.ref d] } } := I1.kept (t' := s1.toks) fun b ob q => Heap.get?_push_of_some _ q
  have fin : wpAny (model X.prog X.w) X.A (pyIter (.ref s1.heap.objs.size)) (PIE X pins σ (.Tuple elts kk tpos) R) X.xe { s1 with heap := s1.heap.push { cls := .type "dict_items", data := .fields #[.ref d] } } := by
    refine wpAny_pyIter_items (d := d) (knd := mixKind X.prog X.w) ⟨_, Heap.get?_push_size _ rfl, rfl, rfl⟩ (hm.push _) (pi_one (tk := s1.toks) I2 _ (turn_items _ hdt) ⟨.none, .none, ?_⟩ q)
    rw [hl]
    exact Heap.get?_push_size _ rfl
  show wpAny _ _ (callWith cpos (.builtin "dict.items") [.ref d] [] []) _ X.xe s1
  exact method_meetsIn F.slot_dict_items F.entry_dict_items rfl (PySem.evalArgs_none ⟨rfl, hm.dictOf.typeIs, F.args_dict_items_1 _, _, meets_dict_items (mixKind X.prog X.w) d hs, ⟨vs, hm.dictOf⟩, fin⟩)
def aiItemsT (ae : AE) : AI := fun EA ρ Q => ae EA ρ fun x ρ1 => ∃ kvs, x = .dic kvs ∧ Q (kvs.map pairD) (fun _ => True) ρ1
theorem Stt.lockTop {c : Ctx} {S H : Hp} {σ : L2.St} {ρ : AEnv} {τ : List (V × A)} {d : Addr} {kvs : List (Key × D)} (s : Stt K c S H σ ρ ((.ref d, .dic kvs) :: τ)) : ∃ ws, H d = some (.dK ws) ∧ RepK K S kvs ws ∧ ∀ o, Stt K ⟨upd c.R d (.frz o (.dK ws)), S, c.os⟩ S (upd H d (.frz o (.dK ws))) σ ρ τ ∧ Reb K c ⟨upd c.R d (.frz o (.dK ws)), S, c.os⟩ := by
  obtain ⟨g, h, r1, r2, nd, h3⟩ := s.top rfl
  obtain ⟨d', ws, e1, hd, rk, eg⟩ := r1.dic_inv
  cases e1
  subst eg
  have np : d ∉ h := fun z => (List.nodup_append.mp nd).2.2 d (List.mem_cons_self ..) d z rfl
  have Sd : S d = none := (h3 d (by simp)).1
  have Rd' : c.R d = none := (h3 d (by simp)).2
  refine ⟨ws, hd, rk, fun o => ⟨⟨⟨h, r2.keep (Same.refl S) fun a ha => upd_ne (fun z => np (z ▸ ha)), (List.nodup_append.mp nd).2.1, fun a ha => ⟨(h3 a (List.mem_append_right _ ha)).1, ?_⟩⟩, s.env, fun v' i m => s.loc v' i (List.mem_cons_of_mem _ m), s.le.up Sd, fun a u e => ?_, fun a ha => rfl, Same.refl S, s.os⟩, rfl, fun {S2 H2 σ2 ρ2 τ2} t => ?_⟩⟩
  · have hne : a ≠ d := fun z => np (z ▸ ha)
    show upd c.R d _ a = none
    rw [upd_ne hne]
    exact (h3 a (List.mem_append_right _ ha)).2
  · by_cases q : a = d
    · subst q
      have e' : upd c.R a (.frz o (.dK ws)) a = some u := e
      rw [upd_same] at e'
      rw [upd_same]
      exact e'
    · have e' : upd c.R d (.frz o (.dK ws)) a = some u := e
      rw [upd_ne q] at e'
      rw [upd_ne q]
      exact s.r a u e'
  · refine ⟨?_, t.env, t.loc, t.le, fun a u e => t.r a u ?_, fun a ha => ?_, fun a u e => t.up a u (s.up a u e), t.os⟩
    · obtain ⟨fp, b1, b2, b3⟩ := t.own
      refine ⟨fp, b1, b2, fun a ha => ⟨(b3 a ha).1, ?_⟩⟩
      have := (b3 a ha).2
      by_cases q : a = d
      · rw [q]; exact Rd'
      · have e' : upd c.R d (.frz o (.dK ws)) a = none := this
        rw [upd_ne q] at e'
        exact e'
    · show upd c.R d (.frz o (.dK ws)) a = some u
      rw [upd_ne (ne_of_none e Rd')]
      exact e
    · have nd' : a ≠ d := fun z => ha (z ▸ Rd')
      have h1 : S2 a = S a := t.new a (by show upd c.R d _ a ≠ none; rw [upd_ne nd']; exact ha)
      exact h1.trans (s.new a ha)
theorem qi_itemsT {e : Expr} {ae : AE} {apos cpos tpos : Pos} {elts : List Expr} {kk : Nat} (he : QE X P e ae) (hbase : attributeBase e "items" X.env (eval e X.env) = eval e X.env := by rfl) (hline : (apos.endLine == cpos.line) = true := by rfl) :
    QI X P (.Tuple elts kk tpos) (.Call (.Attribute e "items" apos) [] [] cpos) (aiItemsT ae) := by
  obtain ⟨t, p, s⟩ := he.ex
  refine ⟨_, pi_itemsX p hbase hline, fun c EA ho hw τ S H σ ρ Q R st q k => s c EA ho hw τ S H σ ρ _ _ st q fun v H1 ⟨S1, ρ1, x, s1, kvs, ex, q1⟩ => ?_⟩
  subst ex
  obtain ⟨g, h, r1, _, _, _⟩ := s1.top rfl
  obtain ⟨d, ws0, rfl, _, _, _⟩ := r1.dic_inv
  obtain ⟨ws, hd, rk, lk⟩ := s1.lockTop
  refine ⟨d, ws, rfl, hd, fun o => ?_⟩
  obtain ⟨s2, rb⟩ := lk o
  exact k _ _ _ S1 ρ1 _ _ rb s2 (itOk_items upd_same rk) q1
/-! ### for .. in name.items(), the name's dict shared -/
def asForItems (i : Nat) (ag : AG) (ab : AS) : AS := fun DA ρ => ∃ kvs, ρ[i]? = some (some (.v (.dic kvs))) ∧ forA (fun _ => True) ag ab { DA with ex := noX } (kvs.map pairD) ρ
theorem ps_or {st : Stmt} {t u : TS} (h : PS X st t) (h2 : PS X st u) : PS X st (fun D σ H => t D σ H ∨ u D σ H) := ⟨fun pins s σ H D I h' => h'.elim (fun z => h.run pins s σ H D I z) fun z => h2.run pins s σ H D I z⟩
/-- the loop over a locked dict that a context keeps -/
theorem for_items {c : Ctx} {S1 H1 : Hp} {σ : L2.St} {ρ1 : AEnv} {d : Addr} {o : Obj} {kvs : List (Key × D)} {ws : List (Key × V)} {g : TG} {tb : TS} {ag : AG} {ab : AS} {vs : List Nat} {D : Ends} {DA : AEnds} (ho : OsIn c P.O) (hR : c.R d = some (.frz o (.dK ws))) (hr : RepK K c.S0 kvs ws) (sg : SimG K P g ag vs) (sb : SimS K P tb ab) (hw : XOk K c P.W DA.ex) (l : Link K c D DA)
    (s1 : Stt K c S1 H1 σ ρ1 []) (q1 : forA (fun _ => True) ag ab DA (kvs.map pairD) ρ1) : ∃ W : Nat → Nat → L2.St → Hp → Prop, (∃ m, W 0 m σ H1) ∧ ∀ i m σ H, W i m σ H →
  ((Iti d o ws).stop i H ∧ D.nx σ H) ∨ ((Iti d o ws).go i H ∧ ∃ N : L2.St → Hp → Prop, (∀ σ' H', N σ' H' → ∃ m', m' < m ∧ W (i + 1) m' σ' H') ∧ ∀ x H', (Iti d o ws).yld i H x H' → g x σ H' fun σ2 H2 => tb { D with nx := N, ct := N, bk := D.nx } σ2 H2) := by
  have hJ := itOk_items hR hr
  refine ⟨fun i m σ H => ∃ S ρ, Stt K c S H σ ρ [] ∧ i + m = (kvs.map pairD).length ∧ forA (fun _ => True) ag ab DA ((kvs.map pairD).drop i) ρ, ⟨(kvs.map pairD).length, S1, ρ1, s1, by omega, by simpa using q1⟩, ?_⟩
  rintro i m σ2 H2 ⟨S2, ρ2, s2, hm, q2⟩
  by_cases hlt : i < (kvs.map pairD).length
  · have e : (kvs.map pairD).drop i = (kvs.map pairD)[i] :: (kvs.map pairD).drop (i + 1) := List.drop_eq_getElem_cons hlt
    rw [e] at q2
    obtain ⟨hG, q2⟩ := q2
    obtain ⟨h1, h2⟩ := (hJ S2 H2 σ2 ρ2 [] s2 hG).1 i _ (List.getElem?_eq_getElem hlt)
    refine .inr ⟨h1, fun σ' H' => ∃ S ρ, Stt K c S H' σ' ρ [] ∧ forA (fun _ => True) ag ab DA ((kvs.map pairD).drop (i + 1)) ρ, fun σ' H' ⟨S', ρ', a1, a2⟩ => ⟨m - 1, by omega, S', ρ', a1, by omega, a2⟩, fun x H' hy => ?_⟩
    obtain ⟨S3, s3⟩ := h2 x H' hy
    refine sg c ho [] S3 H' σ2 ρ2 x _ _ _ s3 (fun _ _ m => by simp at m) q2 fun σ' ρ' s4 _ q4 => ?_
    exact sb c { D with nx := fun σ' H' => ∃ S ρ, Stt K c S H' σ' ρ [] ∧ forA (fun _ => True) ag ab DA ((kvs.map pairD).drop (i + 1)) ρ, ct := fun σ' H' => ∃ S ρ, Stt K c S H' σ' ρ [] ∧ forA (fun _ => True) ag ab DA ((kvs.map pairD).drop (i + 1)) ρ, bk := D.nx } { DA with nx := forA (fun _ => True) ag ab DA ((kvs.map pairD).drop (i + 1)), ct := forA (fun _ => True) ag ab DA ((kvs.map pairD).drop (i + 1)), bk := DA.nx } ho hw
      ⟨fun S H σ ρ a b => ⟨S, ρ, a, b⟩, l.rt, l.nx, fun S H σ ρ a b => ⟨S, ρ, a, b⟩⟩ S3 H' σ' ρ' s4 q4
  · have e : (kvs.map pairD).drop i = [] := List.drop_eq_nil_of_le (by omega)
    rw [e] at q2
    exact .inl ⟨(hJ S2 H2 σ2 ρ2 [] s2 q2.1).2 i (by omega), l.nx S2 H2 σ2 ρ2 s2 q2.2⟩
theorem qs_forItems (i : Nat) {x : Str} {elts : List Expr} {kk : Nat} {tpos np apos cpos : Pos} {body : List Stmt} {ag : AG} {ab : AS} {vs : List Nat} (hp : PassesOwn (model X.prog X.w) X.A X.env X.xe) (hc : X.calm = true) (hg : QG X P (.Tuple elts kk tpos) ag vs) (hb : QSs X P body ab)
    (hN : X.N[i]? = some x := by rfl) (hv : Vis X.env.scope x := by first | exact Or.inl rfl | exact Or.inr (Or.inl rfl) | exact Or.inr (Or.inr rfl)) (hd : (x == ("__debug__" : Str)) = false := by decide) (hcd : (x == ("__classdict__" : Str)) = false := by decide)
    (hbase : attributeBase (.Name x np) "items" X.env (eval (.Name x np) X.env) = eval (.Name x np) X.env := by rfl) (hline : (apos.endLine == cpos.line) = true := by rfl) (hs : ∀ y, foldedSetIterable (.Call (.Attribute (.Name x np) "items" apos) [] [] cpos) X.env y = pure y := by intro _; rfl) :
    QS X P (.For (.Tuple elts kk tpos) (.Call (.Attribute (.Name x np) "items" apos) [] [] cpos) body [] pos) (asForItems i ag ab) := by
  obtain ⟨g, pg, sg⟩ := hg.ex
  obtain ⟨tb, pb, sb⟩ := hb.ex
  have pf := ps_for (pos := pos) hp hc (pi_items (elts := elts) (kk := kk) (tpos := tpos) (pe_var hN hv hd hcd) hbase hline) pg pb hs
  refine ⟨_, ps_or (ps_lock pf) pf, fun c D DA ho hw l S H σ ρ st ⟨kvs, hi, q⟩ => ?_⟩
  obtain ⟨v, hv', rv⟩ := st.slot hi
  simp only [Rep] at rv
  obtain ⟨d, ws, rfl, hrd, rk⟩ := rv
  have xno : ∀ {c2 : Ctx}, XOk X.K c2 P.W noX := fun {c2} _ _ _ _ _ _ _ _ _ h => h.elim
  have Sd : S d ≠ none := by
    rcases hrd with h | ⟨o, h⟩ <;> rw [h] <;> simp
  have hcase : (∃ o, H d = some (.frz o (.dK ws))) ∨ (S d = some (.dK ws) ∧ H d = some (.dK ws)) := by
    rcases hrd with h | ⟨o, h⟩
    · rcases st.le d _ h with z | ⟨ob, w', e1, z⟩
      · exact .inr ⟨h, z⟩
      · cases e1
        exact .inl ⟨ob, z⟩
    · rcases st.le d _ h with z | ⟨ob, w', e1, z⟩
      · exact .inl ⟨o, z⟩
      · cases e1
  obtain ⟨fp, f1, f2, f3⟩ := st.own
  have nfp : ∀ a ∈ fp, a ≠ d := fun a ha z => Sd (z ▸ (f3 a ha).1)
  rcases hcase with ⟨o, hH⟩ | ⟨hS, hH⟩
  · refine .inr ⟨.ref d, hv', d, o, ws, rfl, hH, ?_⟩
    have s2 : Stt X.K ⟨upd c.R d (.frz o (.dK ws)), S, c.os⟩ S H σ ρ [] := by
      refine ⟨⟨fp, f1, f2, fun a ha => ⟨(f3 a ha).1, ?_⟩⟩, st.env, st.loc, st.le, fun a u e => ?_, fun _ _ => rfl, Same.refl S, st.os⟩
      · show upd c.R d _ a = none
        rw [upd_ne (nfp a ha)]
        exact (f3 a ha).2
      · have e' : upd c.R d (.frz o (.dK ws)) a = some u := e
        by_cases q : a = d
        · rw [q, upd_same] at e'
          rw [q, hH]
          exact e'
        · rw [upd_ne q] at e'
          exact st.r a u e'
    have back : ∀ {S2 H2 : Hp} {σ2 : L2.St} {ρ2 : AEnv} {τ2 : List (V × A)}, Stt X.K ⟨upd c.R d (.frz o (.dK ws)), S, c.os⟩ S2 H2 σ2 ρ2 τ2 → Stt X.K c S2 H2 σ2 ρ2 τ2 := fun {S2 H2 σ2 ρ2 τ2} t => by
      refine ⟨?_, t.env, t.loc, t.le, fun a u e => t.r a u ?_, fun a ha => ?_, fun a u e => t.up a u (st.up a u e), t.os⟩
      · obtain ⟨gp, b1, b2, b3⟩ := t.own
        refine ⟨gp, b1, b2, fun a ha => ⟨(b3 a ha).1, ?_⟩⟩
        have e' : upd c.R d (.frz o (.dK ws)) a = none := (b3 a ha).2
        by_cases q : a = d
        · rw [q, upd_same] at e'; cases e'
        · rw [upd_ne q] at e'; exact e'
      · show upd c.R d (.frz o (.dK ws)) a = some u
        by_cases q : a = d
        · subst q
          have := st.r a u e
          rw [hH] at this
          rw [upd_same]; exact this
        · rw [upd_ne q]; exact e
      · have h1 : S2 a = S a := t.new a (by
          show upd c.R d (.frz o (.dK ws)) a ≠ none
          by_cases q : a = d
          · rw [q, upd_same]; simp
          · rw [upd_ne q]; exact ha)
        exact h1.trans (st.new a ha)
    exact for_items (c := ⟨upd c.R d (.frz o (.dK ws)), S, c.os⟩) (DA := { DA with ex := noX }) ho upd_same rk sg sb xno ⟨fun S H σ ρ a => l.nx S H σ ρ (back a), fun S H σ ρ v x a => l.rt S H σ ρ v x (back a), fun S H σ ρ a => l.bk S H σ ρ (back a), fun S H σ ρ a => l.ct S H σ ρ (back a)⟩ s2 q
  · refine .inl ⟨d, .dK ws, hH, trivial, fun od => ⟨.ref d, hv', d, od, ws, rfl, upd_same, ?_⟩⟩
    have s2 : Stt X.K ⟨upd c.R d (.frz od (.dK ws)), S, c.os⟩ S (upd H d (.frz od (.dK ws))) σ ρ [] := by
      refine ⟨⟨fp, f1.keep (Same.refl S) fun a ha => upd_ne (nfp a ha), f2, fun a ha => ⟨(f3 a ha).1, ?_⟩⟩, st.env, st.loc, fun a u e => ?_, fun a u e => ?_, fun _ _ => rfl, Same.refl S, st.os⟩
      · show upd c.R d _ a = none
        rw [upd_ne (nfp a ha)]
        exact (f3 a ha).2
      · by_cases q : a = d
        · rw [q, hS] at e
          cases e
          exact .inr ⟨od, ws, rfl, by rw [q]; exact upd_same⟩
        · rw [upd_ne q]
          exact st.le a u e
      · have e' : upd c.R d (.frz od (.dK ws)) a = some u := e
        by_cases q : a = d
        · rw [q, upd_same] at e' ⊢
          exact e'
        · rw [upd_ne q] at e' ⊢
          exact st.r a u e'
    have back : ∀ {S2 H2 : Hp} {σ2 : L2.St} {ρ2 : AEnv} {τ2 : List (V × A)}, Stt X.K ⟨upd c.R d (.frz od (.dK ws)), S, c.os⟩ S2 H2 σ2 ρ2 τ2 → H2 d = some (.frz od (.dK ws)) ∧ Stt X.K c S2 (upd H2 d (.dK ws)) σ2 ρ2 τ2 := fun {S2 H2 σ2 ρ2 τ2} t => by
      have c2d : (⟨upd c.R d (.frz od (.dK ws)), S, c.os⟩ : Ctx).R d = some (.frz od (.dK ws)) := upd_same
      have s2d : S2 d = S d := t.new d (by rw [c2d]; simp)
      refine ⟨t.r d _ c2d, ?_, t.env, t.loc, fun a u e => ?_, fun a u e => ?_, fun a ha => ?_, fun a u e => t.up a u (st.up a u e), t.os⟩
      · obtain ⟨gp, b1, b2, b3⟩ := t.own
        have ngp : ∀ a ∈ gp, a ≠ d := fun a ha z => Sd (by rw [← s2d, ← z]; exact (b3 a ha).1)
        refine ⟨gp, b1.keep (Same.refl S2) fun a ha => upd_ne (ngp a ha), b2, fun a ha => ⟨(b3 a ha).1, ?_⟩⟩
        have e' : upd c.R d (.frz od (.dK ws)) a = none := (b3 a ha).2
        rw [upd_ne (ngp a ha)] at e'
        exact e'
      · by_cases q : a = d
        · rw [q, s2d, hS] at e
          cases e
          exact .inl (by rw [q]; exact upd_same)
        · rw [upd_ne q]
          exact t.le a u e
      · by_cases q : a = d
        · subst q
          have := st.r a u e
          rw [hH] at this
          rw [upd_same]
          exact this
        · rw [upd_ne q]
          exact t.r a u (by show upd c.R d _ a = some u; rw [upd_ne q]; exact e)
      · have h1 : S2 a = S a := t.new a (by
          show upd c.R d (.frz od (.dK ws)) a ≠ none
          by_cases q : a = d
          · rw [q, upd_same]; simp
          · rw [upd_ne q]; exact ha)
        exact h1.trans (st.new a ha)
    exact for_items (c := ⟨upd c.R d (.frz od (.dK ws)), S, c.os⟩) (DA := { DA with ex := noX }) ho upd_same rk sg sb xno ⟨fun S H σ ρ a b => ⟨(back a).1, l.nx S _ σ ρ (back a).2 b⟩, fun S H σ ρ v x a b e => ⟨(back a).1, l.rt S _ σ ρ v x (back a).2 b e⟩, fun S H σ ρ a b => ⟨(back a).1, l.bk S _ σ ρ (back a).2 b⟩, fun S H σ ρ a b => ⟨(back a).1, l.ct S _ σ ρ (back a).2 b⟩⟩ s2 q
end
end Vs

set_option Elab.async false
set_option linter.all false
set_option maxRecDepth 100000
set_option maxHeartbeats 1000000
/-! Vs: enumerate of a list or a tuple. -/
namespace Vs
open PySem PySem.Spec PyProof.Rows L2
theorem meets_enum1 {v : Value} {o : Obj} {H : Heap → Prop} (B : Begins v o H) :
    Meets (Builtin.«enumerate.__new__» ⟨[.type "enumerate", v], []⟩) (fun _ R s => H s.heap ∧
      R (.ok (.ret (.ref (s.heap.push o).objs.size))) { s with heap := (s.heap.push o).push { cls := .type "enumerate", data := .fields #[.none, .bool false, .ref s.heap.objs.size, rawInt 0, .none, .none] } }) :=
  .of_wp fun prog w A R s h => by
    obtain ⟨hp, g, d, tk, os⟩ := s; obtain ⟨h1, h⟩ := h
    have hsub := sub_enumerate
    have q1 : ∀ {A' : Around} {E : Value → Shared → Prop} {Q : Value → Shared → Prop}, Q (.ref hp.objs.size) ⟨hp.push o, g, d, tk, os⟩ → wpAny (model prog w) A' (pyIter v) Q E ⟨hp, g, d, tk, os⟩ :=
      fun q => B.iter prog w _ _ ⟨hp, g, d, tk, os⟩ _ h1 q
    wp_walk using q1
    refine wpAny_stack_any fun st => wpAny_pure ?_
    split
    · rename_i c _ _ _ _ _
      cases (c == Value.type "enumerate")
      · wp_walk using q1
        exact ⟨_, rfl, h⟩
      · wp_walk using q1
        exact ⟨_, rfl, h⟩
    · wp_walk using q1
      exact ⟨_, rfl, h⟩
theorem enum_begins1 {prog : Program} {w : World} {A : Around} {E : Value → Shared → Prop} {s : Shared} {v : Value} {o : Obj} {H : Heap → Prop} {Q : Value → Shared → Prop} (B : Begins v o H) (h1 : H s.heap)
    (h : ∀ h', IsEnum h' (s.heap.objs.size + 1) s.heap.objs.size 0 .none → h'.get? s.heap.objs.size = some o → h'.objs.size = s.heap.objs.size + 2 →
      (∀ b o, s.heap.get? b = some o → h'.get? b = some o) → Q (.ref (s.heap.objs.size + 1)) { s with heap := h' }) :
    wpAny (model prog w) A (call (.type "enumerate") [v]) Q E s := by
  refine callType_new PySem.F.called_enumerate (by decide) (PySem.F.typeCall_enumerate_1 _) (PySem.F.newCall_enumerate_1 _) (fun obj => PySem.F.args_object_init_2 obj _) PySem.F.entry_enumerate_new (meets_enum1 B) ⟨h1, ?_⟩
  have hz : (s.heap.push o).objs.size = s.heap.objs.size + 1 := Heap.size_push ..
  show _ ∧ _
  rw [hz]
  have he : IsEnum ((s.heap.push o).push { cls := .type "enumerate", data := .fields #[.none, .bool false, .ref s.heap.objs.size, rawInt 0, .none, .none] }) (s.heap.objs.size + 1) s.heap.objs.size 0 .none := by
    have := Heap.get?_push_size (s.heap.push o) (o := { cls := .type "enumerate", data := .fields #[.none, .bool false, .ref s.heap.objs.size, rawInt 0, .none, .none] }) rfl
    rw [hz] at this; exact this
  refine ⟨⟨_, he, rfl⟩, h _ he (Heap.get?_push_of_some _ (Heap.get?_push_size _ B.free)) (by rw [Heap.size_push, hz]) fun b o x => Heap.get?_push_of_some _ (Heap.get?_push_of_some _ x)⟩
/-- the tuple at a, each item in a new pair -/
def IteT (K : Fg) (a : Addr) : It :=
  ⟨fun i H => ∃ (xs : List V) (x : V), SqT K H a xs ∧ xs[i]? = some x, fun i H v H' => ∃ T x, v = .ref T ∧ H T = none ∧ H' = upd H T (.tup [.int (i : Nat), x]) ∧ ∀ xs, SqT K H a xs → xs[i]? = some x, fun i H => ∃ xs : List V, SqT K H a xs ∧ xs.length ≤ i⟩
theorem turn_enumT {P : Program} {w : World} {K : Fg} {elts : List Expr} {kk : Nat} {tpos : Pos} (a e it : Addr) (hae : a ≠ e) (hai : a ≠ it) :
    Turn P w K (.Tuple elts kk tpos) (IteT K a) [e, it] e (fun i h => (∃ old, IsEnum h e it ((i : Nat) : Int) old) ∧ h.IsTupleIter it a i ∧ e ≠ it) where
  mem := by simp
  obj := fun i h st b hb => by
    obtain ⟨⟨old, he⟩, ⟨o, ho, hc, hd⟩, _⟩ := st
    have e' : b = e ∨ b = it := by simpa using hb
    rcases e' with z | z
    · rw [z]; exact ⟨_, he, fun v q => nomatch q⟩
    · rw [z]; exact ⟨o, ho, fun v q => by rw [hd] at q; cases q⟩
  keep := fun i h h' st k => let ⟨⟨old, he⟩, hi, hne⟩ := st; ⟨⟨old, k e (by simp) _ he⟩, hi.at fun o q => k it (by simp) o q, hne⟩
  item := by
    intro X hP hw hK hc i pins s σ H E I hf st hg
    subst hP hw hK
    obtain ⟨⟨old, he⟩, hit, hne⟩ := st
    obtain ⟨xs, x, hq, hx⟩ := hg
    obtain ⟨its, rv, p, hz⟩ := I.tuple hq
    obtain ⟨u, hu, ru⟩ := rv.get hx
    have hel : e < s.heap.objs.size := Heap.lt_size he
    have hil : it < s.heap.objs.size := by obtain ⟨_, q, _⟩ := hit; exact Heap.lt_size q
    have hlen := rv.length
    have hi : i < its.toArray.size := by
      have := lt_of_get hx
      rw [List.size_toArray]; omega
    refine wpAny_pyNext_enum_itemD (Draws.tuple (A := X.A.in1) (show X.A.in1.handled = none from I.ok.hd hc) it a hai its.toArray) he ⟨hit, show s.heap.IsTuple a its.toArray from p⟩ hi hne (by simp only [List.mem_cons, List.not_mem_nil, or_false, not_or]; exact ⟨hne, hae.symm⟩) fun y h' tk hy ho hst' hT hsz hk => ?_
    have ey : y = u := by
      have h1 : its.toArray[i]? = some u := by simpa using hu
      rw [h1] at hy
      exact (Option.some.inj hy).symm
    subst ey
    refine ⟨_, rfl, wpAny_letOwnedTupleGo_enum (s := { s with heap := h', toks := tk + 1 }) ho fun h'' he' sb => ?_⟩
    have hT2 : h''.get? s.heap.objs.size = some { cls := .type "tuple", data := .seq #[.int i tk, y] } := (sb.2 _ (Nat.ne_of_gt hel)).trans hT
    have new : ObjOk X.prog X.w (upd H s.heap.objs.size (.tup [.int (i : Nat), x])) h'' s.heap.objs.size (.tup [.int (i : Nat), x]) :=
      ⟨by show 2 ≤ sizeLine; decide, [.int i tk, y], .cons ⟨_, rfl⟩ (.cons ru .nil), ⟨_, hT2, rfl, _, rfl⟩⟩
    have I1 : Inv X pins σ (upd H s.heap.objs.size (.tup [.int (i : Nat), x])) { s with heap := h'', toks := tk + 1 } :=
      I.turnedNew (ch := [e, it]) (fun b ob hb q => (sb.2 b (fun z => hb (by simp [z]))).trans (hk b ob (fun z => hb (by simp [z])) (fun z => hb (by simp [z])) q)) hf (Nat.le_refl _) new
    refine ⟨.ref s.heap.objs.size, _, I1, rfl, ⟨_, x, rfl, I.hok.fresh (Nat.le_refl _), rfl, fun ys hy => by rw [I.tuple_inj hy hq]; exact hx⟩, ⟨⟨y, ?_⟩, hst'.1.at fun o q => (sb.2 it (Ne.symm hne)).trans q, hne⟩, fun b hb => ?_⟩
    · have e1 : ((i + 1 : Nat) : Int) = (i : Int) + 1 := by omega
      rw [e1]; exact he'
    · have hb' : b < s.heap.objs.size := by
        have e' : b = e ∨ b = it := by simpa using hb
        rcases e' with z | z
        · rw [z]; exact hel
        · rw [z]; exact hil
      rw [upd_ne (Nat.ne_of_lt hb')]
      exact (hf b hb).1
  done := by
    intro X hP hw hK hc i pins s σ H E I hf st hg
    subst hP hw hK
    obtain ⟨⟨old, he⟩, hit, hne⟩ := st
    obtain ⟨xs, hq, hx⟩ := hg
    obtain ⟨its, rv, p, hz⟩ := I.tuple hq
    obtain ⟨f0, f1, f2, f3, f4, f5⟩ := hf it (by simp)
    have hl := rv.length
    have hT : s.TypeIs (.ref e) "enumerate" := ⟨_, he, rfl⟩
    unfold pyNext
    refine wpAny_bind (wpAny_attempt (wpAny_callSpecial?_slot (name := Str.ofString "__next__") hT PySem.F.slot_enumerate_next
      (wpAny_call_entry PySem.F.slot_enumerate_next hT PySem.F.entry_enumerate_next ?_ (PySem.F.args_enumerate_next_1 _))))
    show wpAny _ _ (field (.ref e) 2 >>= _) _ _ _
    refine wpAny_bind (wpAny_field he rfl (x := .ref it) rfl ?_)
    refine wpAny_bind (wpAny_nextOf_tuple_end (show X.A.in1.handled = none from I.ok.hd hc) hit (show s.heap.IsTuple a its.toArray from p) (by simp; omega) fun h' x he' hx' => ?_)
    obtain ⟨o, ho, hcl⟩ := hx'
    refine wpAny_bind (wpAny_isInstance (T := "StopIteration") (b := true) ⟨o, ho, hcl⟩ isSubtype_stop ?_)
    exact wpAny_pure ⟨rfl, I.turned (t' := s.toks) (fun b o hb q => he' b o hb q) f0 f1 f3 f4 f5⟩
  self := fun A i s Q E st h => let ⟨⟨_, he⟩, _⟩ := st; wpAny_pyIter_enum he h
section
variable {X : Cx} {P : Pm} {K : Fg} {pos : Pos}
def iEnumX (K : Fg) (ta : TA) : TI := fun σ H R => ta σ H fun vs H1 => (∃ a xs, vs = [.ref a] ∧ SqL K H1 a xs ∧ R (Ite K a) H1) ∨ ∃ a xs, vs = [.ref a] ∧ SqT K H1 a xs ∧ R (IteT K a) H1
theorem pi_enumX {e : Expr} {ta : TA} {p tpos : Pos} {elts : List Expr} {kk : Nat} (hg : Gl X "enumerate") (hm : X.mg "enumerate" = none) (ha : PA X [e] ta) (hs : starEach [e] X.env = [(false, eval e X.env)] := by rfl) :
    PI X (.Tuple elts kk tpos) (.Call (.Name "enumerate" p) [e] [] pos) (iEnumX X.K ta) := by
  refine ⟨fun pins s σ H R I h => ?_⟩
  refine Call_ (ld_blt I hg hm boot_enumerate (PyProof.Rows.callWith_type1 (thn (ha.run pos pins s σ H _ I h) fun us s1 ⟨vs, H1, I1, r1, q1⟩ => ?_) hs rfl))
  rcases q1 with ⟨a, xs, ex, hq, q⟩ | ⟨a, xs, ex, hq, q⟩
  · subst ex
    cases r1 with
    | cons r rr =>
      cases rr
      cases r
      obtain ⟨its, rv, p', hz⟩ := I1.list hq
      refine call_enumerate_list p'.isList fun h' he hit hsz hk => wpAny_pyIter_enum he ?_
      have I2 : Inv X pins σ H1 { s1 with heap := h' } := I1.kept (t' := s1.toks) hk
      refine ⟨s1.heap.objs.size + 1, [s1.heap.objs.size + 1, s1.heap.objs.size], _, _, H1, rfl, I2, turn_enum a (s1.heap.objs.size + 1) s1.heap.objs.size, ⟨⟨.none, he⟩, hit, Nat.succ_ne_self _⟩, fun b hb => ?_, q⟩
      have e' : b = s1.heap.objs.size + 1 ∨ b = s1.heap.objs.size := by simpa using hb
      have hle : s1.heap.objs.size ≤ b := by
        rcases e' with z | z
        · rw [z]; exact Nat.le_add_right _ _
        · rw [z]; exact Nat.le_refl _
      exact I1.fpOk hle (I1.hok.fresh hle)
  · subst ex
    cases r1 with
    | cons r rr =>
      cases rr
      cases r
      obtain ⟨its, rv, p', hz⟩ := I1.tuple hq
      have hT : s1.heap.IsTuple a its.toArray := p'
      have hlt : a < s1.heap.objs.size := by obtain ⟨o, ho, _⟩ := hT; exact Heap.lt_size ho
      refine enum_begins1 (begins_tuple a its.toArray) hT fun h' he hit hsz hk => wpAny_pyIter_enum he ?_
      have I2 : Inv X pins σ H1 { s1 with heap := h' } := I1.kept (t' := s1.toks) hk
      refine ⟨s1.heap.objs.size + 1, [s1.heap.objs.size + 1, s1.heap.objs.size], _, _, H1, rfl, I2, turn_enumT a (s1.heap.objs.size + 1) s1.heap.objs.size (Nat.ne_of_lt (Nat.lt_succ_of_lt hlt)) (Nat.ne_of_lt hlt), ⟨⟨.none, he⟩, ⟨_, hit, rfl, rfl⟩, Nat.succ_ne_self _⟩, fun b hb => ?_, q⟩
      have e' : b = s1.heap.objs.size + 1 ∨ b = s1.heap.objs.size := by simpa using hb
      have hle : s1.heap.objs.size ≤ b := by
        rcases e' with z | z
        · rw [z]; exact Nat.le_add_right _ _
        · rw [z]; exact Nat.le_refl _
      exact I1.fpOk hle (I1.hok.fresh hle)
/-- the pairs of enumerate -/
def enumD (xs : List D) : List D := xs.zipIdx.map fun p => .tup [.int (p.2 : Nat), p.1]
theorem enumD_at {xs : List D} {i : Nat} {d : D} (h : (enumD xs)[i]? = some d) : ∃ x, xs[i]? = some x ∧ d = .tup [.int (i : Nat), x] := by
  unfold enumD at h
  rw [List.getElem?_map, List.getElem?_zipIdx] at h
  cases e : xs[i]? with
  | none => rw [e] at h; cases h
  | some x =>
    rw [e] at h
    refine ⟨x, rfl, ?_⟩
    have := Option.some.inj h
    simpa using this.symm
def aiEnumR (j : Nat) : AI := fun _ ρ Q => ∃ d xs, dat (.loc j) ρ = some d ∧ (d = .lst xs ∨ d = .tup xs) ∧ Q (enumD xs) (fun ρ => dat (.loc j) ρ = some d) ρ
theorem qi_enumR (j : Nat) {x : Str} {np p tpos : Pos} {elts : List Expr} {kk : Nat} (hg : Gl X "enumerate") (hm : X.mg "enumerate" = none) (hO : j ∈ P.O) (hN : X.N[j]? = some x := by rfl) (hv : Vis X.env.scope x := by first | exact Or.inl rfl | exact Or.inr (Or.inl rfl) | exact Or.inr (Or.inr rfl)) (hd : (x == ("__debug__" : Str)) = false := by decide)
    (hcd : (x == ("__classdict__" : Str)) = false := by decide) (hs : starEach [.Name x np] X.env = [(false, eval (.Name x np) X.env)] := by rfl) (hs2 : starEach [.Name x np] X.env = (false, eval (.Name x np) X.env) :: starEach [] X.env := by rfl) : QI X P (.Tuple elts kk tpos) (.Call (.Name "enumerate" p) [.Name x np] [] pos) (aiEnumR j) := by
  refine ⟨_, pi_enumX hg hm (pa_cons (pe_var hN hv hd hcd) pa_nil hs2) hs, fun c EA ho hw τ S H σ ρ Q R st ⟨d, xs, hd, hx, q⟩ k => ?_⟩
  obtain ⟨v, hv'⟩ := ho.2 j hO
  refine ⟨v, st.os _ hv', ?_⟩
  have slot : ∀ {S H : Hp} {σ : L2.St} {ρ : AEnv} {τ : List (V × A)}, Stt X.K { c with S0 := S } S H σ ρ τ → dat (.loc j) ρ = some d → ∃ y g, RepA X.K S H y v g ∧ y.toD = d := fun {S H σ ρ τ} s hd => by
    obtain ⟨y, hy, e⟩ := dat_loc hd
    obtain ⟨g, ra⟩ := s.slotA hy (s.os _ hv')
    exact ⟨y, g, ra, e⟩
  have slot2 : ∀ {S0 S H : Hp} {σ : L2.St} {ρ : AEnv} {τ : List (V × A)}, Stt X.K { c with S0 := S0 } S H σ ρ τ → dat (.loc j) ρ = some d → ∃ y g, RepA X.K S H y v g ∧ y.toD = d := fun {S0 S H σ ρ τ} s hd => by
    obtain ⟨y, hy, e⟩ := dat_loc hd
    obtain ⟨g, ra⟩ := s.slotA hy (s.os _ hv')
    exact ⟨y, g, ra, e⟩
  obtain ⟨y, g, ra, e⟩ := slot st.rest hd
  rcases hx with rfl | rfl
  · obtain ⟨a, vs, rfl, h1, h2⟩ := repA_lst ra e st.le
    refine .inl ⟨a, vs, rfl, h1, k _ _ _ S ρ _ _ (Reb.rest st) st.rest (fun S2 H2 σ2 ρ2 τ2 s2 hd2 => ?_) q⟩
    obtain ⟨y2, g2, ra2, e2⟩ := slot2 s2 hd2
    obtain ⟨a2, vs2, ea, h3, h4⟩ := repA_lst ra2 e2 s2.le
    cases ea
    refine ⟨fun i z hz => ?_, fun i hi => ⟨vs2, h3, by rw [h4.len]; unfold enumD at hi; simpa using hi⟩⟩
    obtain ⟨x, hx, rfl⟩ := enumD_at hz
    obtain ⟨u, hu, ru⟩ := h4.at0 hx
    refine ⟨⟨vs2, u, h3, hu⟩, fun v H' ⟨T, x', b1, b2, b3, b4⟩ => ?_⟩
    have := b4 vs2 h3
    rw [hu] at this
    cases this
    subst b1 b3
    have f1 := (s2.fresh b2).1
    refine ⟨_, s2.share (o := .tup [.int (i : Nat), u]) (d := .tup [.int (i : Nat), x]) b2 ?_⟩
    simp only [Rep]
    refine ⟨T, _, rfl, SqT.of upd_same, ?_⟩
    simp only [RepL, Rep]
    exact ⟨_, _, rfl, rfl, _, _, rfl, Rep.le (Le.of_same (Same.up f1)) x u ru, rfl⟩
  · obtain ⟨a, vs, rfl, _, h1, h2⟩ := repA_tup ra e st.le
    refine .inr ⟨a, vs, rfl, h1, k _ _ _ S ρ _ _ (Reb.rest st) st.rest (fun S2 H2 σ2 ρ2 τ2 s2 hd2 => ?_) q⟩
    obtain ⟨y2, g2, ra2, e2⟩ := slot2 s2 hd2
    obtain ⟨a2, vs2, ea, _, h3, h4⟩ := repA_tup ra2 e2 s2.le
    cases ea
    refine ⟨fun i z hz => ?_, fun i hi => ⟨vs2, h3, by rw [h4.len]; unfold enumD at hi; simpa using hi⟩⟩
    obtain ⟨x, hx, rfl⟩ := enumD_at hz
    obtain ⟨u, hu, ru⟩ := h4.at0 hx
    refine ⟨⟨vs2, u, h3, hu⟩, fun v H' ⟨T, x', b1, b2, b3, b4⟩ => ?_⟩
    have := b4 vs2 h3
    rw [hu] at this
    cases this
    subst b1 b3
    have f1 := (s2.fresh b2).1
    refine ⟨_, s2.share (o := .tup [.int (i : Nat), u]) (d := .tup [.int (i : Nat), x]) b2 ?_⟩
    simp only [Rep]
    refine ⟨T, _, rfl, SqT.of upd_same, ?_⟩
    simp only [RepL, Rep]
    exact ⟨_, _, rfl, rfl, _, _, rfl, Rep.le (Le.of_same (Same.up f1)) x u ru, rfl⟩
end
end Vs

set_option Elab.async false
set_option linter.all false
set_option maxRecDepth 100000
set_option maxHeartbeats 1000000
/-! Vs: == of dicts with plain values. -/
namespace Vs
open PySem PySem.Spec PyProof.Rows L2
def hitD (ls : List (Key × D)) (p : Key × D) : Bool := match valD ls p.1 with
  | some d => deq p.2 d
  | none => false
def deqK (ks ls : List (Key × D)) : Bool := ks.length == ls.length && ks.all (hitD ls)
def rEqDic (K : Fg) : R2 := fun x y H Q => ∃ a b ks ls, x = .ref a ∧ y = .ref b ∧ Rep K H (.dic ks) x ∧ Rep K H (.dic ls) y ∧ (∀ p ∈ ks, PlD 20 p.2) ∧ (∀ p ∈ ls, PlD 20 p.2) ∧ (ks.map (·.1)).Nodup ∧ Q (.bl (deqK ks ls)) H
section
variable {X : Cx} {P : Pm} {K : Fg}
theorem kv_all {S : Hp} {ls : List (Key × D)} {vb : List (Key × Value)} {e : Key → Bool} : ∀ {ks : List (Key × D)} {ws : List (Key × V)} {va : List (Key × Value)}, RepK K S ks ws → KV ws va → (∀ p ∈ ks, ((valueAt vb p.1).isSome && e p.1) = hitD ls p) → (va.all fun p => (valueAt vb p.1).isSome && e p.1) = ks.all (hitD ls)
  | [], ws, va, h, r, _ => by
    simp only [RepK] at h
    subst h
    cases r
    rfl
  | (k, d) :: ks, ws, va, h, r, hh => by
    simp only [RepK] at h
    obtain ⟨v, r', rfl, h1, h2⟩ := h
    cases r with
    | @cons _ q _ qs hq hr =>
      obtain ⟨hk, _⟩ := hq
      obtain ⟨qk, qv⟩ := q
      have hk' : k = qk := hk
      subst hk'
      simp only [List.all_cons]
      rw [kv_all h2 hr fun p hp => hh p (by simp [hp])]
      have := hh (k, d) (by simp)
      rw [← this]
theorem kv_mem {S : Hp} : ∀ {ks : List (Key × D)} {ws : List (Key × V)} {va : List (Key × Value)} {k : Key} {u : Value}, RepK K S ks ws → KV ws va → (k, u) ∈ va → ∃ d v, (k, d) ∈ ks ∧ RelV v u ∧ Rep K S d v
  | [], ws, va, k, u, h, r, m => by
    simp only [RepK] at h
    subst h
    cases r
    simp at m
  | (k', d) :: ks, ws, va, k, u, h, r, m => by
    simp only [RepK] at h
    obtain ⟨v, r', rfl, h1, h2⟩ := h
    cases r with
    | @cons _ q _ qs hq hr =>
      obtain ⟨hk, hv⟩ := hq
      obtain ⟨qk, qv⟩ := q
      rcases List.mem_cons.mp m with z | z
      · cases z
        have hk' : k' = k := hk
        subst hk'
        exact ⟨d, v, by simp, hv, h1⟩
      · obtain ⟨d', v', a1, a2, a3⟩ := kv_mem h2 hr z
        exact ⟨d', v', by simp [a1], a2, a3⟩
theorem or_eqDic (hu : X.A.units + 64 < cLine) : OpR X (compareOp .Eq) (rEqDic X.K) := by
  intro pins s σ H x y v u Q I rx ry h
  obtain ⟨a, b, ks, ls, rfl, rfl, r1, r2, p1, p2, nd, q⟩ := h
  cases rx
  cases ry
  simp only [Rep] at r1 r2
  obtain ⟨a', ws, e1, h1, k1⟩ := r1
  obtain ⟨b', us, e2, h2, k2⟩ := r2
  cases e1
  cases e2
  obtain ⟨_, ya, va, ra, da⟩ := h1.ok I.hok
  obtain ⟨_, yb, vb, rb, db⟩ := h2.ok I.hok
  -- the values side by side
  have hval : ∀ k, (valD ls k = none ∧ valueAt vb k = none) ∨ ∃ d v u, valD ls k = some d ∧ valueAt vb k = some u ∧ RelV v u ∧ Rep X.K H d v ∧ PlD 20 d := fun k => by
    have rr := rb.val k
    rcases k2.val (k := k) with ⟨e1, e2⟩ | ⟨d, v, e1, e2, e3⟩
    · rw [e2] at rr
      left
      refine ⟨e1, ?_⟩
      cases hv : valueAt vb k with
      | none => rfl
      | some z => rw [hv] at rr; exact (rr : False).elim
    · rw [e2] at rr
      right
      obtain ⟨u, hu, ru⟩ := RelO.some_of rr
      have hm : ∀ {l : List (Key × D)}, valD l k = some d → (∀ p ∈ l, PlD 20 p.2) → PlD 20 d := by
        intro l
        induction l with
        | nil => intro h _; simp [valD] at h
        | cons p r ih =>
          intro h hp
          simp only [valD] at h
          split at h
          · have := Option.some.inj h
            rw [← this]
            exact hp p (by simp)
          · exact ih h fun x hx => hp x (by simp [hx])
      exact ⟨d, v, u, e1, hu, ru, e3, hm e1 p2⟩
  let e : Key → Bool := fun k => match valD ks k, valD ls k with
    | some d, some d' => deq d d'
    | _, _ => false
  have hlen : va.length = ks.length := by rw [← ra.length, k1.len]
  have hlen2 : vb.length = ls.length := by rw [← rb.length, k2.len]
  have look : ∀ {l : List (Key × D)} {k : Key} {d : D}, (l.map (·.1)).Nodup → (k, d) ∈ l → valD l k = some d := by
    intro l
    induction l with
    | nil => intro k d _ m; simp at m
    | cons p r ih =>
      intro k d hn m
      obtain ⟨k', d'⟩ := p
      simp only [List.map_cons, List.nodup_cons] at hn
      simp only [valD]
      rcases List.mem_cons.mp m with z | z
      · cases z
        simp
      · have ne : k' ≠ k := fun e => hn.1 (by rw [e]; exact List.mem_map.mpr ⟨_, z, rfl⟩)
        simp only [ne, if_false]
        exact ih hn.2 z
  refine PySem.W.eq_dictsT (knd := mixKind X.prog X.w) (n := 21) (e := e) ya yb da db (fun k z y hz hy => ?_) (by omega) ⟨.bl _, H, I, rfl, ?_⟩
  · obtain ⟨d, v, m, rv, rd⟩ := kv_mem k1 ra hz
    have e1 : valD ks k = some d := look nd m
    rcases hval k with ⟨_, e2⟩ | ⟨d', v', u', e2, e3, e4, e5, e6⟩
    · rw [e2] at hy; cases hy
    · rw [e3] at hy
      cases hy
      have ee : e k = deq d d' := by show (match valD ks k, valD ls k with | some d, some d' => deq d d' | _, _ => false) = _; rw [e1, e2]
      rw [ee, deq_pd 20 d d' (p1 _ m) e6]
      obtain ⟨as, r1⟩ := Dp.reads I _ v z (rep_dp 20 d v (p1 _ m) rd) rv
      obtain ⟨bs, r2⟩ := Dp.reads I _ v' y (rep_dp 20 d' v' e6 e5) e4
      obtain ⟨a1, a2⟩ := pd_plain 20 d (p1 _ m)
      obtain ⟨b1, b2⟩ := pd_plain 20 d' e6
      exact .leaf fun A hA => SeqAt.eqAt_plain _ _ A s z y as bs r1 r2 a1 b1 (by have := Nat.min_le_left (pd d).depth (pd d').depth; omega)
  · have e1 : (va.all fun p => (valueAt vb p.1).isSome && e p.1) = ks.all (hitD ls) := kv_all k1 ra fun p hp => by
      obtain ⟨k, d⟩ := p
      have e1 : valD ks k = some d := look nd hp
      show ((valueAt vb k).isSome && e k) = hitD ls (k, d)
      unfold hitD
      rcases hval k with ⟨e2, e3⟩ | ⟨d', v', u', e2, e3, e4, e5, e6⟩
      · rw [e3]
        simp only [e2]
        rfl
      · have ee : e k = deq d d' := by show (match valD ks k, valD ls k with | some d, some d' => deq d d' | _, _ => false) = _; rw [e1, e2]
        rw [e3, ee]
        simp only [e2]
        rfl
    rw [e1, hlen, hlen2]
    exact q
def aEqDic : AR2 := fun x y ρ Q => ∃ ks ls, dat x ρ = some (.dic ks) ∧ dat y ρ = some (.dic ls) ∧ (∀ p ∈ ks, PlD 20 p.2) ∧ (∀ p ∈ ls, PlD 20 p.2) ∧ (ks.map (·.1)).Nodup ∧ Q (.v (.bl (deqK ks ls))) ρ
theorem s_eqDic : Sim2 K (rEqDic K) aEqDic := by
  intro c τ S H σ ρ vx vy x y Q R s q k
  obtain ⟨ks, ls, h1, h2, p1, p2, nd, q⟩ := q
  obtain ⟨r1, r2⟩ := two_dat s h1 h2
  have r1' := r1
  have r2' := r2
  simp only [Rep] at r1' r2'
  obtain ⟨a, _, rfl, _⟩ := r1'
  obtain ⟨b, _, rfl, _⟩ := r2'
  exact ⟨a, b, ks, ls, rfl, rfl, r1, r2, p1, p2, nd, k _ _ (KE.sc s.drop.drop rfl q)⟩
end
end Vs

set_option Elab.async false
set_option linter.all false
set_option maxRecDepth 100000
set_option maxHeartbeats 1000000
/-! Vs: bundles of what calls lean on. -/
namespace Vs
open PySem PySem.Spec PyProof.Rows L2
/-- a method -/
structure CalM (Pr : Program) (w : World) (K : Fg) (mg : Str → Option Value) (base : Heap) (C : Addr) (m : Str) (k : Nat) (ps : List Str) (sp : ASp) : Prop where
  ex : ∃ f fd, Meth K C m f ∧ Binds K fd ps [] ∧ Fok Pr w K mg base k f fd ps sp
/-- a class with an __init__ -/
structure CalK (Pr : Program) (w : World) (K : Fg) (mg : Str → Option Value) (base : Heap) (x : Str) (C : Addr) (k : Nat) (ps : List Str) (sp : ASp) : Prop where
  ex : ∃ f fd, Mk K C f ∧ mg x = some (.ref C) ∧ Binds K fd ps [] ∧ Fok Pr w K mg base k f fd ps sp
def asForget (vs : List Nat) (a : AS) : AS := fun DA ρ => a DA (clearA vs ρ)
section
variable {X : Cx} {P : Pm} {k : Nat} {ps : List Str} {sp : ASp} {C : Addr} {m x : Str} {o e : Expr} {es : List Expr} {ao : AE} {aa : AA} {apos p pos : Pos}
theorem qs_forgetA (vs : List Nat) {st : Stmt} {a : AS} (h : QS X P st a) : QS X P st (asForget vs a) := qs_forget vs h
theorem passF : ∀ σ, PassesAt (L2.CX X.prog X.w) X σ (fun cls d H => (Pn P).W cls d σ H) := fun σ pins H s e s' I c => (cx_false _ _ _ _ _ c).elim
theorem qe_methC {pl : Sem Bool} (he : QE X P o ao) (c : Cls X.K C) (F : CalM X.prog X.w X.K X.mg X.base C m k ps sp) (hr : Room k X.A) (hx : ∀ σ, PassesAt (L2.CX X.prog X.w) X σ (fun cls d H => P.W cls d σ H)) (ha : QA X P (e :: es) aa)
    (hst : starEach (e :: es) X.env = (false, eval e X.env) :: starEach es X.env := by rfl) (hpl : (backTo pos (starEach es X.env)).any (·.1) = false := by rfl)
    (ht : eval (.Call (.Attribute o m apos) (e :: es) [] pos) X.env = (do
      let ov ← eval o X.env
      standAt apos.atName
      let (f, first) ← holding [ov] (getMethod ov m pl)
      callWith pos f first (backTo pos (starEach (e :: es) X.env)) (backToKw pos (keywordEach [] X.env))) := by rfl) :
    QE X P (.Call (.Attribute o m apos) (e :: es) [] pos) (aMeth C m sp [] ao aa) := let ⟨_, _, h1, h2, h3⟩ := F.ex; qe_meth he c h1 h3 hr h2 .nil dfl_nil hx ha hst hpl ht
theorem qe_methC0 {pl : Sem Bool} (he : QE X P o ao) (c : Cls X.K C) (F : CalM X.prog X.w X.K X.mg X.base C m k ps sp) (hr : Room k X.A) (hx : ∀ σ, PassesAt (L2.CX X.prog X.w) X σ (fun cls d H => P.W cls d σ H))
    (ht : eval (.Call (.Attribute o m apos) [] [] pos) X.env = (do
      let ov ← eval o X.env
      standAt apos.atName
      let (f, first) ← holding [ov] (getMethod ov m pl)
      callWith pos f first (backTo pos (starEach [] X.env)) (backToKw pos (keywordEach [] X.env))) := by rfl) :
    QE X P (.Call (.Attribute o m apos) [] [] pos) (aMeth C m sp [] ao aNil) := let ⟨_, _, h1, h2, h3⟩ := F.ex; qe_meth0 he c h1 h3 hr h2 .nil dfl_nil hx ht
theorem qe_makeC (F : CalK X.prog X.w X.K X.mg X.base x C k ps sp) (hr : Room (k + 1) X.A) (hg : Gl X x) (hx : ∀ σ, PassesAt (L2.CX X.prog X.w) X σ (fun cls d H => P.W cls d σ H)) (ha : QA X P (e :: es) aa)
    (hdb : (x == ("__debug__" : Str)) = false := by decide) (he : starEach (e :: es) X.env = (false, eval e X.env) :: starEach es X.env := by rfl) (hpl : (backTo pos (starEach es X.env)).any (·.1) = false := by rfl) :
    QE X P (.Call (.Name x p) (e :: es) [] pos) (aMake C sp [] aa) := let ⟨_, _, h1, h2, h3, h4⟩ := F.ex; qe_make h1 h4 hr hg h2 h3 .nil dfl_nil hx ha hdb he hpl
theorem qe_gint {i : Int} (h : ∃ t, X.mg x = some (.int i t)) (hg : Gl X x) (hd : (x == ("__debug__" : Str)) = false := by decide) : QE X P (.Name x pos) (aC (.int i)) := let ⟨t, h⟩ := h; qe_glob (v := .int i) rfl hg h ⟨t, rfl⟩ hd
theorem qe_gstr {i : Str} (h : ∃ t, X.mg x = some (.str i t)) (hg : Gl X x) (hd : (x == ("__debug__" : Str)) = false := by decide) : QE X P (.Name x pos) (aC (.str i)) := let ⟨t, h⟩ := h; qe_glob (v := .str i) rfl hg h ⟨t, rfl⟩ hd
end
end Vs

set_option Elab.async false
set_option linter.all false
set_option maxRecDepth 100000
set_option maxHeartbeats 1000000
/-! Vs: list(d.values()). -/
namespace Vs
open PySem PySem.Spec PyProof.Rows L2
section
variable {X : Cx} {P : Pm} {K : Fg} {e : Expr} {te : TE} {ae : AE} {p pos apos cpos : Pos}
def tLV (te : TE) : TE := fun σ H Q => te σ H fun x H1 => ∃ d kvs, x = .ref d ∧ Rd H1 d (.dK kvs) ∧ ∀ q, H1 q = none → Q (.ref q) (upd H1 q (.lst (kvs.map (·.2))))
theorem pe_listValues (hc : X.calm = true) (he : PE X e te) (hg : Gl X "list") (hm : X.mg "list" = none) (hbase : attributeBase e "values" X.env (eval e X.env) = eval e X.env := by rfl) (hline : (apos.endLine == cpos.line) = true := by rfl)
    (hs : starEach [.Call (.Attribute e "values" apos) [] [] cpos] X.env = (false, eval (.Call (.Attribute e "values" apos) [] [] cpos) X.env) :: starEach [] X.env := by rfl) :
    PE X (.Call (.Name "list" p) [.Call (.Attribute e "values" apos) [] [] cpos] [] pos) (tLV te) := by
  refine ⟨fun pins s σ H Q I hq => ?_⟩
  refine wpAny_Call_Name_kw (ld_blt I hg hm PyProof.Rows.boot_list ?_)
  refine PyProof.Rows.callWith_type1 ?_ hs rfl
  rw [hs]
  show wpAny _ _ (spliced ((false, eval (.Call (.Attribute e "values" apos) [] [] cpos) X.env) :: backTo pos (starEach [] X.env))) _ _ s
  refine Calls.spliced_cons ?_
  refine wpAny_Call_method (T := "dict") (id := "dict.values") hbase rfl hline F.plainAttrs_dict F.slot_dict_values F.type_dict_values (thn (he.run pins s σ H _ I hq) fun u s1 ⟨x, H1, I1, rx, d, kvs, ex, hd, q⟩ => ?_)
  subst ex
  obtain rfl : u = Value.ref d := rx
  obtain ⟨hz, hs0, vs, kv, hdo⟩ := hd.ok I1.hok
  obtain ⟨ep, hat⟩ := hdo.dictAt
  have lk : kvs.length = vs.length := Paired.length kv
  have I2 : Inv X pins σ H1 { s1 with heap := s1.heap.push { cls := .type "dict_values", data := .fields #[.ref d] } } := I1.kept (t' := s1.toks) fun b ob q => Heap.get?_push_of_some _ q
  refine ⟨hdo.typeIs, hdo.mapOf.noDict, ?_⟩
  show wpAny _ _ (callWith cpos (.builtin "dict.values") [.ref d] [] []) _ X.xe s1
  refine method_meetsIn F.slot_dict_values F.entry_dict_values rfl (PySem.evalArgs_none ⟨rfl, hdo.typeIs, F.args_dict_values_1 _, _, meets_dict_values (mixKind X.prog X.w) d hs0, ⟨vs, hdo⟩, ?_⟩)
  refine Calls.spliced_nil ?_
  refine PySem.W.kdl_call (PySem.W.kdl_values (knd := mixKind X.prog X.w) (kvs := vs) (ep := ep)) (I1.ok.hd hc) ⟨⟨_, Heap.get?_push_size _ rfl, rfl, rfl⟩, hat.push _⟩ (by omega) fun h' tk acc c hk hS hacc => ?_
  have ea : acc.toList = vs.map (·.2) := by
    apply List.ext_getElem?
    intro i
    rw [List.getElem?_map]
    by_cases hi : i < acc.size
    · have h1 : acc.toList[i]? = some acc[i] := by rw [Array.getElem?_toList]; exact Array.getElem?_eq_getElem hi
      obtain ⟨k, hkv⟩ := hacc.2 i acc[i] (Array.getElem?_eq_getElem hi)
      rw [h1, hkv]
      rfl
    · have hsz := hacc.1
      rw [List.getElem?_eq_none (by rw [Array.length_toList]; omega), List.getElem?_eq_none (by omega)]
      rfl
  have rv : Vals (kvs.map (·.2)) acc.toList := by
    rw [ea]
    have : ∀ {kvs : List (Key × V)} {vs : List (Key × Value)}, KV kvs vs → Vals (kvs.map (·.2)) (vs.map (·.2)) := by
      intro kvs vs h
      induction h with
      | nil => exact .nil
      | cons h _ ih => exact .cons h.2 ih
    exact this kv
  refine ⟨.ref _, _, I2.laid (t' := tk) (o := .lst (kvs.map (·.2))) hk (Nat.le_refl _) ⟨by rw [List.length_map]; exact hz, acc.toList, c, rv, by rw [Array.toArray_toList]; exact hS⟩, rfl, q _ (I2.hok.fresh (Nat.le_refl _))⟩
def aLV (ae : AE) : AE := fun EA ρ Q => ae EA ρ fun x ρ1 => ∃ kvs, dat x ρ1 = some (.dic kvs) ∧ Q (.lst (kvs.map (·.2))) ρ1
theorem repK_snd {S : Hp} : ∀ {kvs : List (Key × D)} {ws : List (Key × V)}, RepK K S kvs ws → RepL K S (kvs.map (·.2)) (ws.map (·.2))
  | [], ws, h => by
    simp only [RepK] at h
    subst h
    simp only [List.map_nil, RepL]
  | (k, d) :: kvs, ws, h => by
    simp only [RepK] at h
    obtain ⟨v, r, rfl, h1, h2⟩ := h
    simp only [List.map_cons, RepL]
    exact ⟨v, _, rfl, h1, repK_snd h2⟩
theorem qe_listValues (hc : X.calm = true) (he : QE X P e ae) (hg : Gl X "list") (hm : X.mg "list" = none) (hbase : attributeBase e "values" X.env (eval e X.env) = eval e X.env := by rfl) (hline : (apos.endLine == cpos.line) = true := by rfl)
    (hs : starEach [.Call (.Attribute e "values" apos) [] [] cpos] X.env = (false, eval (.Call (.Attribute e "values" apos) [] [] cpos) X.env) :: starEach [] X.env := by rfl) :
    QE X P (.Call (.Name "list" p) [.Call (.Attribute e "values" apos) [] [] cpos] [] pos) (aLV ae) := by
  obtain ⟨t, pe, s⟩ := he.ex
  refine ⟨_, pe_listValues hc pe hg hm hbase hline hs, fun c EA ho hw τ S H σ ρ Q R st q k => s c EA ho hw τ S H σ ρ _ _ st q fun v H1 ⟨S1, ρ1, x, s1, kvs, h1, q1⟩ => ?_⟩
  obtain ⟨y0, g0, r0, e0⟩ := s1.thing (List.mem_cons_self ..) h1
  obtain ⟨d, ws, rfl, h3, h4⟩ := repA_dic r0 e0 s1.le
  exact ⟨d, ws, rfl, h3, fun q hq => k _ _ ⟨S1, ρ1, _, s1.drop.newList hq (repK_snd h4), q1⟩⟩
end
end Vs

set_option Elab.async false
set_option linter.all false
set_option maxRecDepth 100000
set_option maxHeartbeats 1000000
/-! Vs: facts of classes, as a head can read them. -/
namespace Vs
open PySem PySem.Spec PyProof.Rows L2
section
variable {K : Fg} {C : Addr} {f : Str}
/-- an own exception class whose __init__ stores one field -/
theorem oexB_ok (h : oexB K C = true) : OexC K C := by
  obtain ⟨q, h⟩ := He.ba h
  obtain ⟨h2, h⟩ := He.ba h
  obtain ⟨h3, h⟩ := He.ba h
  obtain ⟨h4, h5⟩ := He.ba h
  refine ⟨?_, He.eqO_ok h2, of_decide_eq_true h3, of_decide_eq_true h4, h5⟩
  split at q
  · rename_i dd cd sl ho
    split at q
    · rename_i C' bm k0 k1 k2 k3 n k5 hm hs
      simp only [Bool.and_eq_true, beq_iff_eq, Bool.not_eq_true'] at q
      obtain ⟨⟨⟨⟨rfl, rfl⟩, hdel⟩, hhd⟩, ht⟩ := q
      obtain ⟨nm, bs, mro, ns, qn, hd, sn, sub, ab, col, del⟩ := cd
      dsimp only at hm hdel hhd
      subst hm hdel hhd
      have hsl : sl = #[k0, k1, k2, k3, some (.builtin "ValueError.__new__"), k5] := by
        obtain ⟨l⟩ := sl
        simp only at hs
        rw [hs]
      subst hsl
      exact ⟨nm, qn, ns, bs, bm, sn, sub, ab, col, dd, k0, k1, k2, k3, k5, ho, ht⟩
    · cases q
  · cases q
/-- its __init__ is a function, its field no name of the class -/
theorem oexI_ok (h : oexI K C f = true) : PySem.W.findIn K (.ref C) "__init__" = some (some (.ref (He.ma K C "__init__"))) ∧ PySem.W.typeIn K (.ref (He.ma K C "__init__")) = some (.type "function") ∧ PySem.W.findIn K (.ref C) f = some none ∧ XfC K C := by
  obtain ⟨h1, h⟩ := He.ba h
  obtain ⟨h2, h⟩ := He.ba h
  obtain ⟨h3, h4⟩ := He.ba h
  exact ⟨He.eqO_ok h1, of_decide_eq_true h2, He.eqO_ok h3, xfB_ok h4⟩
/-- what isinstance asks of an own class -/
theorem clsIB_ok (c : Cls K C) (h : clsIB K C = true) : ClsI K C := by
  obtain ⟨h1, h⟩ := He.ba h
  obtain ⟨h2, h⟩ := He.ba h
  obtain ⟨h3, h4⟩ := He.ba h
  exact ⟨c, He.eqO_ok h1, He.eqO_ok h2, of_decide_eq_true h3, of_decide_eq_true h4⟩
/-- an own special method -/
theorem spcB_ok {m : Str} (h : spcB K C m = true) : PySem.W.findIn K (.ref C) m = some (some (.ref (He.ma K C m))) ∧ PySem.W.isFn K (.ref (He.ma K C m)) = true := by
  obtain ⟨h1, h2⟩ := He.ba h
  exact ⟨He.eqO_ok h1, h2⟩
theorem neB_ok (h : neB K C = true) : PySem.W.findIn K (.ref C) "__ne__" = some (some (.builtin "object.__ne__")) ∧ PySem.W.mroIn K C (.type "object") = some true := by
  obtain ⟨h1, h2⟩ := He.ba h
  exact ⟨He.eqO_ok h1, of_decide_eq_true h2⟩
/-- isinstance's tables -/
theorem kitB2_ok {t u : Value} {b : Bool} (h : kitB2 K t u b = true) : PySem.W.kitOne K t u = some b := of_decide_eq_true h
end
end Vs

set_option Elab.async false
set_option linter.all false
set_option maxRecDepth 100000
set_option maxHeartbeats 1000000
/-! Vs: introduction, the later readings. -/
namespace Vs
open PySem PySem.Spec PyProof.Rows L2
section
variable {EA : AX} {ρ : AEnv} {Q : AK} {DA : AEnds} {QB : Bool → AEnv → Prop} {x y : A} {d e z : D} {K : Fg} {C : Addr} {f m : Str} {sp : ASp}
/-- isinstance of built-in data by built-in types -/
def tyN : D → Option String
  | .non => some "NoneType"
  | .bl _ => some "bool"
  | .int _ => some "int"
  | .str _ => some "str"
  | .lst _ => some "list"
  | .tup _ => some "tuple"
  | .dic _ => some "dict"
  | _ => none
def kitAnyB (a : String) : List String → Option Bool
  | [] => some false
  | b :: r => match kitB a b with
    | some true => some true
    | some false => kitAnyB a r
    | none => none
theorem kitAny_B {a : String} : ∀ {us : List String} {b : Bool}, kitAnyB a us = some b → PySem.W.kitAny K (.type a) (us.map Value.type) = some b
  | [], b, h => by
    simp only [kitAnyB] at h
    cases h
    exact kitAny_nil
  | u :: us, b, h => by
    simp only [kitAnyB] at h
    cases e : kitB a u with
    | none => rw [e] at h; cases h
    | some r =>
      rw [e] at h
      cases r with
      | true =>
        cases h
        exact kitAny_cons (kit_ty e) (fun z => nomatch z) fun _ => rfl
      | false => exact kitAny_cons (kit_ty e) (fun _ => kitAny_B h) fun z => nomatch z
theorem isi_bt {a : String} {us : List String} {b : Bool} (h1 : tyN d = some a) (h2 : kitAnyB a us = some b) : isiR K d (us.map Value.type) b := by
  refine ⟨.type a, ?_, fun C fs e => ?_, kitAny_B h2⟩
  · cases d <;> simp only [tyN] at h1 <;> first | (cases h1; rfl) | cases h1
  · subst e
    cases h1
theorem i_isi {us : List Value} {b : Bool} (h1 : dat x ρ = some d) (h2 : isiR K d us b) (k : Q (.v (.bl b)) ρ) : aIsi K us x ρ Q := ⟨d, b, h1, h2, k⟩
theorem i_fld {y : A} (h1 : lkA x ρ = some y) (h2 : fldA y C f = some d) (k : Q (.v d) ρ) : aFld C f x ρ Q := ⟨y, d, h1, h2, k⟩
theorem i_raise {ae : AE} (k : ae DA.ex ρ fun x ρ1 => useA x ρ1 fun d ρ2 => DA.ex C [(f, d)] ρ2) : asRaise C f ae DA ρ := k
theorem i_forget {vs : List Nat} {a : AS} (k : a DA (clearA vs ρ)) : asForget vs a DA ρ := k
theorem i_own {g : Bool → Bool} {fs gs : List (Str × D)} (h1 : dat x ρ = some (.obj C fs)) (h2 : dat y ρ = some (.obj C gs)) (k : callA sp [x, y] noX ρ fun r ρ' => ∃ t, r = .v (.bl t) ∧ Q (.v (.bl (g t))) ρ') : aOwn C sp g x y ρ Q := ⟨⟨fs, h1⟩, ⟨gs, h2⟩, k⟩
theorem i_lenO {fs : List (Str × D)} (h1 : dat x ρ = some (.obj C fs)) (k : callA sp [x] noX ρ fun r ρ' => ∃ n : Int, r = .v (.int n) ∧ 0 ≤ n ∧ n < 2 ^ 63 ∧ Q (.v (.int n)) ρ') : aLenO C sp [x] ρ Q := ⟨x, rfl, ⟨fs, h1⟩, k⟩
/-! loops -/
theorem i_aiSeq {ae : AE} {QI : List D → (AEnv → Prop) → AEnv → Prop} (k : ae EA ρ fun x ρ1 => useA x ρ1 fun d ρ2 => ∃ xs, seqD d = some xs ∧ QI xs (fun _ => True) ρ2) : aiSeq ae EA ρ QI := k
theorem for_inv {G : AEnv → Prop} {ag : AG} {ab : AS} (W : List D → List D → AEnv → Prop) : ∀ (ys xs : List D) (ρ : AEnv), (∀ ys ρ, W ys [] ρ → G ρ ∧ DA.nx ρ) →
    (∀ ys x xs ρ, W ys (x :: xs) ρ → G ρ ∧ ag x ρ fun ρ' => ab { DA with nx := fun ρ => W (ys ++ [x]) xs ρ, ct := fun ρ => W (ys ++ [x]) xs ρ, bk := DA.nx } ρ') →
    (∀ {D1 D2 : AEnds} {ρ : AEnv}, (∀ ρ, D1.nx ρ → D2.nx ρ) → (∀ ρ, D1.ct ρ → D2.ct ρ) → (∀ ρ, D1.bk ρ → D2.bk ρ) → D1.rt = D2.rt → D1.ex = D2.ex → ab D1 ρ → ab D2 ρ) → (∀ {d : D} {ρ : AEnv} {q q' : AEnv → Prop}, (∀ ρ, q ρ → q' ρ) → ag d ρ q → ag d ρ q') → W ys xs ρ → forA G ag ab DA xs ρ
  | ys, [], ρ, h0, _, _, _, w => h0 ys ρ w
  | ys, x :: xs, ρ, h0, h1, hm, hg, w => by
    obtain ⟨g, a⟩ := h1 ys x xs ρ w
    refine ⟨g, hg (fun ρ' hb => ?_) a⟩
    exact hm (D1 := { DA with nx := fun ρ => W (ys ++ [x]) xs ρ, ct := fun ρ => W (ys ++ [x]) xs ρ, bk := DA.nx }) (D2 := { DA with nx := forA G ag ab DA xs, ct := forA G ag ab DA xs, bk := DA.nx }) (fun ρ' z => for_inv W (ys ++ [x]) xs ρ' h0 h1 hm hg z) (fun ρ' z => for_inv W (ys ++ [x]) xs ρ' h0 h1 hm hg z) (fun _ z => z) rfl rfl hb
/-- a loop as a recursion over what is left: the step is proved with the rest's meaning in hand -/
theorem for_rec {G : AEnv → Prop} {ag : AG} {ab : AS} (W : List D → AEnv → Prop) (h0 : ∀ ρ, W [] ρ → G ρ ∧ DA.nx ρ)
    (h1 : ∀ x xs ρ, W (x :: xs) ρ → (∀ ρ, W xs ρ → forA G ag ab DA xs ρ) → G ρ ∧ ag x ρ fun ρ' => ab { DA with nx := forA G ag ab DA xs, ct := forA G ag ab DA xs, bk := DA.nx } ρ') : ∀ (xs : List D) (ρ : AEnv), W xs ρ → forA G ag ab DA xs ρ
  | [], ρ, w => h0 ρ w
  | x :: xs, ρ, w => h1 x xs ρ w fun ρ' w' => for_rec W h0 h1 xs ρ' w'
end
end Vs

set_option Elab.async false
set_option linter.all false
set_option maxRecDepth 100000
set_option maxHeartbeats 1000000
/-! Vs: isinstance by a function. -/
namespace Vs
open PySem PySem.Spec PyProof.Rows L2
def isiF (d : D) (u : String) : Bool := match d with
  | .bl _ => u == "bool" || u == "int"
  | .int _ => u == "int"
  | .str _ => u == "str"
  | .lst _ => u == "list"
  | .tup _ => u == "tuple"
  | .dic _ => u == "dict"
  | _ => false
theorem isi1 {K : Fg} {d : D} {u : String} (h : (tyN d).isSome = true) (hu : u = "int" ∨ u = "bool" ∨ u = "str" ∨ u = "list" ∨ u = "tuple" ∨ u = "dict") : isiR K d [.type u] (isiF d u) := by
  have go : ∀ a, tyN d = some a → kitAnyB a [u] = some (isiF d u) → isiR K d [.type u] (isiF d u) := fun a h1 h2 => isi_bt (us := [u]) h1 h2
  cases d <;> first
    | (cases h; done)
    | (refine go _ rfl ?_; rcases hu with rfl | rfl | rfl | rfl | rfl | rfl <;> simp only [isiF] <;> decide +kernel)
theorem isi_lt {K : Fg} {d : D} (h : (tyN d).isSome = true) : isiR K d [.type "list", .type "tuple"] (isiF d "list" || isiF d "tuple") := by
  have go : ∀ a, tyN d = some a → kitAnyB a ["list", "tuple"] = some (isiF d "list" || isiF d "tuple") → isiR K d [.type "list", .type "tuple"] (isiF d "list" || isiF d "tuple") := fun a h1 h2 => isi_bt (us := ["list", "tuple"]) h1 h2
  cases d <;> first
    | (cases h; done)
    | (refine go _ rfl ?_; simp only [isiF]; decide +kernel)
/-- isinstance of an own class -/
theorem isi_own {K : Fg} {C C2 : Addr} {fs : List (Str × D)} {b : Bool} (c : ClsI K C) (h : PySem.W.kitOne K (.ref C) (.ref C2) = some b) : isiR K (.obj C fs) [.ref C2] b := by
  refine ⟨.ref C, rfl, fun C' fs' e => ?_, ?_⟩
  · cases e
    exact c
  · exact kitAny_cons h (fun z => by rw [z]; exact kitAny_nil) fun z => z
end Vs

set_option Elab.async false
set_option linter.all false
set_option maxRecDepth 100000
set_option maxHeartbeats 1000000
/-! Vs: comprehensions in readings. -/
namespace Vs
open PySem PySem.Spec PyProof.Rows L2
section
variable {EA : AX} {ρ : AEnv} {Q : AK} {G : AEnv → Prop} {ag : AG} {at_ : AT} {ae ak : AE} {vs : List Nat}
theorem i_lc {ai : AI} (k : ai EA ρ fun xs G ρ1 => NoneAt vs ρ1 ∧ lcA G ag at_ ae vs xs [] ρ1 Q) : aLc ai ag at_ ae vs EA ρ Q := k
theorem i_dc {ai : AI} (k : ai EA ρ fun xs G ρ1 => NoneAt vs ρ1 ∧ dcA G ag at_ ak ae vs xs [] ρ1 Q) : aDc ai ag at_ ak ae vs EA ρ Q := k
theorem lc_rec (W : List D → List D → AEnv → Prop) (h0 : ∀ acc ρ, W acc [] ρ → G ρ ∧ Q (.lst acc) ρ)
    (h1 : ∀ acc x xs ρ, W acc (x :: xs) ρ → (∀ acc ρ, W acc xs ρ → lcA G ag at_ ae vs xs acc ρ Q) → lcA G ag at_ ae vs (x :: xs) acc ρ Q) : ∀ (xs acc : List D) (ρ : AEnv), W acc xs ρ → lcA G ag at_ ae vs xs acc ρ Q
  | [], acc, ρ, w => h0 acc ρ w
  | x :: xs, acc, ρ, w => h1 acc x xs ρ w fun acc' ρ' w' => lc_rec W h0 h1 xs acc' ρ' w'
theorem i_lcA {x : D} {xs acc : List D} (g : G ρ) (k : ag x ρ fun ρ1 => at_ noX ρ1 fun b ρ2 => if b = true then ae noX ρ2 fun y ρ3 => useA y ρ3 fun d ρ4 => acc.length ≤ 100000 ∧ lcA G ag at_ ae vs xs (acc ++ [d]) (clearA vs ρ4) Q else lcA G ag at_ ae vs xs acc (clearA vs ρ2) Q) : lcA G ag at_ ae vs (x :: xs) acc ρ Q := ⟨g, k⟩
theorem i_agName {i : Nat} {d : D} {q : AEnv → Prop} (k : q (ρ.set i (some (.v d)))) : agName i d ρ q := k
theorem i_yes {QB : Bool → AEnv → Prop} (k : QB true ρ) : atYes EA ρ QB := k
theorem i_aiSeqV {ae : AE} {QI : List D → (AEnv → Prop) → AEnv → Prop} (k : ae EA ρ fun x ρ1 => useA x ρ1 fun d ρ2 => ∃ xs, seqD d = some xs ∧ QI xs (fun _ => True) ρ2) : aiSeq ae EA ρ QI := k
end
end Vs

set_option Elab.async false
set_option linter.all false
set_option maxRecDepth 100000
set_option maxHeartbeats 1000000
/-! Vs: more steps of readings; contracts over an index. -/
namespace Vs
open PySem PySem.Spec PyProof.Rows L2
section
variable {EA : AX} {ρ ρ' : AEnv} {Q : AK} {DA : AEnds} {QB : Bool → AEnv → Prop} {x y o : A} {d e z : D} {C : Addr} {f m : Str} {sp : ASp} {dd : List D} {aa : AA} {ao ab : AE} {p : Prop}
theorem i_itep {c : Prop} [Decidable c] {p q : Prop} (h : c) (k : p) : if c then p else q := by rw [if_pos h]; exact k
theorem i_iten {c : Prop} [Decidable c] {p q : Prop} (h : ¬c) (k : q) : if c then p else q := by rw [if_neg h]; exact k
theorem i_itepB {b : Bool} {p q : Prop} (h : b = true) (k : p) : if b = true then p else q := i_itep h k
theorem i_itenB {b : Bool} {p q : Prop} (h : b = false) (k : q) : if b = true then p else q := by subst h; exact i_iten Bool.false_ne_true k
/-- x is an instance of C -/
def objK (C : Addr) (m : Str) (x : A) (ρ : AEnv) (p : Prop) : Prop := isObjA C m x ρ ∧ p
theorem i_meth (k : ao EA ρ fun o ρ1 => objK C m o ρ1 (aa EA ρ1 fun xs ρ2 => callA sp (o :: (xs ++ dd.map A.v)) EA ρ2 Q)) : aMeth C m sp dd ao aa EA ρ Q := k
theorem i_objK {fs : List (Str × D)} (h1 : dat x ρ = some (.obj C fs)) (h2 : fs.lookup m = none) (k : p) : objK C m x ρ p := ⟨⟨fs, h1, h2⟩, k⟩
theorem i_call0 (k : aa EA ρ fun xs ρ1 => callA sp xs EA ρ1 Q) : aCall sp [] aa EA ρ Q := by
  unfold aCall
  simp only [List.map_nil, List.append_nil]
  exact k
theorem i_meth0 (k : ao EA ρ fun o ρ1 => objK C m o ρ1 (aa EA ρ1 fun xs ρ2 => callA sp (o :: xs) EA ρ2 Q)) : aMeth C m sp [] ao aa EA ρ Q := by
  unfold aMeth
  simp only [List.map_nil, List.append_nil]
  exact k
theorem i_make0 (k : aa EA ρ fun xs ρ1 => mkSp C sp xs EA ρ1 Q) : aMake C sp [] aa EA ρ Q := by
  unfold aMake
  simp only [List.map_nil, List.append_nil]
  exact k
theorem i_make (k : aa EA ρ fun xs ρ1 => mkSp C sp (xs ++ dd.map A.v) EA ρ1 Q) : aMake C sp dd aa EA ρ Q := k
/-- slices -/
def slcK (x : A) (lo hi : Option Int) (ρ : AEnv) (Q : AK) : Prop := ∃ d, dat x ρ = some d ∧ match d with
  | .lst xs => Q (.lst (cutD xs lo hi)) ρ
  | .tup xs => Q (.v (.tup (cutD xs lo hi))) ρ
  | _ => False
theorem i_slice {al ah : AO} (k : ao EA ρ fun x ρ1 => al EA ρ1 fun lo ρ2 => ah EA ρ2 fun hi ρ3 => slcK x lo hi ρ3 Q) : aSlice ao al ah EA ρ Q := k
theorem i_slcT {xs : List D} {lo hi : Option Int} (h : dat x ρ = some (.tup xs)) (k : Q (.v (.tup (cutD xs lo hi))) ρ) : slcK x lo hi ρ Q := ⟨_, h, k⟩
theorem i_slcL {xs : List D} {lo hi : Option Int} (h : dat x ρ = some (.lst xs)) (k : Q (.lst (cutD xs lo hi)) ρ) : slcK x lo hi ρ Q := ⟨_, h, k⟩
theorem i_aoNone {q : Option Int → AEnv → Prop} (k : q none ρ) : aoNone EA ρ q := k
def isI (x : A) (ρ : AEnv) (k : Int → Prop) : Prop := ∃ i, dat x ρ = some (.int i) ∧ k i
theorem i_isI {i : Int} {k : Int → Prop} (h : dat x ρ = some (.int i)) (hk : k i) : isI x ρ k := ⟨i, h, hk⟩
theorem i_aoSome {q : Option Int → AEnv → Prop} (k : ao EA ρ fun x ρ1 => isI x ρ1 fun i => q (some i) ρ1) : aoSome ao EA ρ q := k
/-- targets -/
theorem i_agTup {n : Nat} {b : AGs} {ds : List D} {q : AEnv → Prop} (h : ds.length = n) (k : b ds ρ q) : agTup n b (.tup ds) ρ q := ⟨ds, rfl, h, k⟩
theorem i_agCons {a : AG} {b : AGs} {r : List D} {q : AEnv → Prop} (k : a d ρ fun ρ' => b r ρ' q) : agCons a b (d :: r) ρ q := ⟨d, r, rfl, k⟩
theorem i_agNil {q : AEnv → Prop} (k : q ρ) : agNil [] ρ q := ⟨rfl, k⟩
/-- fields -/
def fldK (C : Addr) (f : Str) (o : A) (d : D) (ρ : AEnv) (nx : AEnv → Prop) : Prop := ∃ j fs, o = .loc j ∧ ρ[j]? = some (some (.obj C fs)) ∧ (∀ p ∈ fs, ∃ d, p.2 = .v d) ∧ fs.length ≤ 100 ∧ nx (ρ.set j (some (.obj C (putFA f d fs))))
theorem i_asFld {av ao : AE} (k : av DA.ex ρ fun x ρ1 => useA x ρ1 fun d ρ2 => ao DA.ex ρ2 fun o ρ3 => fldK C f o d ρ3 DA.nx) : asFld C f av ao DA ρ := k
theorem i_fldK {j : Nat} {fs : List (Str × A)} {nx : AEnv → Prop} (h1 : ρ[j]? = some (some (.obj C fs))) (h2 : ∀ p ∈ fs, ∃ d, p.2 = A.v d) (h3 : fs.length ≤ 100) (k : nx (ρ.set j (some (.obj C (putFA f d fs))))) : fldK C f (.loc j) d ρ nx := ⟨j, fs, rfl, h1, h2, h3, k⟩
theorem fs_nil : ∀ p ∈ ([] : List (Str × A)), ∃ d, p.2 = A.v d := fun _ h => nomatch h
theorem fs_one {f : Str} {d : D} : ∀ p ∈ ([(f, .v d)] : List (Str × A)), ∃ d, p.2 = A.v d := fun p h => by
  rcases List.mem_cons.mp h with h | h
  · exact ⟨d, by rw [h]⟩
  · cases h
theorem i_fldV {fs : List (Str × D)} (h1 : lkA x ρ = some (.v (.obj C fs))) (h2 : fs.lookup f = some d) (k : Q (.v d) ρ) : aFld C f x ρ Q := ⟨_, d, h1, by simp only [fldA, if_pos, h2], k⟩
theorem plD_h {n : Nat} {d : D} (h : PlD n d) : PlD n d := h
theorem lenA_h {y : A} (h : lenA y ≤ 100000) : lenA y ≤ 100000 := h
/-- get -/
def isDc (x : A) (ρ : AEnv) (p : Prop) : Prop := (∃ kvs, dat x ρ = some (.dic kvs)) ∧ p
def getK (x y : A) (ρ : AEnv) (Q : AK) : Prop := ∃ kvs i k, dat x ρ = some (.dic kvs) ∧ dat y ρ = some i ∧ keyD i = some k ∧ Q (.v ((valD kvs k).getD .non)) ρ
theorem i_get1 (k : ao EA ρ fun x ρ1 => isDc x ρ1 (ab EA ρ1 fun y ρ2 => getK x y ρ2 Q)) : aGet1 ao ab EA ρ Q := k
theorem i_isDc {kvs : List (Key × D)} (h : dat x ρ = some (.dic kvs)) (k : p) : isDc x ρ p := ⟨⟨kvs, h⟩, k⟩
theorem i_getK {kvs : List (Key × D)} {i : D} {ky : Key} (h1 : dat x ρ = some (.dic kvs)) (h2 : dat y ρ = some i) (h3 : keyD i = some ky) (h4 : (valD kvs ky).getD .non = z) (k : Q (.v z) ρ) : getK x y ρ Q := ⟨kvs, i, ky, h1, h2, h3, by rw [h4]; exact k⟩
/-- in -/
theorem i_inD {kvs : List (Key × D)} {ky : Key} (h1 : dat x ρ = some d) (h2 : dat y ρ = some (.dic kvs)) (h3 : keyD d = some ky) (k : Q (.v (.bl (valD kvs ky).isSome)) ρ) : aIn false x y ρ Q := ⟨d, _, _, h1, h2, ⟨ky, h3, rfl⟩, k⟩
theorem i_ninD {kvs : List (Key × D)} {ky : Key} (h1 : dat x ρ = some d) (h2 : dat y ρ = some (.dic kvs)) (h3 : keyD d = some ky) (k : Q (.v (.bl (!(valD kvs ky).isSome))) ρ) : aIn true x y ρ Q := ⟨d, _, _, h1, h2, ⟨ky, h3, rfl⟩, k⟩
theorem i_inL {xs : List D} (h1 : dat x ρ = some d) (h2 : dat y ρ = some (.lst xs)) (h3 : PlD 20 d) (h4 : ∀ z ∈ xs, PlD 20 z) (k : Q (.v (.bl (xs.any fun z => deq z d))) ρ) : aIn false x y ρ Q := ⟨d, _, _, h1, h2, ⟨h3, h4, rfl⟩, k⟩
theorem i_ninL {xs : List D} (h1 : dat x ρ = some d) (h2 : dat y ρ = some (.lst xs)) (h3 : PlD 20 d) (h4 : ∀ z ∈ xs, PlD 20 z) (k : Q (.v (.bl (!xs.any fun z => deq z d))) ρ) : aIn true x y ρ Q := ⟨d, _, _, h1, h2, ⟨h3, h4, rfl⟩, k⟩
theorem i_inS {c : Nat} {z : Str} (h1 : dat x ρ = some (.str ⟨#[c]⟩)) (h2 : dat y ρ = some (.str z)) (k : Q (.v (.bl (decide (c ∈ z.cps.toList)))) ρ) : aIn false x y ρ Q := ⟨_, _, _, h1, h2, ⟨c, rfl, rfl⟩, k⟩
/-- loops -/
theorem i_forItems {i : Nat} {ag : AG} {abd : AS} {kvs : List (Key × D)} (h : ρ[i]? = some (some (.v (.dic kvs)))) (k : forA (fun _ => True) ag abd { DA with ex := noX } (kvs.map pairD) ρ) : asForItems i ag abd DA ρ := ⟨kvs, h, k⟩
theorem i_itemsT {QI : List D → (AEnv → Prop) → AEnv → Prop} (k : ao EA ρ fun x ρ1 => ∃ kvs, x = .dic kvs ∧ QI (kvs.map pairD) (fun _ => True) ρ1) : aiItemsT ao EA ρ QI := k
theorem i_seqX {xs : List D} {QI : List D → (AEnv → Prop) → AEnv → Prop} (h : seqD d = some xs) (k : QI xs (fun _ => True) ρ) : ∃ xs, seqD d = some xs ∧ QI xs (fun _ => True) ρ := ⟨xs, h, k⟩
theorem i_rng1 {QI : List D → (AEnv → Prop) → AEnv → Prop} (k : aa EA ρ fun xs ρ1 => ∃ x j, xs = [x] ∧ dat x ρ1 = some (.int j) ∧ -(2 ^ 62) ≤ j ∧ j < 2 ^ 62 ∧ QI (intsD 0 j.toNat) (fun _ => True) ρ1) : aiRng1 aa EA ρ QI := k
theorem i_sortL {ds : List D} (h1 : dat x ρ = some (.lst ds)) (h2 : ∀ d ∈ ds, PlD 20 d) (h3 : PySem.W.AllAlike (ds.map pd)) (h4 : PySem.W.Sortable (ds.map pd)) (k : Q (.lst (srtD ds)) ρ) : aSort [x] ρ Q := ⟨x, _, rfl, h1, h2, h3, h4, k⟩
theorem i_sortD {kvs : List (Key × D)} {ks : List Str} (h1 : dat x ρ = some (.dic kvs)) (h2 : kvs.map (·.1) = ks.map Sum.inr) (h3 : ks.length < 64) (k : ∀ ys : List Str, ys.Perm ks → sortedS ys = true → Q (.lst (ys.map D.str)) ρ) : aSort [x] ρ Q := ⟨x, _, rfl, h1, ks, h2, h3, k⟩
theorem i_eqDic {ks ls : List (Key × D)} (h1 : dat x ρ = some (.dic ks)) (h2 : dat y ρ = some (.dic ls)) (h3 : ∀ p ∈ ks, PlD 20 p.2) (h4 : ∀ p ∈ ls, PlD 20 p.2) (h5 : (ks.map (·.1)).Nodup) (k : Q (.v (.bl (deqK ks ls))) ρ) : aEqDic x y ρ Q := ⟨ks, ls, h1, h2, h3, h4, h5, k⟩
theorem dc_rec {G : AEnv → Prop} {ag : AG} {at_ : AT} {ak ae : AE} {vs : List Nat} (W : List (Key × D) → List D → AEnv → Prop) (h0 : ∀ acc ρ, W acc [] ρ → G ρ ∧ Q (.dic acc) ρ)
    (h1 : ∀ acc x xs ρ, W acc (x :: xs) ρ → (∀ acc ρ, W acc xs ρ → dcA G ag at_ ak ae vs xs acc ρ Q) → dcA G ag at_ ak ae vs (x :: xs) acc ρ Q) : ∀ (xs : List D) (acc : List (Key × D)) (ρ : AEnv), W acc xs ρ → dcA G ag at_ ak ae vs xs acc ρ Q
  | [], acc, ρ, w => h0 acc ρ w
  | x :: xs, acc, ρ, w => h1 acc x xs ρ w fun acc' ρ' w' => dc_rec W h0 h1 xs acc' ρ' w'
end
/-! ### contracts over an index -/
inductive RX where
  | rt (r : A)
  | xc (C : Addr) (fs : List (Str × D))
section
variable {ι : Type} {args : ι → List A} {ok : ι → Prop} {po : ι → A → List A → Prop} {xc : ι → Addr → List (Str × D) → List A → Prop}
def spR (args : ι → List A) (ok : ι → Prop) (po : ι → A → List A → Prop) (xc : ι → Addr → List (Str × D) → List A → Prop) : ASp where
  pre := fun xs => ∃ i, ok i ∧ xs = args i
  post := fun xs r xs' => ∀ i, ok i → xs = args i → po i r xs'
  exc := fun xs C fs xs' => (∃ i, ok i ∧ xs = args i) ∧ ∀ i, ok i → xs = args i → xc i C fs xs'
def endsR (O : List Nat) (xs : List A) (po : A → List A → Prop) (xc : Addr → List (Str × D) → List A → Prop) : AEnds where
  nx := fun ρ => ∃ xs', fin O 0 xs ρ = some xs' ∧ po (.v .non) xs'
  rt := fun r ρ => ∃ xs', fin O 0 xs ρ = some xs' ∧ po r xs'
  bk := fun _ => False
  ct := fun _ => False
  ex := fun C fs ρ => ∃ xs', fin O 0 xs ρ = some xs' ∧ xc C fs xs'
theorem ends_spR {O : List Nat} {i : ι} (inj : ∀ j, ok j → args i = args j → i = j) (hi : ok i) : endsOf O (spR args ok po xc) (args i) = endsR O (args i) (po i) (xc i) := by
  have h1 : ∀ r xs', ((∀ j, ok j → args i = args j → po j r xs') ↔ po i r xs') := fun r xs' => ⟨fun h => h i hi rfl, fun h j hj e => by rw [← inj j hj e]; exact h⟩
  have h2 : ∀ C fs xs', (((∃ j, ok j ∧ args i = args j) ∧ ∀ j, ok j → args i = args j → xc j C fs xs') ↔ xc i C fs xs') := fun C fs xs' => ⟨fun h => h.2 i hi rfl, fun h => ⟨⟨i, hi, rfl⟩, fun j hj e => by rw [← inj j hj e]; exact h⟩⟩
  unfold endsOf endsR spR
  simp only [h1, h2]
theorem rd_R {a : AS} {O : List Nat} {n : Nat} (inj : ∀ i j, ok i → ok j → args i = args j → i = j) (h : ∀ i, ok i → a (endsR O (args i) (po i) (xc i)) (startA n (args i))) : ∀ xs, (spR args ok po xc).pre xs → a (endsOf O (spR args ok po xc) xs) (startA n xs) := by
  rintro xs ⟨i, hi, rfl⟩
  rw [ends_spR (fun j hj e => inj i j hi hj e) hi]
  exact h i hi
theorem len_R {n : Nat} (h : ∀ i, (args i).length = n) : ∀ xs, (spR args ok po xc).pre xs → xs.length = n := by
  rintro xs ⟨i, _, rfl⟩
  exact h i
variable {EA : AX} {ρ ρ' : AEnv} {Q : AK} {xs : List A}
theorem i_callR (i : ι) (h : pass xs ρ = some (args i, ρ')) (hi : ok i) (hq : ∀ r ys', po i r ys' → ys'.length = (args i).length → Q r (give xs ys' ρ')) (hx : ∀ C fs ys', xc i C fs ys' → ys'.length = (args i).length → EA C fs (give xs ys' ρ')) : callA (spR args ok po xc) xs EA ρ Q :=
  ⟨args i, ρ', h, ⟨i, hi, rfl⟩, fun r ys' p l => hq r ys' (p i hi rfl) l, fun C fs ys' p l => hx C fs ys' (p.2 i hi rfl) l⟩
theorem i_mkR {C : Addr} {ys : List A} (i : ι) (h : pass xs ρ = some (ys, ρ')) (ha : args i = .obj C [] :: ys) (hi : ok i) (hq : ∀ r y ys', po i r (y :: ys') → ys'.length = ys.length → r = .v .non ∧ Q y (give xs ys' ρ')) (hx : ∀ Ce fs y ys', xc i Ce fs (y :: ys') → ys'.length = ys.length → EA Ce fs (give xs ys' ρ')) : mkSp C (spR args ok po xc) xs EA ρ Q :=
  ⟨ys, ρ', h, ⟨i, hi, ha.symm⟩, fun r y ys' p l => hq r y ys' (p i hi ha.symm) l, fun Ce fs y ys' p l => hx Ce fs y ys' (p.2 i hi ha.symm) l⟩
/-- the same, a function of the index -/
def poI (rs : RX) (out : List A) : A → List A → Prop := fun r xs' => rs = .rt r ∧ xs' = out
def xcI (rs : RX) (out : List A) : Addr → List (Str × D) → List A → Prop := fun C fs xs' => rs = .xc C fs ∧ xs' = out
def spI (args : ι → List A) (ok : ι → Prop) (rs : ι → RX) (out : ι → List A) : ASp := spR args ok (fun i => poI (rs i) (out i)) fun i => xcI (rs i) (out i)
variable {rs : ι → RX} {out : ι → List A}
theorem i_callI {r : A} (i : ι) (h : pass xs ρ = some (args i, ρ')) (hi : ok i) (e : rs i = .rt r) (k : Q r (give xs (out i) ρ')) : callA (spI args ok rs out) xs EA ρ Q :=
  i_callR i h hi (fun r' ys' p _ => by obtain ⟨h1, rfl⟩ := p; rw [e] at h1; cases h1; exact k) fun C fs ys' p _ => by
    have h1 := p.1
    rw [e] at h1
    cases h1
theorem i_mkI {C : Addr} {ys ys' : List A} {y : A} (i : ι) (h : pass xs ρ = some (ys, ρ')) (ha : args i = .obj C [] :: ys) (hi : ok i) (e : rs i = .rt (.v .non)) (ho : out i = y :: ys') (k : Q y (give xs ys' ρ')) : mkSp C (spI args ok rs out) xs EA ρ Q :=
  i_mkR i h ha hi (fun r y' zs p _ => by
    obtain ⟨h1, h2⟩ := p
    rw [e] at h1
    cases h1
    rw [ho] at h2
    cases h2
    exact ⟨rfl, k⟩) fun Ce fs y' zs p _ => by
    have h1 := p.1
    rw [e] at h1
    cases h1
theorem i_callX {C : Addr} {fs : List (Str × D)} (i : ι) (h : pass xs ρ = some (args i, ρ')) (hi : ok i) (e : rs i = .xc C fs) (k : EA C fs (give xs (out i) ρ')) : callA (spI args ok rs out) xs EA ρ Q :=
  i_callR i h hi (fun r' ys' p _ => by have h1 := p.1; rw [e] at h1; cases h1) fun C fs ys' p _ => by
    obtain ⟨h1, rfl⟩ := p
    rw [e] at h1
    cases h1
    exact k
theorem rd_I {a : AS} {O : List Nat} {n : Nat} (inj : ∀ i j, ok i → ok j → args i = args j → i = j) (h : ∀ i, ok i → ∀ DA : AEnds, (∀ r ρ, fin O 0 (args i) ρ = some (out i) → rs i = .rt r → DA.rt r ρ) → (∀ ρ, fin O 0 (args i) ρ = some (out i) → rs i = .rt (.v .non) → DA.nx ρ) → (∀ C fs ρ, fin O 0 (args i) ρ = some (out i) → rs i = .xc C fs → DA.ex C fs ρ) → a DA (startA n (args i))) : ∀ xs, (spI args ok rs out).pre xs → a (endsOf O (spI args ok rs out) xs) (startA n xs) :=
  rd_R inj fun i hi => h i hi _ (fun r ρ h1 h2 => ⟨_, h1, h2, rfl⟩) (fun ρ h1 h2 => ⟨_, h1, h2, rfl⟩) fun C fs ρ h1 h2 => ⟨_, h1, h2, rfl⟩
theorem rd_P {a : AS} {O : List Nat} {n : Nat} (inj : ∀ i j, ok i → ok j → args i = args j → i = j) (h : ∀ i, ok i → ∀ DA : AEnds, (∀ r ρ xs', fin O 0 (args i) ρ = some xs' → po i r xs' → DA.rt r ρ) → (∀ ρ xs', fin O 0 (args i) ρ = some xs' → po i (.v .non) xs' → DA.nx ρ) → (∀ C fs ρ xs', fin O 0 (args i) ρ = some xs' → xc i C fs xs' → DA.ex C fs ρ) → a DA (startA n (args i))) : ∀ xs, (spR args ok po xc).pre xs → a (endsOf O (spR args ok po xc) xs) (startA n xs) :=
  rd_R inj fun i hi => h i hi _ (fun r ρ xs' h1 h2 => ⟨xs', h1, h2⟩) (fun ρ xs' h1 h2 => ⟨xs', h1, h2⟩) fun C fs ρ xs' h1 h2 => ⟨xs', h1, h2⟩
theorem len_I {n : Nat} (h : ∀ i, (args i).length = n) : ∀ xs, (spI args ok rs out).pre xs → xs.length = n := len_R h
end
section
variable {ρ : AEnv} {Q : AK} {G : AEnv → Prop} {ag : AG} {at_ : AT} {ae ak : AE} {vs : List Nat}
/-- a comprehension whose steps leave all names as they are -/
theorem lc_acc (t : D → Bool) (f : D → D) (hG : G ρ) : ∀ (xs acc : List D), acc.length + xs.length ≤ 100000 →
    (∀ x ∈ xs, ∀ (R : D → AEnv → Prop) (N : AEnv → Prop), (∀ ρ4, clearA vs ρ4 = ρ → t x = true → R (f x) ρ4) → (∀ ρ2, clearA vs ρ2 = ρ → t x = false → N ρ2) → ag x ρ fun ρ1 => at_ noX ρ1 fun b ρ2 => if b = true then ae noX ρ2 fun y ρ3 => useA y ρ3 R else N ρ2) →
    Q (.lst (acc ++ (xs.filter t).map f)) ρ → lcA G ag at_ ae vs xs acc ρ Q
  | [], acc, _, _, hq => ⟨hG, by simpa using hq⟩
  | x :: xs, acc, hl, h, hq => by
    simp only [List.length_cons] at hl
    refine ⟨hG, h x (List.mem_cons_self ..) (fun d ρ4 => acc.length ≤ 100000 ∧ lcA G ag at_ ae vs xs (acc ++ [d]) (clearA vs ρ4) Q) (fun ρ2 => lcA G ag at_ ae vs xs acc (clearA vs ρ2) Q) (fun ρ4 e ht => ?_) (fun ρ2 e ht => ?_)⟩
    · refine ⟨by omega, ?_⟩
      rw [e]
      refine lc_acc t f hG xs _ (by simp; omega) (fun y hy => h y (List.mem_cons_of_mem _ hy)) ?_
      simpa [List.filter_cons, ht] using hq
    · rw [e]
      refine lc_acc t f hG xs _ (by omega) (fun y hy => h y (List.mem_cons_of_mem _ hy)) ?_
      simpa [List.filter_cons, ht] using hq
theorem lc_filt (t : D → Bool) (f : D → D) {xs : List D} (hG : G ρ) (hl : xs.length ≤ 100000)
    (h : ∀ x ∈ xs, ∀ (R : D → AEnv → Prop) (N : AEnv → Prop), (∀ ρ4, clearA vs ρ4 = ρ → t x = true → R (f x) ρ4) → (∀ ρ2, clearA vs ρ2 = ρ → t x = false → N ρ2) → ag x ρ fun ρ1 => at_ noX ρ1 fun b ρ2 => if b = true then ae noX ρ2 fun y ρ3 => useA y ρ3 R else N ρ2)
    (hq : Q (.lst ((xs.filter t).map f)) ρ) : lcA G ag at_ ae vs xs [] ρ Q := lc_acc t f hG xs [] (by simpa using hl) h (by simpa using hq)
theorem filter_yes {xs : List D} : xs.filter (fun _ => true) = xs := List.filter_eq_self.mpr fun _ _ => rfl
end
end Vs

set_option Elab.async false
set_option linter.all false
set_option maxRecDepth 100000
set_option maxHeartbeats 1000000
/-! Vs: properties. -/
namespace Vs
open PySem PySem.Spec PyProof.Rows L2
section
variable {X : Cx} {P : Pm} {K : Fg} {C : Addr} {f : Str} {k : Nat} {sp : ASp} {e : Expr} {ae : AE} {pos : Pos}
/-- a property of an own class, read by its getter -/
structure CalP (Pr : Program) (w : World) (K : Fg) (mg : Str → Option Value) (base : Heap) (C : Addr) (f : Str) (k : Nat) (sp : ASp) : Prop where
  ex : ∃ p g fd ps, PropOf K C f p g ∧ Binds K fd ps [] ∧ Fok Pr w K mg base k g fd ps sp
def aProp (C : Addr) (sp : ASp) (ao : AE) : AE := fun EA ρ Q => ao EA ρ fun o ρ1 => (∃ fs, dat o ρ1 = some (.obj C fs)) ∧ callA sp [o] noX ρ1 Q
theorem sim_prop {to : TE} (h : SimE K P to ae) : SimE K P (tProp C (lift K sp) [] (fun _ _ _ => False) to) (aProp C sp ae) := by
  intro c EA ho hw τ S H σ ρ Q R s q kk
  refine h c EA ho hw τ S H σ ρ _ _ s q fun vo H0 ⟨S0, ρ0, o, s0, ⟨fs, hob⟩, q0⟩ => ?_
  have r1 := s0.dat (List.mem_cons_self ..) hob
  simp only [Rep] at r1
  obtain ⟨a, dx, ws, rfl, a1, _⟩ := r1
  refine ⟨a, dx, ws, rfl, a1, ?_⟩
  exact lift_mono (call_sim (W := fun _ _ _ _ => False) (EA := noX) xok_no rfl (vs := [.ref a]) s0 q0) (fun v H' hv => kk v H' hv) fun _ _ _ h => h
theorem qe_prop (he : QE X P e ae) (c : Cls X.K C) (F : CalP X.prog X.w X.K X.mg X.base C f k sp) (hr : Room (k + 1) X.A) (hab : attributeBase e f X.env (eval e X.env) = eval e X.env := by rfl) : QE X P (.Attribute e f pos) (aProp C sp ae) := by
  obtain ⟨t, pe, s⟩ := he.ex
  obtain ⟨p, g, fd, ps, hp, hb, hF⟩ := F.ex
  exact ⟨_, pe_prop (E := fun _ _ _ => False) pe c hp hF hr hb .nil (fun pins σ H s e s' I z => cx_false _ _ _ _ _ z) hab, sim_prop s⟩
end
end Vs

set_option Elab.async false
set_option linter.all false
set_option maxRecDepth 100000
set_option maxHeartbeats 2000000
/-! Vs: not-equal of tuples that hold dicts and instances: equal ones. -/
namespace Vs
section
open PySem PySem.SeqAt
open AutoSeq1 (wpAny_loadPart')
open MeetsSeq MeetsSeq2 MeetsSeq3 SeqRoads2
variable {prog : Program} {w : World} {A : Around} {Rz : Result → Shared → Prop}
theorem tupNe (p q : Addr) (us vs : Array Value) (m1 m2 : Nat) (e1 e2 : Option Addr) (l1 l2 : Array (Option Value)) (len : us.size = vs.size) (J : Nat → Shared → Prop)
    (go : ∀ k (a1 : k < us.size) (a2 : k < vs.size) s, J k s → wpAny (model prog w) A.in1 (eqBool us[k] vs[k]) (fun r z => r = true ∧ J (k + 1) z) (fun e z => Rz (.error e) z) s)
    (ends : ∀ s, J us.size s → Rz (.ok (.ret (.bool false))) s) {s : Shared} (g1 : s.heap.get? p = some { cls := .type "tuple", dict := e1, data := .seq us m1, slots := l1 }) (g2 : s.heap.get? q = some { cls := .type "tuple", dict := e2, data := .seq vs m2, slots := l2 }) (j0 : J 0 s) :
    wpAny (model prog w) A.in1 (Builtin.«tuple.__ne__» ⟨[.ref p, .ref q], []⟩) (GQ.FinOf prog w A Rz) (fun e z => Rz (.error e) z) s := by
  have isSub := AutoSeq1.sub_tuple_tuple
  have zl : (us.toList.zip vs.toList).length = us.size := by simp [len]
  have j1 := j0
  obtain ⟨hp, ge, dr, tk, os⟩ := s
  wp_walk using wpAny_loadPart' g1, wpAny_loadPart' g2, wpAny_forIn_list _ (fun more c z => c.1 = none ∧ ∃ k, more = (us.toList.zip vs.toList).drop k ∧ k ≤ us.size ∧ J k z) _
  case turn =>
    rintro ⟨a, b⟩ more c z ⟨c0, k, hm, hk, hJ⟩
    have lt : k < (us.toList.zip vs.toList).length := by
      rcases Nat.lt_or_ge k (us.toList.zip vs.toList).length with x | x
      · exact x
      · rw [List.drop_of_length_le x] at hm; cases hm
    have a1 : k < us.size := zl ▸ lt
    have a2 : k < vs.size := len ▸ a1
    rw [List.drop_eq_getElem_cons lt] at hm
    injection hm with hab hmore
    have ea : a = us[k] := by have := congrArg Prod.fst hab; simpa using this
    have eb : b = vs[k] := by have := congrArg Prod.snd hab; simpa using this
    subst ea eb
    refine wpAny_bind (wpAny_mono (go k a1 a2 z hJ) (fun r z2 hz => ?_) fun _ _ x => x)
    obtain ⟨rfl, hz⟩ := hz
    wp_walk
    exact ⟨rfl, k + 1, hmore, a1, hz⟩
  case fin =>
    rintro ⟨c1, c2⟩ z ⟨c0, k, hm, hk, hJ⟩
    simp only at c0
    subst c0
    have ge' : us.size ≤ k := by
      rcases Nat.lt_or_ge k (us.toList.zip vs.toList).length with x | x
      · rw [List.drop_eq_getElem_cons x] at hm; cases hm
      · exact zl ▸ x
    have ek : k = us.size := by omega
    have done_ : Rz (.ok (.ret (.bool false))) z := ends z (ek ▸ hJ)
    wp_walk
    simpa [Builtin.Tuple.tupleCompareSizes, len] using done_
  case h =>
    exact ⟨rfl, 0, rfl, Nat.zero_le _, j1⟩
theorem rcTupNe {E : Value → Shared → Prop} {s : Shared} {p q : Addr} {us vs : Array Value} {Q : Value → Shared → Prop} (len : us.size = vs.size) (hu : A.units < cLine) (J : Nat → Shared → Prop) (h1 : s.heap.IsTuple p us) (h2 : s.heap.IsTuple q vs)
    (go : ∀ k (a1 : k < us.size) (a2 : k < vs.size) s, J k s → wpAny (model prog w) A.in1 (eqBool us[k] vs[k]) (fun r z => r = true ∧ J (k + 1) z) E s)
    (ends : ∀ s, J us.size s → Q (.bool false) s) (j0 : J 0 s) : wpAny (model prog w) A (richCompare .NotEq (.ref p) (.ref q)) Q E s := by
  obtain ⟨⟨c1, d1, t1, l1⟩, o1, e1, m1, f1⟩ := id h1
  obtain ⟨⟨c2, d2, t2, l2⟩, o2, e2, m2, f2⟩ := id h2
  simp only at e1 f1 e2 f2
  subst e1 f1 e2 f2
  refine wpAny_richCompare_same_room (op := .NotEq) ⟨_, o1, rfl⟩ ⟨_, o2, rfl⟩ F.slot_tuple_ne (GQ.call_here F.slot_tuple_ne ⟨_, o1, rfl⟩ F.entry_tuple_ne (F.args_tuple_ne_2 _ _) ?_) hu
  exact tupNe (Rz := wants (fun v z => v ≠ .notImplemented ∧ Q v z) E) p q us vs m1 m2 d1 d2 l1 l2 len J go (fun z hz => ⟨(fun x => nomatch x), ends z hz⟩) o1 o2 j0
end
section
open PySem PySem.Spec PyProof.Rows L2
variable {X : Cx} {P : Pm} {K : Fg} {n : Nat}
/-- two values of one datum -/
def DRep (K : Fg) (d : D) : Eqv := fun x y H => Rep K H d x ∧ Rep K H d y
theorem mon_rep {d : D} : Mon (DRep K d) := fun x y H H' e h => ⟨Rep.le (Le.of_same e) d x h.1, Rep.le (Le.of_same e) d y h.2⟩
theorem deq_refl : ∀ (n : Nat) (d : D), PlD n d → deq d d = true := fun n d h => by
  rw [deq_pd n d d h h]
  exact SeqAt.eqv_refl_plain _ (pd_plain n d h).1
theorem eqG_plain {d : D} (h : PlD 20 d) : EqG X n (DRep X.K d) := by
  intro A pins s σ H x y u v sb I rx ry dd
  obtain ⟨as, r1⟩ := Dp.reads I _ x u (rep_dp 20 d x h dd.1) rx
  obtain ⟨bs, r2⟩ := Dp.reads I _ y v (rep_dp 20 d y h dd.2) ry
  obtain ⟨a1, a2⟩ := pd_plain 20 d h
  have hu := sb.room.units
  have q := SeqAt.eqAt_plain _ _ A s u v as bs r1 r2 a1 a1 (by have := Nat.min_le_left (pd d).depth (pd d).depth; omega)
  rw [← deq_pd 20 d d h h, deq_refl 20 d h] at q
  exact q X.prog X.w X.xe _ ⟨rfl, H, I, Ext.rfl'⟩
theorem eqG_dic0 : EqG X n (DRep X.K (.dic [])) := by
  intro A pins s σ H x y u v sb I rx ry dd
  obtain ⟨r1, r2⟩ := dd
  simp only [Rep, RepK] at r1 r2
  obtain ⟨a, ws, rfl, h1, rfl⟩ := r1
  obtain ⟨b, us, rfl, h2, rfl⟩ := r2
  cases rx
  cases ry
  have hu := sb.room.units
  by_cases hab : a = b
  · subst hab
    exact SeqAt.EqAt.same (A := A) (s := s) (.ref a) X.prog X.w X.xe _ ⟨rfl, H, I, Ext.rfl'⟩
  · obtain ⟨_, ya, va, ra, da⟩ := h1.ok I.hok
    obtain ⟨_, yb, vb, rb, db⟩ := h2.ok I.hok
    have ea : va = [] := List.eq_nil_of_length_eq_zero ra.length.symm
    have eb : vb = [] := List.eq_nil_of_length_eq_zero rb.length.symm
    subst ea eb
    have t : PySem.W.EqTree X.prog X.w s (0 + 1) (.ref a) (.ref b) _ := .dicts (e := fun _ => true) hab ya yb da db (fun _ _ _ z => nomatch z)
    exact t.at A (by omega) X.xe _ ⟨rfl, H, I, Ext.rfl'⟩
/-- an own class's instances, by its own == -/
theorem eqG_own {C : Addr} {sp : ASp} {fs : List (Str × D)} (T : EqC X.prog X.w X.K X.mg X.base C n sp) (hp : sp.pre [.v (.obj C fs), .v (.obj C fs)]) (hq : ∀ r xs', sp.post [.v (.obj C fs), .v (.obj C fs)] r xs' → r = .v (.bl true)) (hx : ∀ Ce gs xs', ¬ sp.exc [.v (.obj C fs), .v (.obj C fs)] Ce gs xs') : EqG X n (DRep X.K (.obj C fs)) := by
  obtain ⟨f, fd, ps, hs, hf, hb, F⟩ := T.ex
  have F' : FnOk X.prog X.w X.K X.mg X.base (L2.CX X.prog X.w) n f fd ps (spEq fun a b H => Rep X.K H (.obj C fs) (.ref a) ∧ Rep X.K H (.obj C fs) (.ref b)) := F.imp fun vs H Q E z => by
    obtain ⟨a, b, rfl, ⟨ra, rb⟩, q⟩ := z
    refine ⟨⟨H, H, []⟩, H, [.v (.obj C fs), .v (.obj C fs)], rfl, rfl, ?_, fun _ _ e => e, fun _ _ e => e, hp, fun r xs' v H' S' h1 _ _ st => ?_, fun Ce gs xs' dd H' S' h1 => (hx _ _ _ h1).elim⟩
    · refine ⟨⟨[], ?_, List.nodup_nil, (fun _ h => nomatch h)⟩, ?_, (fun _ _ h => nomatch h), Le.of_same (fun _ _ e => e), (fun _ _ e => e), (fun _ _ => rfl), (fun _ _ e => e), (fun _ h => nomatch h)⟩
      · simp [envP, tmpP, RepP, RepA, ra, rb]
      · exact envOk_some (vs := [.ref a, .ref b]) (xs := [.v (.obj C fs), .v (.obj C fs)]) rfl fun x hx => by
          have : x = .v (.obj C fs) := by simpa using hx
          subst this
          rfl
    · have e := hq _ _ h1
      subst e
      obtain ⟨g, hg⟩ := st.held2 (List.mem_cons_self ..) (y := .v (.bl true)) rfl
      simp only [RepA, Rep] at hg
      rw [hg.1]
      exact q H' st.r
  refine (eqG_ins (E := fun _ _ _ => False) F' hs hf hb (fun pins σ H s e s' I z => (cx_false _ _ _ _ _ z).elim)).imp fun x y H d => ?_
  obtain ⟨h1, h2⟩ := d
  have h1' := h1
  have h2' := h2
  simp only [Rep] at h1 h2
  obtain ⟨a, dx, ws, rfl, a1, _⟩ := h1
  obtain ⟨b, dy, us, rfl, b1, _⟩ := h2
  exact ⟨a, b, dx, dy, ws, us, rfl, rfl, a1, b1, h1', h2'⟩
def rNeT (K : Fg) (G : D → Prop) : R2 := fun x y H Q => ∃ ds, Rep K H (.tup ds) x ∧ Rep K H (.tup ds) y ∧ (∀ d ∈ ds, G d) ∧ ∀ H', Ext H H' → Q (.bl false) H'
theorem repL_prs {ds : List D} {H : Hp} : ∀ {es : List D} {xs ys : List V}, (∀ d ∈ es, d ∈ ds) → RepL K H es xs → RepL K H es ys → Prs (fun x y H => ∃ d ∈ ds, DRep K d x y H) xs ys H
  | [], xs, ys, _, h1, h2 => by
    simp only [RepL] at h1 h2
    subst h1 h2
    exact Prs.nil
  | e :: es, xs, ys, hm, h1, h2 => by
    simp only [RepL] at h1 h2
    obtain ⟨x, xs', rfl, a1, a2⟩ := h1
    obtain ⟨y, ys', rfl, b1, b2⟩ := h2
    exact Prs.cons ⟨e, hm e (List.mem_cons_self ..), a1, b1⟩ (repL_prs (fun d hd => hm d (List.mem_cons_of_mem _ hd)) a2 b2)
theorem op_neT {G : D → Prop} (hG : ∀ d, G d → EqG X n (DRep X.K d)) (hr : Room (n + 1) X.A) : OpR X (compareOp .NotEq) (rNeT X.K G) := by
  intro pins s σ H x y v u Q I rx ry h
  obtain ⟨ds, r1, r2, hd, q⟩ := h
  simp only [Rep] at r1 r2
  obtain ⟨a, xs, rfl, a1, a2⟩ := r1
  obtain ⟨b, ys, rfl, b1, b2⟩ := r2
  cases rx
  cases ry
  have E : EqG X n (fun x y H => ∃ d ∈ ds, DRep X.K d x y H) := fun A pins s σ H x y u v sb I rx ry ⟨d, hm, z⟩ => hG d (hd d hm) A pins s σ H x y u v sb I rx ry z
  have M : Mon (fun x y H => ∃ d ∈ ds, DRep X.K d x y H) := fun x y H H' e ⟨d, hm, z⟩ => ⟨d, hm, mon_rep x y H H' e z⟩
  have p := repL_prs (K := X.K) (ds := ds) (fun _ h => h) a2 b2
  obtain ⟨its, r, e, z⟩ := I.tuple a1
  obtain ⟨its2, r', e', z'⟩ := I.tuple b1
  have hsz : its.toArray.size = its2.toArray.size := by rw [List.size_toArray, List.size_toArray, ← r.length, ← r'.length]; exact p.1
  have sb : Sub X (n + 1) X.A := ⟨hr, rfl⟩
  show wpAny (model X.prog X.w) X.A (richCompare .NotEq (.ref a) (.ref b)) (EP X pins σ Q) X.xe s
  exact rcTupNe hsz hr.units0 (fun _ t => LoopI X pins σ H t) e e' (fun i h1 h2 t w => turnG M E sb p r r' i h1 h2 t w) (fun t ⟨H', I', ee⟩ => ⟨.bl false, H', I', rfl, q H' ee⟩) ⟨H, I, Ext.rfl'⟩
theorem Stt.grow {c : Ctx} {S H H' : Hp} {σ : L2.St} {ρ : AEnv} {τ : List (V × A)} (s : Stt K c S H σ ρ τ) (e : Ext H H') : Stt K c S H' σ ρ τ := by
  refine ⟨?_, s.env, s.loc, fun a o h => ?_, fun a o h => e _ _ (s.r a o h), s.new, s.up, s.os⟩
  · obtain ⟨fp, h1, h2, h3⟩ := s.own
    refine ⟨fp, RepP.keep (fun _ _ e => e) (fun a ha => ?_) h1, h2, h3⟩
    have := h1.there a ha
    cases q : H a with
    | none => exact absurd q this
    | some o => exact e _ _ q
  · rcases s.le a o h with q | ⟨ob, ws, q1, q2⟩
    · exact .inl (e _ _ q)
    · exact .inr ⟨ob, ws, q1, e _ _ q2⟩
def aNeT (G : D → Prop) : AR2 := fun x y ρ Q => ∃ ds, dat x ρ = some (.tup ds) ∧ dat y ρ = some (.tup ds) ∧ (∀ d ∈ ds, G d) ∧ Q (.v (.bl false)) ρ
theorem s_neT {G : D → Prop} : Sim2 K (rNeT K G) (aNeT G) := by
  intro c τ S H σ ρ vx vy x y Q R s q k
  obtain ⟨ds, h1, h2, hd, q⟩ := q
  obtain ⟨r1, r2⟩ := two_dat s h1 h2
  exact ⟨ds, r1, r2, hd, fun H' e => k _ _ (KE.sc ((s.grow e).drop.drop) rfl q)⟩
end
end Vs

set_option Elab.async false
set_option linter.all false

set_option Elab.async false
set_option linter.all false
set_option maxRecDepth 100000
set_option maxHeartbeats 1000000
/-! Vs: defaults of a class's __init__; not-equal of any tuples. -/
namespace Vs
open PySem PySem.Spec PyProof.Rows L2
section
variable {X : Cx} {P : Pm} {K : Fg} {C : Addr} {x : Str} {k n : Nat} {sp : ASp} {ps : List Str} {dd : List D} {e : Expr} {es : List Expr} {aa : AA} {p pos : Pos}
/-- a class with an __init__ whose last parameters are filled by defaults -/
structure CalD (Pr : Program) (w : World) (K : Fg) (mg : Str → Option Value) (base : Heap) (x : Str) (C : Addr) (k : Nat) (ps : List Str) (sp : ASp) (dd : List D) : Prop where
  ex : ∃ f fd ds dvs, Mk K C f ∧ mg x = some (.ref C) ∧ Binds K fd ps ds ∧ Vals dvs ds ∧ Dfl K dd dvs ∧ Fok Pr w K mg base k f fd ps sp
theorem qe_makeD (F : CalD X.prog X.w X.K X.mg X.base x C k ps sp dd) (hr : Room (k + 1) X.A) (hg : Gl X x) (hx : ∀ σ, PassesAt (L2.CX X.prog X.w) X σ (fun cls d H => P.W cls d σ H)) (ha : QA X P (e :: es) aa)
    (hdb : (x == ("__debug__" : Str)) = false := by decide) (he : starEach (e :: es) X.env = (false, eval e X.env) :: starEach es X.env := by rfl) (hpl : (backTo pos (starEach es X.env)).any (·.1) = false := by rfl) :
    QE X P (.Call (.Name x p) (e :: es) [] pos) (aMake C sp dd aa) := let ⟨_, _, _, _, h1, h2, h3, h4, h5, h6⟩ := F.ex; qe_make h1 h6 hr hg h2 h3 h4 h5 hx ha hdb he hpl
theorem dfl_tup0 {a : Addr} (h : tup0B K a = true) : Dfl K [.tup []] [.ref a] := fun S => by
  simp only [RepL, Rep]
  refine ⟨_, _, rfl, ⟨a, [], rfl, .inr ?_, rfl⟩, rfl⟩
  unfold tup0B at h
  split at h
  · rename_i c dd its m sl hl
    simp only [Bool.and_eq_true, decide_eq_true_eq] at h
    obtain ⟨rfl, h0⟩ := h
    have e : its = #[] := Array.eq_empty_of_size_eq_zero h0
    subst e
    exact ⟨_, #[], m, hl, rfl, rfl, Nat.zero_le _, .nil⟩
  · cases h
/-- data that are equal to themselves -/
def GOk (Pr : Program) (w : World) (K : Fg) (mg : Str → Option Value) (base : Heap) (n : Nat) (d : D) : Prop := PlD 20 d ∨ d = .dic [] ∨ ∃ C fs sp k, k ≤ n ∧ EqC Pr w K mg base C k sp ∧ d = .obj C fs ∧ sp.pre [.v d, .v d] ∧ (∀ r xs', sp.post [.v d, .v d] r xs' → r = .v (.bl true)) ∧ ∀ Ce gs xs', ¬ sp.exc [.v d, .v d] Ce gs xs'
theorem GOk.eqG {d : D} (h : GOk X.prog X.w X.K X.mg X.base n d) : EqG X n (DRep X.K d) := by
  rcases h with h | rfl | ⟨C, fs, sp, k, hk, T, rfl, h1, h2, h3⟩
  · exact eqG_plain h
  · exact eqG_dic0
  · exact (eqG_own T h1 h2 h3).mono hk
def aNeX (G : D → Prop) : AR2 := fun x y ρ Q => aNe x y ρ Q ∨ aNeT G x y ρ Q
theorem s_neX {r : R2} {G : D → Prop} (h : Sim2 K r aNe) : Sim2 K (fun x y H Q => r x y H Q ∨ rNeT K G x y H Q) (aNeX G) := by
  intro c τ S H σ ρ vx vy x y Q R s q k
  rcases q with q | q
  · exact .inl (h c τ S H σ ρ vx vy x y Q R s q k)
  · exact .inr (s_neT c τ S H σ ρ vx vy x y Q R s q k)
theorem or_neX {G : D → Prop} {m : Nat} (hG : ∀ d, G d → GOk X.prog X.w X.K X.mg X.base n d) (hr : Room m X.A) (hm : n + 1 ≤ m := by decide) : OpR X (compareOp .NotEq) (fun x y H Q => rNeR X.K x y H Q ∨ rNeT X.K G x y H Q) := Vs.OpR.or (or_ne hr.units) (op_neT (fun d h => (hG d h).eqG) (hr.mono hm))
theorem i_neX {ρ : AEnv} {Q : AK} {G : D → Prop} {x y : A} (h : aNe x y ρ Q) : aNeX G x y ρ Q := .inl h
theorem i_neT {ρ : AEnv} {Q : AK} {G : D → Prop} {x y : A} {ds : List D} (h1 : dat x ρ = some (.tup ds)) (h2 : dat y ρ = some (.tup ds)) (h3 : ∀ d ∈ ds, G d) (k : Q (.v (.bl false)) ρ) : aNeX G x y ρ Q := .inr ⟨ds, h1, h2, h3, k⟩
end
end Vs

set_option Elab.async false
set_option linter.all false
set_option maxRecDepth 100000
set_option maxHeartbeats 1000000
/-! journals: plain data and what is good. -/
namespace Law
open PySem PySem.Spec PyProof.Rows L2 Vs
/-- the letters -/
def lets : Str := "abcdefghijklmnopqrstuvwxyz"
def nameS (x : Str) : Bool := decide (1 ≤ x.length) && decide (x.length ≤ 8) && x.cps.toList.all fun c => decide (c ∈ lets.cps.toList)
structure Sta where
  s : Str
  k : Str
  m : Int
  a : Int
inductive Ent where
  | row (i : Int) (s k : Str) (m a t : Int)
  | fix (i m a t : Int)
  | gone (i t : Int)
def Sta.d (x : Sta) : D := .tup [.str x.s, .str x.k, .int x.m, .int x.a]
def staD : Option Sta → D
  | none => .non
  | some x => x.d
def Ent.d : Ent → D
  | .row i s k m a t => .tup [.str ("row" : Str), .int i, .str s, .str k, .int m, .int a, .int t]
  | .fix i m a t => .tup [.str ("fix" : Str), .int i, .int m, .int a, .int t]
  | .gone i t => .tup [.str ("gone" : Str), .int i, .int t]
def Ent.i : Ent → Int
  | .row i _ _ _ _ _ => i
  | .fix i _ _ _ => i
  | .gone i _ => i
def Ent.t : Ent → Int
  | .row _ _ _ _ _ t => t
  | .fix _ _ _ t => t
  | .gone _ t => t
theorem Ent.inj {e e' : Ent} (h : e.d = e'.d) : e = e' := by
  cases e <;> cases e' <;> simp [Ent.d] at h ⊢ <;> simp_all
theorem map_inj {α β : Type} {f : α → β} (hf : ∀ a b, f a = f b → a = b) : ∀ {xs ys : List α}, xs.map f = ys.map f → xs = ys
  | [], [], _ => rfl
  | [], _ :: _, h => by simp at h
  | _ :: _, [], h => by simp at h
  | x :: xs, y :: ys, h => by
    simp only [List.map_cons, List.cons.injEq] at h
    rw [hf _ _ h.1, map_inj hf h.2]
def esD (es : List Ent) : List D := es.map Ent.d
theorem esD_inj {es fs : List Ent} (h : esD es = esD fs) : es = fs := map_inj (fun _ _ => Ent.inj) h
abbrev Sts := List (Int × Option Sta)
def stsK (st : Sts) : List (Key × D) := st.map fun p => (Sum.inl p.1, staD p.2)
theorem staD_inj {o p : Option Sta} (h : staD o = staD p) : o = p := by
  cases o <;> cases p <;> simp only [staD, Sta.d] at h ⊢ <;> first | rfl | cases h | skip
  rename_i x y
  cases x; cases y
  simp at h
  simp [h]
theorem stsK_inj {o p : Sts} (h : stsK o = stsK p) : o = p := map_inj (fun a b e => by
  cases a; cases b
  simp at e
  rw [e.1, staD_inj e.2]) h
def sGet : Sts → Int → Option (Option Sta)
  | [], _ => none
  | (j, o) :: r, i => if j = i then some o else sGet r i
def sPut (st : Sts) (i : Int) (o : Option Sta) : Sts := if (st.any fun p => decide (p.1 = i)) = true then st.map (fun p => if p.1 = i then (p.1, o) else p) else st ++ [(i, o)]
theorem val_sts : ∀ (st : Sts) (i : Int), valD (stsK st) (.inl i) = (sGet st i).map staD
  | [], i => rfl
  | (j, o) :: r, i => by
    have ih := val_sts r i
    simp only [stsK, List.map_cons, valD, sGet, Sum.inl.injEq] at ih ⊢
    split <;> simp_all
theorem put_sts (st : Sts) (i : Int) (o : Option Sta) : putD (stsK st) (.inl i) (staD o) = stsK (sPut st i o) := by
  unfold putD sPut stsK
  simp only [List.any_map, Function.comp_def, Sum.inl.injEq]
  split
  · simp only [List.map_map, Function.comp_def, Sum.inl.injEq]
    refine List.map_congr_left fun p _ => ?_
    split <;> simp
  · simp
theorem any_get : ∀ (st : Sts) (i : Int), (st.any fun p => decide (p.1 = i)) = (sGet st i).isSome
  | [], _ => rfl
  | (j, o) :: r, i => by
    simp only [List.any_cons, sGet, any_get r i]
    split <;> simp_all
abbrev Lat := List (Str × Int)
def latK (l : Lat) : List (Key × D) := l.map fun p => (Sum.inr p.1, .int p.2)
theorem latK_inj {o p : Lat} (h : latK o = latK p) : o = p := map_inj (fun a b e => by
  cases a; cases b
  simp at e
  rw [e.1, e.2]) h
def lGet : Lat → Str → Option Int
  | [], _ => none
  | (j, o) :: r, i => if j = i then some o else lGet r i
theorem val_lat : ∀ (st : Lat) (i : Str), valD (latK st) (.inr i) = (lGet st i).map .int
  | [], i => rfl
  | (j, o) :: r, i => by
    have ih := val_lat r i
    simp only [latK, List.map_cons, valD, lGet, Sum.inr.injEq] at ih ⊢
    split <;> simp_all
/-- lates as a book takes them -/
structure LatOk (l : Lat) : Prop where
  lo : 1 ≤ l.length
  hi : l.length ≤ 8
  nm : ∀ p ∈ l, nameS p.1 = true
  z : ∀ p ∈ l, 0 ≤ p.2 ∧ p.2 ≤ 1000000
  nd : (l.map (·.1)).Nodup
theorem lGet_mem : ∀ {l : Lat} {s : Str} {x : Int}, lGet l s = some x → (s, x) ∈ l
  | (j, o) :: r, s, x, h => by
    simp only [lGet] at h
    split at h
    · rename_i e
      cases h
      rw [e]
      exact List.mem_cons_self ..
    · exact List.mem_cons_of_mem _ (lGet_mem h)
theorem mem_lGet : ∀ {l : Lat} {s : Str} {x : Int}, (l.map (·.1)).Nodup → (s, x) ∈ l → lGet l s = some x
  | (j, o) :: r, s, x, nd, h => by
    simp only [List.map_cons, List.nodup_cons] at nd
    simp only [lGet]
    rcases List.mem_cons.mp h with h | h
    · cases h
      simp
    · have ne : j ≠ s := fun e => nd.1 (by rw [e]; exact List.mem_map.mpr ⟨_, h, rfl⟩)
      rw [if_neg ne]
      exact mem_lGet nd.2 h
theorem lGet_perm {l m : Lat} (nd : (l.map (·.1)).Nodup) (p : l.Perm m) : lGet l = lGet m := by
  funext s
  have nd' : (m.map (·.1)).Nodup := (p.map _).nodup_iff.mp nd
  cases h : lGet l s with
  | some x => exact (mem_lGet nd' (p.subset (lGet_mem h))).symm
  | none =>
    cases h' : lGet m s with
    | none => rfl
    | some x => rw [mem_lGet nd (p.symm.subset (lGet_mem h'))] at h; cases h
/-! ### what is good -/
def inT (m t l : Int) : Bool := decide (m ≤ t) && decide (t ≤ m + l)
def Ent.ok : Ent → Bool
  | .row i s k _ _ _ => decide (0 ≤ i) && (nameS s && nameS k)
  | .fix i _ _ _ => decide (0 ≤ i)
  | .gone i _ => decide (0 ≤ i)
def lateOk (last : Option Int) (t : Int) : Bool := match last with
  | none => true
  | some x => !decide (t < x)
def openO (g : Str → Option Int) (st : Sts) (i t : Int) (k : Int → Bool) : Bool := match sGet st i with
  | some (some o) => (match g o.s with
    | some l => !decide (o.m + l < t) && k l
    | none => false)
  | _ => false
def good (g : Str → Option Int) (st : Sts) (last : Option Int) (e : Ent) : Bool := e.ok && (lateOk last e.t && match e with
  | .row i s _ m _ t => (sGet st i).isNone && (match g s with
    | some l => inT m t l
    | none => false)
  | .fix i m _ t => openO g st i t fun l => inT m t l
  | .gone i t => openO g st i t fun _ => true)
def behind (st : Sts) : Ent → Option Sta
  | .row _ s k m a _ => some ⟨s, k, m, a⟩
  | .fix i m a _ => (match sGet st i with
    | some (some o) => some ⟨o.s, o.k, m, a⟩
    | _ => none)
  | .gone _ _ => none
def after (st : Sts) (e : Ent) : Sts := sPut st e.i (behind st e)
def runE (st : Sts) (es : List Ent) : Sts := es.foldl after st
def goods (g : Str → Option Int) : Sts → Option Int → List Ent → Bool
  | _, _, [] => true
  | st, last, e :: es => good g st last e && goods g (after st e) (some e.t) es
def fbad (g : Str → Option Int) : Sts → Option Int → List Ent → Nat → Option Nat
  | _, _, [], _ => none
  | st, last, e :: es, n => if good g st last e = true then fbad g (after st e) (some e.t) es (n + 1) else some n
def lastE (last : Option Int) (es : List Ent) : Option Int := es.foldl (fun _ e => some e.t) last
theorem fbad_goods {g : Str → Option Int} : ∀ (es : List Ent) (st : Sts) (last : Option Int) (n : Nat), fbad g st last es n = none ↔ goods g st last es = true
  | [], _, _, _ => by simp [fbad, goods]
  | e :: es, st, last, n => by
    simp only [fbad, goods, Bool.and_eq_true]
    split
    · rename_i h
      rw [fbad_goods es]
      simp [h]
    · rename_i h
      simp [h]
theorem fbad_app {g : Str → Option Int} {e : Ent} : ∀ (es : List Ent) (st : Sts) (last : Option Int) (n : Nat), goods g st last es = true → fbad g st last (es ++ [e]) n = if good g (runE st es) (lastE last es) e = true then none else some (n + es.length)
  | [], st, last, n, _ => rfl
  | x :: es, st, last, n, h => by
    simp only [goods, Bool.and_eq_true] at h
    have h' := fbad_app (e := e) es (after st x) (some x.t) (n + 1) h.2
    have e1 : n + 1 + es.length = n + (x :: es).length := by simp; omega
    rw [e1] at h'
    simp only [List.cons_append]
    unfold fbad
    rw [if_pos h.1]
    exact h'
theorem goods_app {g : Str → Option Int} : ∀ (es fs : List Ent) (st : Sts) (last : Option Int), goods g st last (es ++ fs) = (goods g st last es && goods g (runE st es) (lastE last es) fs)
  | [], fs, st, last => by simp [goods, runE, lastE]
  | x :: es, fs, st, last => by
    simp only [List.cons_append, goods, goods_app es fs, runE, lastE, List.foldl_cons, Bool.and_assoc]
/-! ### the states -/
theorem sGet_put (st : Sts) (i j : Int) (o : Option Sta) : sGet (sPut st i o) j = if i = j then some o else sGet st j := by
  have h1 : ∀ st : Sts, sGet (st.map fun p => if p.1 = i then (p.1, o) else p) j = if i = j then (sGet st j).map fun _ => o else sGet st j := by
    intro st
    induction st with
    | nil => simp [sGet]
    | cons p r ih =>
      obtain ⟨a, b⟩ := p
      simp only [List.map_cons]
      by_cases e : a = i
      · subst e
        simp only [if_true, sGet]
        split
        · simp
        · rw [ih]
          rename_i ne
          simp [ne]
      · simp only [if_neg e, sGet]
        split
        · rename_i e2
          subst e2
          simp [Ne.symm e]
        · exact ih
  have h2 : ∀ st : Sts, sGet (st ++ [(i, o)]) j = (match sGet st j with
      | some x => some x
      | none => if i = j then some o else none) := by
    intro st
    induction st with
    | nil => simp [sGet]
    | cons p r ih =>
      obtain ⟨a, b⟩ := p
      simp only [List.cons_append, sGet]
      split
      · rfl
      · exact ih
  unfold sPut
  rw [any_get]
  by_cases h : (sGet st i).isSome = true
  · rw [if_pos h, h1]
    by_cases e : i = j
    · subst e
      obtain ⟨x, hx⟩ := Option.isSome_iff_exists.mp h
      simp [hx]
    · simp [e]
  · rw [if_neg h, h2]
    have hn : sGet st i = none := by simpa using h
    by_cases e : i = j
    · subst e
      simp [hn]
    · simp only [e, if_false]
      cases sGet st j <;> rfl
theorem keys_put (st : Sts) (i : Int) (o : Option Sta) : (sPut st i o).map (·.1) = if (sGet st i).isSome = true then st.map (·.1) else st.map (·.1) ++ [i] := by
  unfold sPut
  rw [any_get]
  split
  · rw [List.map_map]
    refine List.map_congr_left fun p _ => ?_
    simp only [Function.comp]
    split <;> rfl
  · simp
theorem get_none_iff : ∀ (st : Sts) (i : Int), sGet st i = none ↔ i ∉ st.map (·.1)
  | [], i => by simp [sGet]
  | (j, o) :: r, i => by
    simp only [sGet, List.map_cons, List.mem_cons, not_or]
    split
    · rename_i e
      simp [e]
    · rename_i e
      rw [get_none_iff r i]
      exact ⟨fun h => ⟨fun z => e z.symm, h⟩, fun h => h.2⟩
theorem nodup_put {st : Sts} {i : Int} {o : Option Sta} (nd : (st.map (·.1)).Nodup) : ((sPut st i o).map (·.1)).Nodup := by
  rw [keys_put]
  split
  · exact nd
  · rename_i h
    have hn : sGet st i = none := by simpa using h
    have := (get_none_iff st i).mp hn
    rw [List.nodup_append]
    refine ⟨nd, by simp, fun a ha b hb => ?_⟩
    have : b = i := by simpa using hb
    subst this
    exact fun e => (get_none_iff st b).mp hn (e ▸ ha)
theorem mem_get : ∀ {st : Sts} {i : Int} {o : Option Sta}, (st.map (·.1)).Nodup → (i, o) ∈ st → sGet st i = some o
  | (j, x) :: r, i, o, nd, h => by
    simp only [List.map_cons, List.nodup_cons] at nd
    simp only [sGet]
    rcases List.mem_cons.mp h with h | h
    · cases h
      simp
    · have ne : j ≠ i := fun e => nd.1 (by rw [e]; exact List.mem_map.mpr ⟨_, h, rfl⟩)
      rw [if_neg ne]
      exact mem_get nd.2 h
theorem get_mem : ∀ {st : Sts} {i : Int} {o : Option Sta}, sGet st i = some o → (i, o) ∈ st
  | (j, x) :: r, i, o, h => by
    simp only [sGet] at h
    split at h
    · rename_i e
      cases h
      rw [e]
      exact List.mem_cons_self ..
    · exact List.mem_cons_of_mem _ (get_mem h)
/-- the states' streams are in the book -/
def StOk (g : Str → Option Int) (st : Sts) : Prop := ∀ i o, sGet st i = some (some o) → (g o.s).isSome = true
theorem stOk_nil {g : Str → Option Int} : StOk g [] := fun _ _ h => nomatch h
theorem openO_some {g : Str → Option Int} {st : Sts} {i t : Int} {k : Int → Bool} (h : openO g st i t k = true) : ∃ o l, sGet st i = some (some o) ∧ g o.s = some l ∧ t ≤ o.m + l ∧ k l = true := by
  unfold openO at h
  split at h
  · rename_i o ho
    split at h
    · rename_i l hl
      simp only [Bool.and_eq_true, Bool.not_eq_true', decide_eq_false_iff_not, Int.not_lt] at h
      exact ⟨o, l, ho, hl, h.1, h.2⟩
    · cases h
  · cases h
theorem StOk.after {g : Str → Option Int} {st : Sts} {last : Option Int} {e : Ent} (s : StOk g st) (h : good g st last e = true) : StOk g (after st e) := by
  intro j o ho
  unfold Law.after at ho
  rw [sGet_put] at ho
  split at ho
  · simp only [Option.some.injEq] at ho
    unfold good at h
    simp only [Bool.and_eq_true] at h
    obtain ⟨_, _, h⟩ := h
    cases e with
    | row i s k m a t =>
      simp only [behind, Option.some.injEq] at ho
      subst ho
      simp only [Bool.and_eq_true] at h
      cases hg : g s with
      | none => rw [hg] at h; exact absurd h.2 (by simp)
      | some l => rfl
    | fix i m a t =>
      obtain ⟨o', l, h1, h2, _⟩ := openO_some h
      simp only [behind, h1, Option.some.injEq] at ho
      subst ho
      rw [h2]
      rfl
    | gone i t => simp [behind] at ho
  · exact s _ _ ho
/-- a fix finds its row -/
def FixOk (st : Sts) (e : Ent) : Prop := ∀ i m a t, e = .fix i m a t → ∃ o, sGet st i = some (some o)
theorem good_fix {g : Str → Option Int} {st : Sts} {last : Option Int} {e : Ent} (h : good g st last e = true) : FixOk st e := by
  rintro i m a t rfl
  unfold good at h
  simp only [Bool.and_eq_true] at h
  obtain ⟨o, l, h1, _⟩ := openO_some h.2.2
  exact ⟨o, h1⟩
def FixOks : Sts → List Ent → Prop
  | _, [] => True
  | st, e :: es => FixOk st e ∧ FixOks (after st e) es
theorem goods_fix {g : Str → Option Int} : ∀ {es : List Ent} {st : Sts} {last : Option Int}, goods g st last es = true → FixOks st es
  | [], _, _, _ => trivial
  | e :: es, st, last, h => by
    simp only [goods, Bool.and_eq_true] at h
    exact ⟨good_fix h.1, goods_fix h.2⟩
/-! ### rows -/
abbrev Row := Int × Int × Int
def rowOf (s k : Str) (p : Int × Option Sta) : Option Row := match p.2 with
  | some o => if o.s = s ∧ o.k = k then some (o.m, p.1, o.a) else none
  | none => none
def standing (st : Sts) (s k : Str) : List Row := st.filterMap (rowOf s k)
def rowD (r : Row) : D := .tup [.int r.1, .int r.2.1, .int r.2.2]
theorem rowD_inj {a b : Row} (h : rowD a = rowD b) : a = b := by
  obtain ⟨a1, a2, a3⟩ := a
  obtain ⟨b1, b2, b3⟩ := b
  simp [rowD] at h
  simp [h]
def rle (a b : Row) : Bool := PySem.W.dataLe false pd (rowD a) (rowD b)
def rowsOf (st : Sts) (s k : Str) : List Row := (standing st s k).mergeSort rle
theorem srt_rows (rs : List Row) : srtD (rs.map rowD) = (rs.mergeSort rle).map rowD := (List.map_mergeSort (r := rle) (s := PySem.W.dataLe false pd) (f := rowD) fun _ _ _ _ => rfl).symm
theorem rle_total : PySem.W.TotalLe rle := by
  have h := PySem.W.sortLe_total (PyProof.Rows.listOrd PyProof.Rows.itemOrd) false fun r : Row => PySem.W.keyToks (pd (rowD r))
  exact h
theorem rle_anti {a b : Row} (h1 : rle a b = true) (h2 : rle b a = true) : a = b := by
  have e : PySem.W.keyToks (pd (rowD a)) = PySem.W.keyToks (pd (rowD b)) := by
    have h1' : (!(PyProof.Rows.listOrd PyProof.Rows.itemOrd).blt (PySem.W.keyToks (pd (rowD b))) (PySem.W.keyToks (pd (rowD a)))) = true := h1
    have h2' : (!(PyProof.Rows.listOrd PyProof.Rows.itemOrd).blt (PySem.W.keyToks (pd (rowD a))) (PySem.W.keyToks (pd (rowD b)))) = true := h2
    rw [Bool.not_eq_true'] at h1' h2'
    exact (PyProof.Rows.listOrd PyProof.Rows.itemOrd).total _ _ h2' h1'
  obtain ⟨a1, a2, a3⟩ := a
  obtain ⟨b1, b2, b3⟩ := b
  simp [rowD, pd, pdL, PySem.W.keyToks, PySem.W.keyToksAll] at e
  simp [e]
theorem deq_row (a b : Row) : deq (rowD a) (rowD b) = decide (a = b) := by
  obtain ⟨a1, a2, a3⟩ := a
  obtain ⟨b1, b2, b3⟩ := b
  simp only [rowD, deq, deqL]
  rw [Bool.eq_iff_iff]
  simp
end Law

set_option Elab.async false
set_option linter.all false
set_option maxRecDepth 100000
set_option maxHeartbeats 1000000
/-! journals: the plain law of settled moments. -/
namespace Law
open PySem PySem.Spec PyProof.Rows L2 Vs
variable {g : Str → Option Int} {st : Sts} {last : Option Int} {e : Ent} {es : List Ent}
/-- the states behind good entries -/
structure StG (g : Str → Option Int) (st : Sts) (last : Option Int) : Prop where
  nd : (st.map (·.1)).Nodup
  ok : StOk g st
  id : ∀ i, sGet st i ≠ none → 0 ≤ i
  mo : ∀ i o, sGet st i = some (some o) → ∃ t, last = some t ∧ o.m ≤ t
theorem stG_nil : StG g [] none := ⟨List.nodup_nil, stOk_nil, fun _ h => absurd rfl h, fun _ _ h => nomatch h⟩
theorem good_ok (h : good g st last e = true) : e.ok = true := by
  unfold good at h
  simp only [Bool.and_eq_true] at h
  exact h.1
theorem good_late (h : good g st last e = true) : lateOk last e.t = true := by
  unfold good at h
  simp only [Bool.and_eq_true] at h
  exact h.2.1
theorem ok_id (h : e.ok = true) : 0 ≤ e.i := by
  cases e <;> simp [Ent.ok] at h <;> first | exact h.1 | exact h
theorem inT_iff {m t l : Int} : inT m t l = true ↔ m ≤ t ∧ t ≤ m + l := by simp [inT]
theorem StG.after (h : StG g st last) (hg : good g st last e = true) : StG g (after st e) (some e.t) where
  nd := nodup_put h.nd
  ok := h.ok.after hg
  id := fun i hi => by
    unfold Law.after at hi
    rw [sGet_put] at hi
    split at hi
    · rename_i e1
      rw [← e1]
      exact ok_id (good_ok hg)
    · exact h.id i hi
  mo := fun i o ho => by
    refine ⟨e.t, rfl, ?_⟩
    have hl := good_late hg
    unfold Law.after at ho
    rw [sGet_put] at ho
    split at ho
    · simp only [Option.some.injEq] at ho
      unfold good at hg
      simp only [Bool.and_eq_true] at hg
      obtain ⟨_, _, hg⟩ := hg
      cases e with
      | row i s k m a t =>
        simp only [behind, Option.some.injEq] at ho
        subst ho
        simp only [Bool.and_eq_true] at hg
        cases hs : g s with
        | none => rw [hs] at hg; exact absurd hg.2 (by simp)
        | some l =>
          rw [hs] at hg
          exact (inT_iff.mp hg.2).1
      | fix i m a t =>
        obtain ⟨o', l, h1, h2, _, h3⟩ := openO_some hg
        simp only [behind, h1, Option.some.injEq] at ho
        subst ho
        exact (inT_iff.mp h3).1
      | gone i t => simp [behind] at ho
    · obtain ⟨t, rfl, ht⟩ := h.mo i o ho
      simp only [lateOk, Bool.not_eq_true', decide_eq_false_iff_not, Int.not_lt] at hl
      omega
theorem StG.run : ∀ {es : List Ent} {st : Sts} {last : Option Int}, StG g st last → goods g st last es = true → StG g (runE st es) (lastE last es)
  | [], _, _, h, _ => h
  | e :: es, st, last, h, hg => by
    simp only [goods, Bool.and_eq_true] at hg
    exact StG.run (es := es) (h.after hg.1) hg.2
/-! rows of the states -/
theorem row_iff (nd : (st.map (·.1)).Nodup) {s k : Str} {r : Row} : r ∈ standing st s k ↔ ∃ o, sGet st r.2.1 = some (some o) ∧ o.s = s ∧ o.k = k ∧ r.1 = o.m ∧ r.2.2 = o.a := by
  unfold standing
  rw [List.mem_filterMap]
  constructor
  · rintro ⟨⟨i, o⟩, hp, hr⟩
    cases o with
    | none => simp [rowOf] at hr
    | some o =>
      simp only [rowOf] at hr
      split at hr
      · rename_i h
        simp only [Option.some.injEq] at hr
        subst hr
        exact ⟨o, mem_get nd hp, h.1, h.2, rfl, rfl⟩
      · cases hr
  · rintro ⟨o, h1, h2, h3, h4, h5⟩
    refine ⟨(r.2.1, some o), get_mem h1, ?_⟩
    simp only [rowOf]
    rw [if_pos ⟨h2, h3⟩, ← h4, ← h5]
theorem rows_mem {s k : Str} {r : Row} : r ∈ rowsOf st s k ↔ r ∈ standing st s k := List.mem_mergeSort
theorem sort_eq {xs ys : List Row} (h : xs.Perm ys) : xs.mergeSort rle = ys.mergeSort rle := by
  refine List.Perm.eq_of_pairwise (le := fun a b => rle a b = true) (fun a b _ _ h1 h2 => rle_anti h1 h2) (PySem.W.sort_pairwise rle_total xs) (PySem.W.sort_pairwise rle_total ys) ?_
  exact (List.mergeSort_perm xs rle).trans (h.trans (List.mergeSort_perm ys rle).symm)
theorem sort_filter (xs : List Row) (p : Row → Bool) : (xs.mergeSort rle).filter p = (xs.filter p).mergeSort rle := by
  refine List.Perm.eq_of_pairwise (le := fun a b => rle a b = true) (fun a b _ _ h1 h2 => rle_anti h1 h2) ((PySem.W.sort_pairwise rle_total xs).filter _) (PySem.W.sort_pairwise rle_total _) ?_
  exact ((List.mergeSort_perm xs rle).filter p).trans (List.mergeSort_perm _ rle).symm
/-- the place of an id -/
theorem split_get {i : Int} {o : Option Sta} (nd : (st.map (·.1)).Nodup) (h : sGet st i = some o) : ∃ A B, st = A ++ (i, o) :: B ∧ (∀ p ∈ A, p.1 ≠ i) ∧ (∀ p ∈ B, p.1 ≠ i) ∧ ∀ x, sPut st i x = A ++ (i, x) :: B := by
  obtain ⟨A, B, e⟩ := List.append_of_mem (get_mem h)
  subst e
  have hA : ∀ p ∈ A, p.1 ≠ i := fun p hp z => by
    rw [List.map_append, List.nodup_append] at nd
    exact nd.2.2 p.1 (List.mem_map.mpr ⟨p, hp, rfl⟩) i (by simp) z
  have hB : ∀ p ∈ B, p.1 ≠ i := fun p hp z => by
    rw [List.map_append, List.nodup_append] at nd
    have := nd.2.1
    simp only [List.map_cons, List.nodup_cons] at this
    exact this.1 (by rw [← z]; exact List.mem_map.mpr ⟨p, hp, rfl⟩)
  refine ⟨A, B, rfl, hA, hB, fun x => ?_⟩
  unfold sPut
  rw [any_get, h]
  simp only [Option.isSome_some, if_true, List.map_append, List.map_cons]
  have e1 : A.map (fun p => if p.1 = i then (p.1, x) else p) = A := by
    conv => rhs; rw [← List.map_id A]
    exact List.map_congr_left fun p hp => by simp [hA p hp]
  have e2 : B.map (fun p => if p.1 = i then (p.1, x) else p) = B := by
    conv => rhs; rw [← List.map_id B]
    exact List.map_congr_left fun p hp => by simp [hB p hp]
  rw [e1, e2]
theorem put_new {i : Int} {o : Option Sta} (h : sGet st i = none) : sPut st i o = st ++ [(i, o)] := by
  unfold sPut
  rw [any_get, h]
  simp
theorem standing_app (A B : Sts) (s k : Str) : standing (A ++ B) s k = standing A s k ++ standing B s k := List.filterMap_append
theorem standing_one (i : Int) (o : Option Sta) (B : Sts) (s k : Str) : standing ((i, o) :: B) s k = (rowOf s k (i, o)).toList ++ standing B s k := by
  unfold standing
  rw [List.filterMap_cons]
  cases rowOf s k (i, o) <;> rfl
theorem standing_id {A : Sts} {s k : Str} {i : Int} (h : ∀ p ∈ A, p.1 ≠ i) : ∀ r ∈ standing A s k, r.2.1 ≠ i := fun r hr => by
  unfold standing at hr
  obtain ⟨p, hp, e⟩ := List.mem_filterMap.mp hr
  obtain ⟨j, o⟩ := p
  cases o with
  | none => simp [rowOf] at e
  | some o =>
    simp only [rowOf] at e
    split at e
    · simp only [Option.some.injEq] at e
      rw [← e]
      exact h _ hp
    · cases e
/-! settled rows stay -/
def setl (l h : Int) (r : Row) : Bool := decide (r.1 + l ≤ h)
theorem settled_after {s k : Str} {l h : Int} (hG : StG g st last) (hs : g s = some l) (hg : good g st last e = true) (ht : h + 1 ≤ e.t) : (standing (after st e) s k).filter (setl l h) = (standing st s k).filter (setl l h) := by
  unfold good at hg
  simp only [Bool.and_eq_true] at hg
  obtain ⟨_, _, hg⟩ := hg
  unfold after
  cases e with
  | row i s' k' m a t =>
    simp only [Ent.i, Ent.t] at ht ⊢
    simp only [Bool.and_eq_true, Option.isNone_iff_eq_none] at hg
    rw [put_new hg.1, standing_app, List.filter_append]
    have : (standing [(i, behind st (.row i s' k' m a t))] s k).filter (setl l h) = [] := by
      simp only [behind, standing_one, rowOf]
      split
      · rename_i e
        obtain ⟨rfl, rfl⟩ := e
        rw [hs] at hg
        have := inT_iff.mp hg.2
        simp [standing, setl]
        omega
      · simp [standing]
    rw [this, List.append_nil]
  | fix i m a t =>
    obtain ⟨o, l', h1, h2, h3, h4⟩ := openO_some hg
    obtain ⟨A, B, e1, _, _, e2⟩ := split_get hG.nd h1
    simp only [Ent.i, Ent.t] at ht ⊢
    rw [e2]
    conv => rhs; rw [e1]
    simp only [standing_app, standing_one, List.filter_append, behind, h1]
    congr 2
    simp only [rowOf]
    split
    · rename_i e
      obtain ⟨rfl, rfl⟩ := e
      rw [hs] at h2
      cases h2
      have := inT_iff.mp h4
      have f1 : setl l h (m, i, a) = false := decide_eq_false (by show ¬(m + l ≤ h); omega)
      have f2 : setl l h (o.m, i, o.a) = false := decide_eq_false (by show ¬(o.m + l ≤ h); omega)
      simp [f1, f2]
    · rfl
  | gone i t =>
    obtain ⟨o, l', h1, h2, h3, h4⟩ := openO_some hg
    obtain ⟨A, B, e1, _, _, e2⟩ := split_get hG.nd h1
    simp only [Ent.i, Ent.t] at ht ⊢
    rw [e2]
    conv => rhs; rw [e1]
    simp only [standing_app, standing_one, List.filter_append, behind]
    congr 2
    simp only [rowOf]
    split
    · rename_i e
      obtain ⟨rfl, rfl⟩ := e
      rw [hs] at h2
      cases h2
      simp [setl]
      omega
    · rfl
theorem settled_run {s k : Str} {l h : Int} (hs : g s = some l) : ∀ {es : List Ent} {st : Sts} {last : Option Int}, StG g st last → goods g st last es = true → (∀ e ∈ es, h + 1 ≤ e.t) → (standing (runE st es) s k).filter (setl l h) = (standing st s k).filter (setl l h)
  | [], _, _, _, _, _ => rfl
  | e :: es, st, last, hG, hg, ht => by
    simp only [goods, Bool.and_eq_true] at hg
    have h1 := settled_run (k := k) (h := h) hs (hG.after hg.1) hg.2 fun x hx => ht x (List.mem_cons_of_mem _ hx)
    have h2 := settled_after (k := k) hG hs hg.1 (ht e (List.mem_cons_self ..))
    exact h1.trans h2
/-! what is open: a row goes, is fixed, is joined by another one -/
section
variable {s k : Str} {l h fresh : Int} {r : Row}
theorem row_at (hG : StG g st last) (hr : r ∈ standing st s k) : ∃ o A B, sGet st r.2.1 = some (some o) ∧ o.s = s ∧ o.k = k ∧ r = (o.m, r.2.1, o.a) ∧ standing st s k = standing A s k ++ r :: standing B s k ∧ (∀ x ∈ standing A s k, x ≠ r) ∧ (∀ x ∈ standing B s k, x ≠ r) ∧ ∀ x, sPut st r.2.1 x = A ++ (r.2.1, x) :: B := by
  obtain ⟨o, h1, h2, h3, h4, h5⟩ := (row_iff hG.nd).mp hr
  obtain ⟨A, B, e1, hA, hB, e2⟩ := split_get hG.nd h1
  have er : r = (o.m, r.2.1, o.a) := by rw [← h4, ← h5]
  refine ⟨o, A, B, h1, h2, h3, er, ?_, fun x hx z => standing_id hA x hx (by rw [z]), fun x hx z => standing_id hB x hx (by rw [z]), e2⟩
  conv => lhs; rw [e1]
  rw [standing_app, standing_one]
  simp only [rowOf]
  rw [if_pos ⟨h2, h3⟩, ← er]
  rfl
theorem filter_ne {A B : List Row} (hA : ∀ x ∈ A, x ≠ r) (hB : ∀ x ∈ B, x ≠ r) : (A ++ r :: B).filter (fun x => !decide (x = r)) = A ++ B := by
  rw [List.filter_append, List.filter_cons]
  have e1 : A.filter (fun x => !decide (x = r)) = A := List.filter_eq_self.mpr fun x hx => by simp [hA x hx]
  have e2 : B.filter (fun x => !decide (x = r)) = B := List.filter_eq_self.mpr fun x hx => by simp [hB x hx]
  simp [e1, e2]
theorem rows_gone (hG : StG g st last) (hr : r ∈ standing st s k) (t : Int) : rowsOf (after st (.gone r.2.1 t)) s k = (rowsOf st s k).filter fun x => !decide (x = r) := by
  obtain ⟨o, A, B, h1, h2, h3, er, es, hA, hB, e2⟩ := row_at hG hr
  unfold rowsOf
  rw [sort_filter, es, filter_ne hA hB]
  congr 1
  show standing (sPut st r.2.1 none) s k = _
  rw [e2, standing_app, standing_one]
  rfl
theorem rows_fix (hG : StG g st last) (hr : r ∈ standing st s k) (a t : Int) : rowsOf (after st (.fix r.2.1 r.1 a t)) s k = (((rowsOf st s k).filter fun x => !decide (x = r)) ++ [(r.1, r.2.1, a)]).mergeSort rle := by
  obtain ⟨o, A, B, h1, h2, h3, er, es, hA, hB, e2⟩ := row_at hG hr
  unfold rowsOf
  refine sort_eq ?_
  have e3 : standing (after st (.fix r.2.1 r.1 a t)) s k = standing A s k ++ (r.1, r.2.1, a) :: standing B s k := by
    show standing (sPut st r.2.1 (behind st (.fix r.2.1 r.1 a t))) s k = _
    rw [e2, standing_app, standing_one]
    simp only [behind, h1, rowOf]
    rw [if_pos ⟨h2, h3⟩]
    rfl
  rw [e3, sort_filter, es, filter_ne hA hB]
  refine List.perm_middle.trans ?_
  refine (List.perm_append_singleton _ _).symm.trans ?_
  exact (List.mergeSort_perm _ rle).symm.append_right _
theorem rows_join (hf : sGet st fresh = none) (m a t : Int) : rowsOf (after st (.row fresh s k m a t)) s k = (rowsOf st s k ++ [(m, fresh, a)]).mergeSort rle := by
  unfold rowsOf
  refine sort_eq ?_
  have e3 : standing (after st (.row fresh s k m a t)) s k = standing st s k ++ [(m, fresh, a)] := by
    show standing (sPut st fresh (behind st (.row fresh s k m a t))) s k = _
    rw [put_new hf, standing_app, standing_one]
    simp only [behind, rowOf, and_self, if_true]
    rfl
  rw [e3]
  exact (List.mergeSort_perm _ rle).symm.append_right _
/-- what is still open at h can be changed at the next arrival -/
structure OpenAt (g : Str → Option Int) (st : Sts) (last : Option Int) (s k : Str) (r : Row) (l h : Int) : Prop where
  G : StG g st last
  hs : g s = some l
  r : r ∈ standing st s k
  la : ∃ t, last = some t ∧ t ≤ h
theorem OpenAt.late (H : OpenAt g st last s k r l h) : lateOk last (h + 1) = true := by
  obtain ⟨t, e, ht⟩ := H.la
  rw [e]
  simp only [lateOk, Bool.not_eq_true', decide_eq_false_iff_not, Int.not_lt]
  omega
theorem OpenAt.id (H : OpenAt g st last s k r l h) : 0 ≤ r.2.1 := by
  obtain ⟨o, h1, _⟩ := (row_iff H.G.nd).mp H.r
  exact H.G.id _ (by rw [h1]; simp)
theorem OpenAt.mo (H : OpenAt g st last s k r l h) : r.1 ≤ h := by
  obtain ⟨o, h1, h2, h3, h4, h5⟩ := (row_iff H.G.nd).mp H.r
  obtain ⟨t, e, ht⟩ := H.la
  obtain ⟨t', e', ht'⟩ := H.G.mo _ o h1
  rw [e] at e'
  cases e'
  omega
theorem OpenAt.openO (H : OpenAt g st last s k r l h) (f : Int → Bool) : openO g st r.2.1 (h + 1) f = (!decide (r.1 + l < h + 1) && f l) := by
  obtain ⟨o, h1, h2, h3, h4, h5⟩ := (row_iff H.G.nd).mp H.r
  unfold Law.openO
  rw [h1]
  simp only [h2, H.hs, h4]
theorem good_gone (H : OpenAt g st last s k r l h) (ho : ¬r.1 + l ≤ h) : good g st last (.gone r.2.1 (h + 1)) = true := by
  have h1 := H.late
  have h2 : decide (r.1 + l < h + 1) = false := decide_eq_false (by omega)
  simp only [good, Ent.ok, Ent.t, h1, H.openO, h2, decide_eq_true H.id]
  rfl
theorem good_fix2 (H : OpenAt g st last s k r l h) (a : Int) (ho : ¬r.1 + l ≤ h) : good g st last (.fix r.2.1 r.1 a (h + 1)) = true := by
  have h1 := H.late
  have h2 : decide (r.1 + l < h + 1) = false := decide_eq_false (by omega)
  have h3 := H.mo
  have h4 : inT r.1 (h + 1) l = true := inT_iff.mpr ⟨by omega, by omega⟩
  simp only [good, Ent.ok, Ent.t, h1, H.openO, h2, h4, decide_eq_true H.id]
  rfl
theorem good_row2 (H : OpenAt g st last s k r l h) (a : Int) (hn : nameS s = true) (hk : nameS k = true) (hf : sGet st fresh = none) (hf0 : 0 ≤ fresh) (ho : ¬r.1 + l ≤ h) : good g st last (.row fresh s k r.1 a (h + 1)) = true := by
  have h1 := H.late
  have h3 := H.mo
  have h4 : inT r.1 (h + 1) l = true := inT_iff.mpr ⟨by omega, by omega⟩
  simp only [good, Ent.ok, Ent.t, h1, hf, H.hs, h4, hn, hk, decide_eq_true hf0]
  rfl
theorem bad_gone (H : OpenAt g st last s k r l h) (ho : r.1 + l ≤ h) : good g st last (.gone r.2.1 (h + 1)) = false := by
  have h2 : decide (r.1 + l < h + 1) = true := decide_eq_true (by omega)
  simp only [good, H.openO, h2, Bool.not_true, Bool.false_and, Bool.and_false]
theorem bad_fix (H : OpenAt g st last s k r l h) (m a : Int) (ho : r.1 + l ≤ h) : good g st last (.fix r.2.1 m a (h + 1)) = false := by
  have h2 : decide (r.1 + l < h + 1) = true := decide_eq_true (by omega)
  simp only [good, H.openO, h2, Bool.not_true, Bool.false_and, Bool.and_false]
theorem bad_row (H : OpenAt g st last s k r l h) (a : Int) (ho : r.1 + l ≤ h) : good g st last (.row fresh s k r.1 a (h + 1)) = false := by
  have h4 : inT r.1 (h + 1) l = false := by
    cases e : inT r.1 (h + 1) l with
    | false => rfl
    | true => have := inT_iff.mp e; omega
  simp only [good, H.hs, h4, Bool.and_false]
end
/-! good entries with later arrivals -/
theorem lateOk_none {t : Int} : lateOk none t = true := rfl
theorem good_weak {t : Int} (h : good g st (some t) e = true) (hl : lateOk last e.t = true) : good g st last e = true := by
  unfold good at h ⊢
  simp only [Bool.and_eq_true] at h ⊢
  exact ⟨h.1, hl, h.2.2⟩
theorem goods_weak {t : Int} (h : goods g st (some t) es = true) (hl : ∀ x, last = some x → x ≤ t) : goods g st last es = true := by
  cases es with
  | nil => rfl
  | cons e es =>
    simp only [goods, Bool.and_eq_true] at h ⊢
    refine ⟨good_weak h.1 ?_, h.2⟩
    have h1 := good_late h.1
    simp only [lateOk, Bool.not_eq_true', decide_eq_false_iff_not, Int.not_lt] at h1
    cases last with
    | none => rfl
    | some x =>
      have := hl x rfl
      simp only [lateOk, Bool.not_eq_true', decide_eq_false_iff_not, Int.not_lt]
      omega
theorem goods_t : ∀ {es : List Ent} {st : Sts} {t : Int}, goods g st (some t) es = true → ∀ e ∈ es, t ≤ e.t
  | e :: es, st, t, h, x, hx => by
    simp only [goods, Bool.and_eq_true] at h
    have h1 := good_late h.1
    simp only [lateOk, Bool.not_eq_true', decide_eq_false_iff_not, Int.not_lt] at h1
    rcases List.mem_cons.mp hx with hx | hx
    · rw [hx]; exact h1
    · have := goods_t h.2 x hx
      omega
theorem goods_last : ∀ {es : List Ent} {st : Sts} {last : Option Int}, goods g st last es = true → ∀ e ∈ es, ∃ t, lastE last es = some t ∧ e.t ≤ t
  | e :: es, st, last, h, x, hx => by
    simp only [goods, Bool.and_eq_true] at h
    have hl : ∃ t, lastE (some e.t) es = some t ∧ e.t ≤ t := by
      cases es with
      | nil => exact ⟨e.t, rfl, Int.le_refl _⟩
      | cons y ys =>
        obtain ⟨t, h1, h2⟩ := goods_last h.2 y (List.mem_cons_self ..)
        have h3 := goods_t h.2 y (List.mem_cons_self ..)
        exact ⟨t, h1, by omega⟩
    rcases List.mem_cons.mp hx with hx | hx
    · rw [hx]; exact hl
    · exact goods_last h.2 x hx
end Law

set_option Elab.async false
set_option linter.all false
set_option maxRecDepth 100000
set_option maxHeartbeats 0
namespace Law
open PySem PySem.Spec PyProof.Rows L2 Vs
abbrev FnP (K : PySem.W.Frag) (x q : Str) (st : Stmt) (dv : List V) (f : Addr) (fd : FuncData) : Prop := FunD K x q (defArgs st) (defBody st) (defScope st) dv [] f fd
theorem bt_int : bootBuiltins "int" = some (.type "int") := by decide +kernel
theorem bt_bool : bootBuiltins "bool" = some (.type "bool") := by decide +kernel
theorem bt_str : bootBuiltins "str" = some (.type "str") := by decide +kernel
theorem bt_list : bootBuiltins "list" = some (.type "list") := by decide +kernel
theorem bt_tuple : bootBuiltins "tuple" = some (.type "tuple") := by decide +kernel
theorem bt_dict : bootBuiltins "dict" = some (.type "dict") := by decide +kernel
section
variable {Pr : Program} {w : World} {K : PySem.W.Frag} {mg : Str → Option Value} {base : Heap}

abbrev s_is_integer : Stmt := top 10
def as_is_integer (K : Fg) : AS := asRet (aAnd (aUn (aIsi K [(.type "int")]) (aVal 0)) (aNot (aUn (aIsi K [(.type "bool")]) (aVal 0))))
theorem sc_is_integer : FnScope ["value"] ["value"] (defScope s_is_integer) := ⟨rfl, rfl, rfl, by decide +kernel, rfl, by decide +kernel, by decide +kernel⟩
theorem wk_is_integer {f : Addr} {fd : FuncData} {sp : ASp} (g_isinstance : mg ("isinstance" : Str) = none) (g_int : mg ("int" : Str) = none) (g_bool : mg ("bool" : Str) = none) (F : FnP K ("is_integer" : Str) ("is_integer" : Str) s_is_integer [] f fd) (hlen : ∀ xs, sp.pre xs → xs.length = 1)
    (rd : ∀ xs, sp.pre xs → as_is_integer K (endsOf [0] sp xs) (startA 1 xs)) : Fok Pr w K mg base 1 f fd ["value"] sp := by
  refine fn_mk (N := ["value"]) (k := 0) [0] F sc_is_integer hlen (by decide) (fun cdv Ar outer s H E hr => ⟨as_is_integer K, ?_, rd⟩)
  have hx := fun σ => passAt (X := cxOf (L2.CX Pr w) Pr w K mg base ["value"] ("is_integer" : Str) (defScope s_is_integer) f cdv Ar outer s H E) (W := fun cls d _ H => E cls d H) (takes_of rfl rfl rfl rfl) σ
  have hp : PassesOwn _ _ _ (cxOf (L2.CX Pr w) Pr w K mg base ["value"] ("is_integer" : Str) (defScope s_is_integer) f cdv Ar outer s H E).xe := passes_of rfl
  have tk := takes_of (X := cxOf (L2.CX Pr w) Pr w K mg base ["value"] ("is_integer" : Str) (defScope s_is_integer) f cdv Ar outer s H E) rfl rfl rfl rfl
  have hu := hr.units
  have sc := sc_is_integer
  exact (qss_one (qs_ret (qe_and (qe_isi rfl g_isinstance (qv 0) (qc_ty rfl g_int bt_int)) (qe_one (qe_not (qe_isi rfl g_isinstance (qv 0) (qc_ty rfl g_bool bt_bool)))))))
abbrev s_is_row : Stmt := top 11
def as_is_row (K : Fg) : AS := asRet (aUn (aIsi K [(.type "list"), (.type "tuple")]) (aVal 0))
theorem sc_is_row : FnScope ["value"] ["value"] (defScope s_is_row) := ⟨rfl, rfl, rfl, by decide +kernel, rfl, by decide +kernel, by decide +kernel⟩
theorem wk_is_row {f : Addr} {fd : FuncData} {sp : ASp} (g_isinstance : mg ("isinstance" : Str) = none) (g_list : mg ("list" : Str) = none) (g_tuple : mg ("tuple" : Str) = none) (F : FnP K ("is_row" : Str) ("is_row" : Str) s_is_row [] f fd) (hlen : ∀ xs, sp.pre xs → xs.length = 1)
    (rd : ∀ xs, sp.pre xs → as_is_row K (endsOf [0] sp xs) (startA 1 xs)) : Fok Pr w K mg base 1 f fd ["value"] sp := by
  refine fn_mk (N := ["value"]) (k := 0) [0] F sc_is_row hlen (by decide) (fun cdv Ar outer s H E hr => ⟨as_is_row K, ?_, rd⟩)
  have hx := fun σ => passAt (X := cxOf (L2.CX Pr w) Pr w K mg base ["value"] ("is_row" : Str) (defScope s_is_row) f cdv Ar outer s H E) (W := fun cls d _ H => E cls d H) (takes_of rfl rfl rfl rfl) σ
  have hp : PassesOwn _ _ _ (cxOf (L2.CX Pr w) Pr w K mg base ["value"] ("is_row" : Str) (defScope s_is_row) f cdv Ar outer s H E).xe := passes_of rfl
  have tk := takes_of (X := cxOf (L2.CX Pr w) Pr w K mg base ["value"] ("is_row" : Str) (defScope s_is_row) f cdv Ar outer s H E) rfl rfl rfl rfl
  have hu := hr.units
  have sc := sc_is_row
  exact (qss_one (qs_ret (qe_isi2 rfl g_isinstance (qv 0) (qc_ty rfl g_list bt_list) (qc_ty rfl g_tuple bt_tuple))))
abbrev s_is_name : Stmt := top 12
def rs_is_name_2 (K : Fg) : AS := asRet (aCB aAll (aCons (aLc (aiSeq (aVal 0)) (agName 1) (atYes) (aOp (aIn false) (aVal 1) (aC (.str ("abcdefghijklmnopqrstuvwxyz" : Str)))) [1]) (aNil)))
def as_is_name (K : Fg) : AS := asSeq (asIf (atOr (atNot (aTest (aUn (aIsi K [(.type "str")]) (aVal 0)))) (atNot (aTest (aChain aLe aLe (aC (.int 1)) (aCB aLen (aCons (aVal 0) (aNil))) (aC (.int 8)))))) (asRet (aC (.bl false))) (asNext)) (rs_is_name_2 K)
theorem sc_is_name : FnScope ["text", "letter"] ["text"] (defScope s_is_name) := ⟨rfl, rfl, rfl, by decide +kernel, rfl, by decide +kernel, by decide +kernel⟩
theorem wk_is_name {f : Addr} {fd : FuncData} {sp : ASp} (g_isinstance : mg ("isinstance" : Str) = none) (g_str : mg ("str" : Str) = none) (g_len : mg ("len" : Str) = none) (g_all : mg ("all" : Str) = none) (k_LONGEST_NAME : ∃ t, mg ("LONGEST_NAME" : Str) = some (.int 8 t)) (k_LETTERS : ∃ t, mg ("LETTERS" : Str) = some (.str ("abcdefghijklmnopqrstuvwxyz" : Str) t)) (F : FnP K ("is_name" : Str) ("is_name" : Str) s_is_name [] f fd) (hlen : ∀ xs, sp.pre xs → xs.length = 1)
    (rd : ∀ xs, sp.pre xs → as_is_name K (endsOf [0] sp xs) (startA 2 xs)) : Fok Pr w K mg base 1 f fd ["text"] sp := by
  refine fn_mk (N := ["text", "letter"]) (k := 0) [0] F sc_is_name hlen (by decide) (fun cdv Ar outer s H E hr => ⟨as_is_name K, ?_, rd⟩)
  have hx := fun σ => passAt (X := cxOf (L2.CX Pr w) Pr w K mg base ["text", "letter"] ("is_name" : Str) (defScope s_is_name) f cdv Ar outer s H E) (W := fun cls d _ H => E cls d H) (takes_of rfl rfl rfl rfl) σ
  have hp : PassesOwn _ _ _ (cxOf (L2.CX Pr w) Pr w K mg base ["text", "letter"] ("is_name" : Str) (defScope s_is_name) f cdv Ar outer s H E).xe := passes_of rfl
  have tk := takes_of (X := cxOf (L2.CX Pr w) Pr w K mg base ["text", "letter"] ("is_name" : Str) (defScope s_is_name) f cdv Ar outer s H E) rfl rfl rfl rfl
  have hu := hr.units
  have sc := sc_is_name
  exact (qss_cons (qs_if (qt_w (qw_or (qt_not (qt_val (qe_isi rfl g_isinstance (qv 0) (qc_ty rfl g_str bt_str)))) (qw_or1 (qt_not (qt_chain op_le s_le op_le s_le qe_int (qe_callB cr_len s_len rfl g_len boot_len (qa_cons (qv 0) qa_nil)) (qe_gint k_LONGEST_NAME rfl)))))) (qss_one (qs_ret qe_bl)) qss_nil)
    (qss_one (qs_ret (qe_callB (cr_all rfl) s_all rfl g_all PyProof.Rows.boot_all (qa_cons (qe_lcX [(("letter" : Str), 1)] rfl sc.nd (show BlkOk ["text", "letter"] (defScope s_is_name) _ [(("letter" : Str), 1)] from blkOk_by (by decide +kernel)) (qi_seq (qv 0)) (fun _ _ _ _ _ => (qg_name (i := 1) sc.nd rfl (by first | exact Or.inl rfl | exact Or.inr rfl) (show 1 ∉ ([0] : List Nat) from by decide))) (fun _ _ _ _ _ => qts_nil) (fun _ _ _ _ _ => (qe_cmp (or_in hu) s_in (qv 1) (qe_gstr k_LETTERS rfl) (by rfl))) (show ∀ v ∈ ([1] : List Nat), v ∉ ([0] : List Nat) from by decide) (show ∀ i ∈ ([1] : List Nat), i ∈ ([1] : List Nat) from by decide)) qa_nil)))))
abbrev s_check_moment : Stmt := top 14
def as_check_moment (C_BadMoment : Addr) (sp_is_integer : ASp) : AS := asIf (atNot (aTest (aCall sp_is_integer [] (aCons (aVal 0) (aNil))))) (asRaise C_BadMoment ("value" : Str) (aVal 0)) (asNext)
theorem sc_check_moment : FnScope ["value"] ["value"] (defScope s_check_moment) := ⟨rfl, rfl, rfl, by decide +kernel, rfl, by decide +kernel, by decide +kernel⟩
theorem wk_check_moment {f : Addr} {fd : FuncData} {sp : ASp} {C_BadMoment : Addr} {sp_is_integer : ASp} (c_is_integer : Cal Pr w K mg base ("is_integer" : Str) 1 ["value"] sp_is_integer) (ra_BadMoment : Rai Pr w K mg base ("BadMoment" : Str) C_BadMoment ("value" : Str) 1) (F : FnP K ("check_moment" : Str) ("check_moment" : Str) s_check_moment [] f fd) (hlen : ∀ xs, sp.pre xs → xs.length = 1)
    (rd : ∀ xs, sp.pre xs → as_check_moment C_BadMoment sp_is_integer (endsOf [0] sp xs) (startA 1 xs)) : Fok Pr w K mg base 3 f fd ["value"] sp := by
  refine fn_mk (N := ["value"]) (k := 2) [0] F sc_check_moment hlen (by decide) (fun cdv Ar outer s H E hr => ⟨as_check_moment C_BadMoment sp_is_integer, ?_, rd⟩)
  have hx := fun σ => passAt (X := cxOf (L2.CX Pr w) Pr w K mg base ["value"] ("check_moment" : Str) (defScope s_check_moment) f cdv Ar outer s H E) (W := fun cls d _ H => E cls d H) (takes_of rfl rfl rfl rfl) σ
  have hp : PassesOwn _ _ _ (cxOf (L2.CX Pr w) Pr w K mg base ["value"] ("check_moment" : Str) (defScope s_check_moment) f cdv Ar outer s H E).xe := passes_of rfl
  have tk := takes_of (X := cxOf (L2.CX Pr w) Pr w K mg base ["value"] ("check_moment" : Str) (defScope s_check_moment) f cdv Ar outer s H E) rfl rfl rfl rfl
  have hu := hr.units
  have sc := sc_check_moment
  exact (qss_one (qs_if (qt_not (qt_val (qe_callC c_is_integer (hr.mono (by decide)) rfl hx (qa_cons (qv 0) qa_nil)))) (qss_one (qs_raise ra_BadMoment rfl tk (hr.mono (by decide)) rfl (qv 0))) qss_nil))
abbrev s_are_lates : Stmt := top 18
def bd_are_lates_1 (K : Fg) (sp_is_name sp_is_integer : ASp) : AS := asIf (atOr (atNot (aTest (aCall sp_is_name [] (aCons (aVal 1) (aNil))))) (atOr (atNot (aTest (aCall sp_is_integer [] (aCons (aVal 2) (aNil))))) (atNot (aTest (aChain aLe aLe (aC (.int 0)) (aVal 2) (aC (.int 1000000))))))) (asRet (aC (.bl false))) (asNext)
def rs_are_lates_3 (K : Fg) (sp_is_name sp_is_integer : ASp) : AS := asRet (aC (.bl true))
def rs_are_lates_2 (K : Fg) (sp_is_name sp_is_integer : ASp) : AS := asSeq (asForItems 0 (agTup 2 (agCons (agName 1) (agCons (agName 2) (agNil)))) (bd_are_lates_1 K sp_is_name sp_is_integer)) (rs_are_lates_3 K sp_is_name sp_is_integer)
def as_are_lates (K : Fg) (sp_is_name sp_is_integer : ASp) : AS := asSeq (asIf (atOr (atNot (aTest (aUn (aIsi K [(.type "dict")]) (aVal 0)))) (atNot (aTest (aChain aLe aLe (aC (.int 1)) (aCB aLen (aCons (aVal 0) (aNil))) (aC (.int 8)))))) (asRet (aC (.bl false))) (asNext)) (rs_are_lates_2 K sp_is_name sp_is_integer)
theorem sc_are_lates : FnScope ["value", "name", "late"] ["value"] (defScope s_are_lates) := ⟨rfl, rfl, rfl, by decide +kernel, rfl, by decide +kernel, by decide +kernel⟩
theorem wk_are_lates {f : Addr} {fd : FuncData} {sp : ASp} {sp_is_name : ASp} (c_is_name : Cal Pr w K mg base ("is_name" : Str) 1 ["text"] sp_is_name) {sp_is_integer : ASp} (c_is_integer : Cal Pr w K mg base ("is_integer" : Str) 1 ["value"] sp_is_integer) (g_isinstance : mg ("isinstance" : Str) = none) (g_dict : mg ("dict" : Str) = none) (g_len : mg ("len" : Str) = none) (k_MOST_STREAMS : ∃ t, mg ("MOST_STREAMS" : Str) = some (.int 8 t)) (k_MOST_LATE : ∃ t, mg ("MOST_LATE" : Str) = some (.int 1000000 t)) (F : FnP K ("are_lates" : Str) ("are_lates" : Str) s_are_lates [] f fd) (hlen : ∀ xs, sp.pre xs → xs.length = 1)
    (rd : ∀ xs, sp.pre xs → as_are_lates K sp_is_name sp_is_integer (endsOf [0] sp xs) (startA 3 xs)) : Fok Pr w K mg base 2 f fd ["value"] sp := by
  refine fn_mk (N := ["value", "name", "late"]) (k := 1) [0] F sc_are_lates hlen (by decide) (fun cdv Ar outer s H E hr => ⟨as_are_lates K sp_is_name sp_is_integer, ?_, rd⟩)
  have hx := fun σ => passAt (X := cxOf (L2.CX Pr w) Pr w K mg base ["value", "name", "late"] ("are_lates" : Str) (defScope s_are_lates) f cdv Ar outer s H E) (W := fun cls d _ H => E cls d H) (takes_of rfl rfl rfl rfl) σ
  have hp : PassesOwn _ _ _ (cxOf (L2.CX Pr w) Pr w K mg base ["value", "name", "late"] ("are_lates" : Str) (defScope s_are_lates) f cdv Ar outer s H E).xe := passes_of rfl
  have tk := takes_of (X := cxOf (L2.CX Pr w) Pr w K mg base ["value", "name", "late"] ("are_lates" : Str) (defScope s_are_lates) f cdv Ar outer s H E) rfl rfl rfl rfl
  have hu := hr.units
  have sc := sc_are_lates
  exact (qss_cons (qs_if (qt_w (qw_or (qt_not (qt_val (qe_isi rfl g_isinstance (qv 0) (qc_ty rfl g_dict bt_dict)))) (qw_or1 (qt_not (qt_chain op_le s_le op_le s_le qe_int (qe_callB cr_len s_len rfl g_len boot_len (qa_cons (qv 0) qa_nil)) (qe_gint k_MOST_STREAMS rfl)))))) (qss_one (qs_ret qe_bl)) qss_nil)
    (qss_cons (qs_forItems 0 hp rfl (qg_tup rfl (qgs_cons (qg_name (i := 1) sc.nd rfl (by first | exact Or.inl rfl | exact Or.inr rfl) (show 1 ∉ ([0] : List Nat) from by decide)) (qgs_cons (qg_name (i := 2) sc.nd rfl (by first | exact Or.inl rfl | exact Or.inr rfl) (show 2 ∉ ([0] : List Nat) from by decide)) qgs_nil))) (qss_one (qs_if (qt_w (qw_or (qt_not (qt_val (qe_callC c_is_name (hr.mono (by decide)) rfl hx (qa_cons (qv 1) qa_nil)))) (qw_or (qt_not (qt_val (qe_callC c_is_integer (hr.mono (by decide)) rfl hx (qa_cons (qv 2) qa_nil)))) (qw_or1 (qt_not (qt_chain op_le s_le op_le s_le qe_int (qv 2) (qe_gint k_MOST_LATE rfl))))))) (qss_one (qs_ret qe_bl)) qss_nil)))
    (qss_one (qs_ret qe_bl))))
abbrev s_Book___init__ : Stmt := inCls 19 0
def rs_Book___init___2 (C_Book C_BadBook : Addr) (sp_are_lates : ASp) : AS := asFld C_Book ("_lates" : Str) (aDc (aiSeq (aCB aSort (aCons (aVal 1) (aNil)))) (agName 2) (atYes) (aVal 2) (aOp aIx (aVal 1) (aVal 2)) [2]) (aRef 0)
def as_Book___init__ (C_Book C_BadBook : Addr) (sp_are_lates : ASp) : AS := asSeq (asIf (atNot (aTest (aCall sp_are_lates [] (aCons (aVal 1) (aNil))))) (asRaise C_BadBook ("value" : Str) (aVal 1)) (asNext)) (rs_Book___init___2 C_Book C_BadBook sp_are_lates)
theorem sc_Book___init__ : FnScope ["self", "lates", "name"] ["self", "lates"] (defScope s_Book___init__) := ⟨rfl, rfl, rfl, by decide +kernel, rfl, by decide +kernel, by decide +kernel⟩
theorem wk_Book___init__ {f : Addr} {fd : FuncData} {sp : ASp} {C_Book C_BadBook : Addr} {sp_are_lates : ASp} (c_are_lates : Cal Pr w K mg base ("are_lates" : Str) 2 ["value"] sp_are_lates) (cl_Book : Cls K C_Book) (na_Book__lates : NoAttr K C_Book ("_lates" : Str)) (ra_BadBook : Rai Pr w K mg base ("BadBook" : Str) C_BadBook ("value" : Str) 1) (g_sorted : mg ("sorted" : Str) = none) (F : FnP K ("__init__" : Str) ("Book.__init__" : Str) s_Book___init__ [] f fd) (hlen : ∀ xs, sp.pre xs → xs.length = 2)
    (rd : ∀ xs, sp.pre xs → as_Book___init__ C_Book C_BadBook sp_are_lates (endsOf [0, 1] sp xs) (startA 3 xs)) : Fok Pr w K mg base 3 f fd ["self", "lates"] sp := by
  refine fn_mk (N := ["self", "lates", "name"]) (k := 2) [0, 1] F sc_Book___init__ hlen (by decide) (fun cdv Ar outer s H E hr => ⟨as_Book___init__ C_Book C_BadBook sp_are_lates, ?_, rd⟩)
  have hx := fun σ => passAt (X := cxOf (L2.CX Pr w) Pr w K mg base ["self", "lates", "name"] ("Book.__init__" : Str) (defScope s_Book___init__) f cdv Ar outer s H E) (W := fun cls d _ H => E cls d H) (takes_of rfl rfl rfl rfl) σ
  have hp : PassesOwn _ _ _ (cxOf (L2.CX Pr w) Pr w K mg base ["self", "lates", "name"] ("Book.__init__" : Str) (defScope s_Book___init__) f cdv Ar outer s H E).xe := passes_of rfl
  have tk := takes_of (X := cxOf (L2.CX Pr w) Pr w K mg base ["self", "lates", "name"] ("Book.__init__" : Str) (defScope s_Book___init__) f cdv Ar outer s H E) rfl rfl rfl rfl
  have hu := hr.units
  have sc := sc_Book___init__
  exact (qss_cons (qs_if (qt_not (qt_val (qe_callC c_are_lates (hr.mono (by decide)) rfl hx (qa_cons (qv 1) qa_nil)))) (qss_one (qs_raise ra_BadBook rfl tk (hr.mono (by decide)) rfl (qv 1))) qss_nil)
    (qss_one (qs_fld cl_Book na_Book__lates (qe_dcX [(("name" : Str), 2)] rfl sc.nd (show BlkOk ["self", "lates", "name"] (defScope s_Book___init__) _ [(("name" : Str), 2)] from blkOk_by (by decide +kernel)) (qi_seq (qe_callB (cr_sortX rfl hu) s_sort rfl g_sorted PyProof.Rows.boot_sorted (qa_cons (qv 1) qa_nil))) (fun _ _ _ _ _ => (qg_name (i := 2) sc.nd rfl (by first | exact Or.inl rfl | exact Or.inr rfl) (show 2 ∉ ([0, 1] : List Nat) from by decide))) (fun _ _ _ _ _ => qts_nil) (fun _ _ _ _ _ => (qv 2)) (fun _ _ _ _ _ => (qe_ix hu (qv 1) (qv 2))) (show ∀ v ∈ ([2] : List Nat), v ∉ ([0, 1] : List Nat) from by decide) (show ∀ i ∈ ([2] : List Nat), i ∈ ([2] : List Nat) from by decide)) (qr 0))))
abbrev s_Book___eq__ : Stmt := inCls 19 1
def as_Book___eq__ (K : Fg) (C_Book : Addr) : AS := asRet (aAnd (aUn (aIsi K [(.ref C_Book)]) (aVal 1)) (aOp aEqDic (aUn (aFld C_Book ("_lates" : Str)) (aVal 0)) (aUn (aFld C_Book ("_lates" : Str)) (aVal 1))))
theorem sc_Book___eq__ : FnScope ["self", "other"] ["self", "other"] (defScope s_Book___eq__) := ⟨rfl, rfl, rfl, by decide +kernel, rfl, by decide +kernel, by decide +kernel⟩
theorem wk_Book___eq__ {f : Addr} {fd : FuncData} {sp : ASp} {C_Book : Addr} (cl_Book : Cls K C_Book) (na_Book__lates : NoAttr K C_Book ("_lates" : Str)) (gc_Book : mg ("Book" : Str) = some (.ref C_Book)) (g_isinstance : mg ("isinstance" : Str) = none) (F : FnP K ("__eq__" : Str) ("Book.__eq__" : Str) s_Book___eq__ [] f fd) (hlen : ∀ xs, sp.pre xs → xs.length = 2)
    (rd : ∀ xs, sp.pre xs → as_Book___eq__ K C_Book (endsOf [0, 1] sp xs) (startA 2 xs)) : Fok Pr w K mg base 1 f fd ["self", "other"] sp := by
  refine fn_mk (N := ["self", "other"]) (k := 0) [0, 1] F sc_Book___eq__ hlen (by decide) (fun cdv Ar outer s H E hr => ⟨as_Book___eq__ K C_Book, ?_, rd⟩)
  have hx := fun σ => passAt (X := cxOf (L2.CX Pr w) Pr w K mg base ["self", "other"] ("Book.__eq__" : Str) (defScope s_Book___eq__) f cdv Ar outer s H E) (W := fun cls d _ H => E cls d H) (takes_of rfl rfl rfl rfl) σ
  have hp : PassesOwn _ _ _ (cxOf (L2.CX Pr w) Pr w K mg base ["self", "other"] ("Book.__eq__" : Str) (defScope s_Book___eq__) f cdv Ar outer s H E).xe := passes_of rfl
  have tk := takes_of (X := cxOf (L2.CX Pr w) Pr w K mg base ["self", "other"] ("Book.__eq__" : Str) (defScope s_Book___eq__) f cdv Ar outer s H E) rfl rfl rfl rfl
  have hu := hr.units
  have sc := sc_Book___eq__
  exact (qss_one (qs_ret (qe_and (qe_isi rfl g_isinstance (qv 1) (qc_own rfl gc_Book)) (qe_one (qe_cmp (or_eqDic hu) s_eqDic (qe_fld cl_Book na_Book__lates (qv 0)) (qe_fld cl_Book na_Book__lates (qv 1)) (nomark _))))))
abbrev s_Book_has : Stmt := inCls 19 3
def as_Book_has (C_Book : Addr) (sp_is_name : ASp) : AS := asRet (aAnd (aCall sp_is_name [] (aCons (aVal 1) (aNil))) (aOp (aIn false) (aVal 1) (aUn (aFld C_Book ("_lates" : Str)) (aVal 0))))
theorem sc_Book_has : FnScope ["self", "value"] ["self", "value"] (defScope s_Book_has) := ⟨rfl, rfl, rfl, by decide +kernel, rfl, by decide +kernel, by decide +kernel⟩
theorem wk_Book_has {f : Addr} {fd : FuncData} {sp : ASp} {C_Book : Addr} {sp_is_name : ASp} (c_is_name : Cal Pr w K mg base ("is_name" : Str) 1 ["text"] sp_is_name) (cl_Book : Cls K C_Book) (na_Book__lates : NoAttr K C_Book ("_lates" : Str)) (F : FnP K ("has" : Str) ("Book.has" : Str) s_Book_has [] f fd) (hlen : ∀ xs, sp.pre xs → xs.length = 2)
    (rd : ∀ xs, sp.pre xs → as_Book_has C_Book sp_is_name (endsOf [0, 1] sp xs) (startA 2 xs)) : Fok Pr w K mg base 2 f fd ["self", "value"] sp := by
  refine fn_mk (N := ["self", "value"]) (k := 1) [0, 1] F sc_Book_has hlen (by decide) (fun cdv Ar outer s H E hr => ⟨as_Book_has C_Book sp_is_name, ?_, rd⟩)
  have hx := fun σ => passAt (X := cxOf (L2.CX Pr w) Pr w K mg base ["self", "value"] ("Book.has" : Str) (defScope s_Book_has) f cdv Ar outer s H E) (W := fun cls d _ H => E cls d H) (takes_of rfl rfl rfl rfl) σ
  have hp : PassesOwn _ _ _ (cxOf (L2.CX Pr w) Pr w K mg base ["self", "value"] ("Book.has" : Str) (defScope s_Book_has) f cdv Ar outer s H E).xe := passes_of rfl
  have tk := takes_of (X := cxOf (L2.CX Pr w) Pr w K mg base ["self", "value"] ("Book.has" : Str) (defScope s_Book_has) f cdv Ar outer s H E) rfl rfl rfl rfl
  have hu := hr.units
  have sc := sc_Book_has
  exact (qss_one (qs_ret (qe_and (qe_callC c_is_name (hr.mono (by decide)) rfl hx (qa_cons (qv 1) qa_nil)) (qe_one (qe_cmp (or_in hu) s_in (qv 1) (qe_fld cl_Book na_Book__lates (qv 0)) (by rfl))))))
abbrev s_Book_late : Stmt := inCls 19 4
def rs_Book_late_2 (C_Book C_BadName : Addr) (sp_Book_has : ASp) : AS := asRet (aOp aIx (aUn (aFld C_Book ("_lates" : Str)) (aVal 0)) (aVal 1))
def as_Book_late (C_Book C_BadName : Addr) (sp_Book_has : ASp) : AS := asSeq (asIf (atNot (aTest (aMeth C_Book ("has" : Str) sp_Book_has [] (aVal 0) (aCons (aVal 1) (aNil))))) (asRaise C_BadName ("value" : Str) (aVal 1)) (asNext)) (rs_Book_late_2 C_Book C_BadName sp_Book_has)
theorem sc_Book_late : FnScope ["self", "stream"] ["self", "stream"] (defScope s_Book_late) := ⟨rfl, rfl, rfl, by decide +kernel, rfl, by decide +kernel, by decide +kernel⟩
theorem wk_Book_late {f : Addr} {fd : FuncData} {sp : ASp} {C_Book C_BadName : Addr} {sp_Book_has : ASp} (m_Book_has : CalM Pr w K mg base C_Book ("has" : Str) 2 ["self", "value"] sp_Book_has) (cl_Book : Cls K C_Book) (na_Book__lates : NoAttr K C_Book ("_lates" : Str)) (ra_BadName : Rai Pr w K mg base ("BadName" : Str) C_BadName ("value" : Str) 1) (F : FnP K ("late" : Str) ("Book.late" : Str) s_Book_late [] f fd) (hlen : ∀ xs, sp.pre xs → xs.length = 2)
    (rd : ∀ xs, sp.pre xs → as_Book_late C_Book C_BadName sp_Book_has (endsOf [0, 1] sp xs) (startA 2 xs)) : Fok Pr w K mg base 3 f fd ["self", "stream"] sp := by
  refine fn_mk (N := ["self", "stream"]) (k := 2) [0, 1] F sc_Book_late hlen (by decide) (fun cdv Ar outer s H E hr => ⟨as_Book_late C_Book C_BadName sp_Book_has, ?_, rd⟩)
  have hx := fun σ => passAt (X := cxOf (L2.CX Pr w) Pr w K mg base ["self", "stream"] ("Book.late" : Str) (defScope s_Book_late) f cdv Ar outer s H E) (W := fun cls d _ H => E cls d H) (takes_of rfl rfl rfl rfl) σ
  have hp : PassesOwn _ _ _ (cxOf (L2.CX Pr w) Pr w K mg base ["self", "stream"] ("Book.late" : Str) (defScope s_Book_late) f cdv Ar outer s H E).xe := passes_of rfl
  have tk := takes_of (X := cxOf (L2.CX Pr w) Pr w K mg base ["self", "stream"] ("Book.late" : Str) (defScope s_Book_late) f cdv Ar outer s H E) rfl rfl rfl rfl
  have hu := hr.units
  have sc := sc_Book_late
  exact (qss_cons (qs_if (qt_not (qt_val (qe_methC (qv 0) cl_Book m_Book_has (hr.mono (by decide)) hx (qa_cons (qv 1) qa_nil)))) (qss_one (qs_raise ra_BadName rfl tk (hr.mono (by decide)) rfl (qv 1))) qss_nil)
    (qss_one (qs_ret (qe_ix hu (qe_fld cl_Book na_Book__lates (qv 0)) (qv 1)))))
abbrev s_is_id : Stmt := top 25
def as_is_id (sp_is_integer : ASp) : AS := asRet (aAnd (aCall sp_is_integer [] (aCons (aVal 0) (aNil))) (aOp aGe (aVal 0) (aC (.int 0))))
theorem sc_is_id : FnScope ["value"] ["value"] (defScope s_is_id) := ⟨rfl, rfl, rfl, by decide +kernel, rfl, by decide +kernel, by decide +kernel⟩
theorem wk_is_id {f : Addr} {fd : FuncData} {sp : ASp} {sp_is_integer : ASp} (c_is_integer : Cal Pr w K mg base ("is_integer" : Str) 1 ["value"] sp_is_integer) (F : FnP K ("is_id" : Str) ("is_id" : Str) s_is_id [] f fd) (hlen : ∀ xs, sp.pre xs → xs.length = 1)
    (rd : ∀ xs, sp.pre xs → as_is_id sp_is_integer (endsOf [0] sp xs) (startA 1 xs)) : Fok Pr w K mg base 2 f fd ["value"] sp := by
  refine fn_mk (N := ["value"]) (k := 1) [0] F sc_is_id hlen (by decide) (fun cdv Ar outer s H E hr => ⟨as_is_id sp_is_integer, ?_, rd⟩)
  have hx := fun σ => passAt (X := cxOf (L2.CX Pr w) Pr w K mg base ["value"] ("is_id" : Str) (defScope s_is_id) f cdv Ar outer s H E) (W := fun cls d _ H => E cls d H) (takes_of rfl rfl rfl rfl) σ
  have hp : PassesOwn _ _ _ (cxOf (L2.CX Pr w) Pr w K mg base ["value"] ("is_id" : Str) (defScope s_is_id) f cdv Ar outer s H E).xe := passes_of rfl
  have tk := takes_of (X := cxOf (L2.CX Pr w) Pr w K mg base ["value"] ("is_id" : Str) (defScope s_is_id) f cdv Ar outer s H E) rfl rfl rfl rfl
  have hu := hr.units
  have sc := sc_is_id
  exact (qss_one (qs_ret (qe_and (qe_callC c_is_integer (hr.mono (by decide)) rfl hx (qa_cons (qv 0) qa_nil)) (qe_one (qe_cmp op_ge s_ge (qv 0) qe_int (nomark _))))))
abbrev s_are_integers : Stmt := top 27
def as_are_integers (sp_is_integer : ASp) : AS := asRet (aCB aAll (aCons (aLc (aiSeq (aVal 0)) (agName 1) (atYes) (aCall sp_is_integer [] (aCons (aVal 1) (aNil))) [1]) (aNil)))
theorem sc_are_integers : FnScope ["values", "item"] ["values"] (defScope s_are_integers) := ⟨rfl, rfl, rfl, by decide +kernel, rfl, by decide +kernel, by decide +kernel⟩
theorem wk_are_integers {f : Addr} {fd : FuncData} {sp : ASp} {sp_is_integer : ASp} (c_is_integer : Cal Pr w K mg base ("is_integer" : Str) 1 ["value"] sp_is_integer) (g_all : mg ("all" : Str) = none) (F : FnP K ("are_integers" : Str) ("are_integers" : Str) s_are_integers [] f fd) (hlen : ∀ xs, sp.pre xs → xs.length = 1)
    (rd : ∀ xs, sp.pre xs → as_are_integers sp_is_integer (endsOf [0] sp xs) (startA 2 xs)) : Fok Pr w K mg base 2 f fd ["values"] sp := by
  refine fn_mk (N := ["values", "item"]) (k := 1) [0] F sc_are_integers hlen (by decide) (fun cdv Ar outer s H E hr => ⟨as_are_integers sp_is_integer, ?_, rd⟩)
  have hx := fun σ => passAt (X := cxOf (L2.CX Pr w) Pr w K mg base ["values", "item"] ("are_integers" : Str) (defScope s_are_integers) f cdv Ar outer s H E) (W := fun cls d _ H => E cls d H) (takes_of rfl rfl rfl rfl) σ
  have hp : PassesOwn _ _ _ (cxOf (L2.CX Pr w) Pr w K mg base ["values", "item"] ("are_integers" : Str) (defScope s_are_integers) f cdv Ar outer s H E).xe := passes_of rfl
  have tk := takes_of (X := cxOf (L2.CX Pr w) Pr w K mg base ["values", "item"] ("are_integers" : Str) (defScope s_are_integers) f cdv Ar outer s H E) rfl rfl rfl rfl
  have hu := hr.units
  have sc := sc_are_integers
  exact (qss_one (qs_ret (qe_callB (cr_all rfl) s_all rfl g_all PyProof.Rows.boot_all (qa_cons (qe_lcX [(("item" : Str), 1)] rfl sc.nd (show BlkOk ["values", "item"] (defScope s_are_integers) _ [(("item" : Str), 1)] from blkOk_by (by decide +kernel)) (qi_seq (qv 0)) (fun _ _ _ _ _ => (qg_name (i := 1) sc.nd rfl (by first | exact Or.inl rfl | exact Or.inr rfl) (show 1 ∉ ([0] : List Nat) from by decide))) (fun _ _ _ _ _ => qts_nil) (fun _ _ _ _ _ => (qe_callC c_is_integer (hr.mono (by decide)) rfl passF (qa_cons (qv 1) qa_nil))) (show ∀ v ∈ ([1] : List Nat), v ∉ ([0] : List Nat) from by decide) (show ∀ i ∈ ([1] : List Nat), i ∈ ([1] : List Nat) from by decide)) qa_nil))))
abbrev s_is_entry : Stmt := top 26
def rs_is_entry_5 (K : Fg) (sp_is_id sp_is_name sp_are_integers : ASp) : AS := asRet (aAnd (aOp aEq (aOp aIx (aVal 0) (aC (.int 0))) (aC (.str ("gone" : Str)))) (aAnd (aOp aEq (aCB aLen (aCons (aVal 0) (aNil))) (aC (.int 3))) (aCall sp_are_integers [] (aCons (aFrz (aSlice (aVal 0) (aoSome (aC (.int 2))) (aoNone))) (aNil)))))
def rs_is_entry_4 (K : Fg) (sp_is_id sp_is_name sp_are_integers : ASp) : AS := asSeq (asIf (aTest (aOp aEq (aOp aIx (aVal 0) (aC (.int 0))) (aC (.str ("fix" : Str))))) (asRet (aAnd (aOp aEq (aCB aLen (aCons (aVal 0) (aNil))) (aC (.int 5))) (aCall sp_are_integers [] (aCons (aFrz (aSlice (aVal 0) (aoSome (aC (.int 2))) (aoNone))) (aNil))))) (asNext)) (rs_is_entry_5 K sp_is_id sp_is_name sp_are_integers)
def rs_is_entry_3 (K : Fg) (sp_is_id sp_is_name sp_are_integers : ASp) : AS := asSeq (asIf (aTest (aOp aEq (aOp aIx (aVal 0) (aC (.int 0))) (aC (.str ("row" : Str))))) (asRet (aAnd (aOp aEq (aCB aLen (aCons (aVal 0) (aNil))) (aC (.int 7))) (aAnd (aCall sp_is_name [] (aCons (aOp aIx (aVal 0) (aC (.int 2))) (aNil))) (aAnd (aCall sp_is_name [] (aCons (aOp aIx (aVal 0) (aC (.int 3))) (aNil))) (aCall sp_are_integers [] (aCons (aFrz (aSlice (aVal 0) (aoSome (aC (.int 4))) (aoNone))) (aNil))))))) (asNext)) (rs_is_entry_4 K sp_is_id sp_is_name sp_are_integers)
def rs_is_entry_2 (K : Fg) (sp_is_id sp_is_name sp_are_integers : ASp) : AS := asSeq (asIf (atNot (aTest (aCall sp_is_id [] (aCons (aOp aIx (aVal 0) (aC (.int 1))) (aNil))))) (asRet (aC (.bl false))) (asNext)) (rs_is_entry_3 K sp_is_id sp_is_name sp_are_integers)
def as_is_entry (K : Fg) (sp_is_id sp_is_name sp_are_integers : ASp) : AS := asSeq (asIf (atOr (atNot (aTest (aUn (aIsi K [(.type "tuple")]) (aVal 0)))) (atOr (aTest (aOp aLt (aCB aLen (aCons (aVal 0) (aNil))) (aC (.int 3)))) (atNot (aTest (aUn (aIsi K [(.type "str")]) (aOp aIx (aVal 0) (aC (.int 0)))))))) (asRet (aC (.bl false))) (asNext)) (rs_is_entry_2 K sp_is_id sp_is_name sp_are_integers)
theorem sc_is_entry : FnScope ["value"] ["value"] (defScope s_is_entry) := ⟨rfl, rfl, rfl, by decide +kernel, rfl, by decide +kernel, by decide +kernel⟩
theorem wk_is_entry {f : Addr} {fd : FuncData} {sp : ASp} {sp_is_id : ASp} (c_is_id : Cal Pr w K mg base ("is_id" : Str) 2 ["value"] sp_is_id) {sp_is_name : ASp} (c_is_name : Cal Pr w K mg base ("is_name" : Str) 1 ["text"] sp_is_name) {sp_are_integers : ASp} (c_are_integers : Cal Pr w K mg base ("are_integers" : Str) 2 ["values"] sp_are_integers) (g_isinstance : mg ("isinstance" : Str) = none) (g_tuple : mg ("tuple" : Str) = none) (g_len : mg ("len" : Str) = none) (g_str : mg ("str" : Str) = none) (k_GONE_SIZE : ∃ t, mg ("GONE_SIZE" : Str) = some (.int 3 t)) (k_ROW_SIZE : ∃ t, mg ("ROW_SIZE" : Str) = some (.int 7 t)) (k_FIX_SIZE : ∃ t, mg ("FIX_SIZE" : Str) = some (.int 5 t)) (F : FnP K ("is_entry" : Str) ("is_entry" : Str) s_is_entry [] f fd) (hlen : ∀ xs, sp.pre xs → xs.length = 1)
    (rd : ∀ xs, sp.pre xs → as_is_entry K sp_is_id sp_is_name sp_are_integers (endsOf [0] sp xs) (startA 1 xs)) : Fok Pr w K mg base 3 f fd ["value"] sp := by
  refine fn_mk (N := ["value"]) (k := 2) [0] F sc_is_entry hlen (by decide) (fun cdv Ar outer s H E hr => ⟨as_is_entry K sp_is_id sp_is_name sp_are_integers, ?_, rd⟩)
  have hx := fun σ => passAt (X := cxOf (L2.CX Pr w) Pr w K mg base ["value"] ("is_entry" : Str) (defScope s_is_entry) f cdv Ar outer s H E) (W := fun cls d _ H => E cls d H) (takes_of rfl rfl rfl rfl) σ
  have hp : PassesOwn _ _ _ (cxOf (L2.CX Pr w) Pr w K mg base ["value"] ("is_entry" : Str) (defScope s_is_entry) f cdv Ar outer s H E).xe := passes_of rfl
  have tk := takes_of (X := cxOf (L2.CX Pr w) Pr w K mg base ["value"] ("is_entry" : Str) (defScope s_is_entry) f cdv Ar outer s H E) rfl rfl rfl rfl
  have hu := hr.units
  have sc := sc_is_entry
  exact (qss_cons (qs_if (qt_w (qw_or (qt_not (qt_val (qe_isi rfl g_isinstance (qv 0) (qc_ty rfl g_tuple bt_tuple)))) (qw_or (qt_cmp op_lt s_lt (qe_callB cr_len s_len rfl g_len boot_len (qa_cons (qv 0) qa_nil)) (qe_gint k_GONE_SIZE rfl) (nomark _)) (qw_or1 (qt_not (qt_val (qe_isi rfl g_isinstance (qe_ix hu (qv 0) qe_int) (qc_ty rfl g_str bt_str)))))))) (qss_one (qs_ret qe_bl)) qss_nil)
    (qss_cons (qs_if (qt_not (qt_val (qe_callC c_is_id (hr.mono (by decide)) rfl hx (qa_cons (qe_ix hu (qv 0) qe_int) qa_nil)))) (qss_one (qs_ret qe_bl)) qss_nil)
    (qss_cons (qs_if (qt_cmp (or_eq hu) s_eq (qe_ix hu (qv 0) qe_int) qe_str (nomark _)) (qss_one (qs_ret (qe_and (qe_cmp (or_eq hu) s_eq (qe_callB cr_len s_len rfl g_len boot_len (qa_cons (qv 0) qa_nil)) (qe_gint k_ROW_SIZE rfl) (nomark _)) (qe_and (qe_callC c_is_name (hr.mono (by decide)) rfl hx (qa_cons (qe_ix hu (qv 0) qe_int) qa_nil)) (qe_and (qe_callC c_is_name (hr.mono (by decide)) rfl hx (qa_cons (qe_ix hu (qv 0) qe_int) qa_nil)) (qe_one (qe_callC c_are_integers (hr.mono (by decide)) rfl hx (qa_cons (qe_frz (qe_slice (qv 0) (qo_some qe_int) qo_none)) qa_nil)))))))) qss_nil)
    (qss_cons (qs_if (qt_cmp (or_eq hu) s_eq (qe_ix hu (qv 0) qe_int) qe_str (nomark _)) (qss_one (qs_ret (qe_and (qe_cmp (or_eq hu) s_eq (qe_callB cr_len s_len rfl g_len boot_len (qa_cons (qv 0) qa_nil)) (qe_gint k_FIX_SIZE rfl) (nomark _)) (qe_one (qe_callC c_are_integers (hr.mono (by decide)) rfl hx (qa_cons (qe_frz (qe_slice (qv 0) (qo_some qe_int) qo_none)) qa_nil)))))) qss_nil)
    (qss_one (qs_ret (qe_and (qe_cmp (or_eq hu) s_eq (qe_ix hu (qv 0) qe_int) qe_str (nomark _)) (qe_and (qe_cmp (or_eq hu) s_eq (qe_callB cr_len s_len rfl g_len boot_len (qa_cons (qv 0) qa_nil)) (qe_gint k_GONE_SIZE rfl) (nomark _)) (qe_one (qe_callC c_are_integers (hr.mono (by decide)) rfl hx (qa_cons (qe_frz (qe_slice (qv 0) (qo_some qe_int) qo_none)) qa_nil)))))))))))
abbrev s_in_time : Stmt := top 28
def as_in_time : AS := asRet (aChain aLe aLe (aVal 0) (aVal 1) (aOp aPlus (aVal 0) (aVal 2)))
theorem sc_in_time : FnScope ["moment", "arrival", "late"] ["moment", "arrival", "late"] (defScope s_in_time) := ⟨rfl, rfl, rfl, by decide +kernel, rfl, by decide +kernel, by decide +kernel⟩
theorem wk_in_time {f : Addr} {fd : FuncData} {sp : ASp} (F : FnP K ("in_time" : Str) ("in_time" : Str) s_in_time [] f fd) (hlen : ∀ xs, sp.pre xs → xs.length = 3)
    (rd : ∀ xs, sp.pre xs → as_in_time (endsOf [0, 1, 2] sp xs) (startA 3 xs)) : Fok Pr w K mg base 1 f fd ["moment", "arrival", "late"] sp := by
  refine fn_mk (N := ["moment", "arrival", "late"]) (k := 0) [0, 1, 2] F sc_in_time hlen (by decide) (fun cdv Ar outer s H E hr => ⟨as_in_time, ?_, rd⟩)
  have hx := fun σ => passAt (X := cxOf (L2.CX Pr w) Pr w K mg base ["moment", "arrival", "late"] ("in_time" : Str) (defScope s_in_time) f cdv Ar outer s H E) (W := fun cls d _ H => E cls d H) (takes_of rfl rfl rfl rfl) σ
  have hp : PassesOwn _ _ _ (cxOf (L2.CX Pr w) Pr w K mg base ["moment", "arrival", "late"] ("in_time" : Str) (defScope s_in_time) f cdv Ar outer s H E).xe := passes_of rfl
  have tk := takes_of (X := cxOf (L2.CX Pr w) Pr w K mg base ["moment", "arrival", "late"] ("in_time" : Str) (defScope s_in_time) f cdv Ar outer s H E) rfl rfl rfl rfl
  have hu := hr.units
  have sc := sc_in_time
  exact (qss_one (qs_ret (qe_chain op_le s_le op_le s_le (qv 0) (qv 1) (qe_op op_plus s_plus (qv 0) (qv 2)))))
abbrev s_is_good : Stmt := top 29
def rs_is_good_9 (C_Book : Addr) (sp_is_entry sp_in_time sp_Book_has sp_Book_late : ASp) : AS := asRet (aOr (aOp aEq (aOp aIx (aVal 3) (aC (.int 0))) (aC (.str ("gone" : Str)))) (aCall sp_in_time [] (aCons (aOp aIx (aVal 3) (aC (.int 2))) (aCons (aVal 4) (aCons (aVal 6) (aNil))))))
def rs_is_good_8 (C_Book : Addr) (sp_is_entry sp_in_time sp_Book_has sp_Book_late : ASp) : AS := asSeq (asIf (aTest (aOp aGt (aVal 4) (aOp aPlus (aOp aIx (aVal 5) (aC (.int 2))) (aVal 6)))) (asRet (aC (.bl false))) (asNext)) (rs_is_good_9 C_Book sp_is_entry sp_in_time sp_Book_has sp_Book_late)
def rs_is_good_7 (C_Book : Addr) (sp_is_entry sp_in_time sp_Book_has sp_Book_late : ASp) : AS := asSeq (asSet 6 (aFrz (aMeth C_Book ("late" : Str) sp_Book_late [] (aVal 0) (aCons (aOp aIx (aVal 5) (aC (.int 0))) (aNil))))) (rs_is_good_8 C_Book sp_is_entry sp_in_time sp_Book_has sp_Book_late)
def rs_is_good_6 (C_Book : Addr) (sp_is_entry sp_in_time sp_Book_has sp_Book_late : ASp) : AS := asSeq (asIf (aTest (aOp aIs (aVal 5) (aC .non))) (asRet (aC (.bl false))) (asNext)) (rs_is_good_7 C_Book sp_is_entry sp_in_time sp_Book_has sp_Book_late)
def rs_is_good_5 (C_Book : Addr) (sp_is_entry sp_in_time sp_Book_has sp_Book_late : ASp) : AS := asSeq (asSet 5 (aFrz (aGet1 (aRef 1) (aOp aIx (aVal 3) (aC (.int 1)))))) (rs_is_good_6 C_Book sp_is_entry sp_in_time sp_Book_has sp_Book_late)
def rs_is_good_4 (C_Book : Addr) (sp_is_entry sp_in_time sp_Book_has sp_Book_late : ASp) : AS := asSeq (asIf (aTest (aOp aEq (aOp aIx (aVal 3) (aC (.int 0))) (aC (.str ("row" : Str))))) (asRet (aAnd (aOp (aIn true) (aOp aIx (aVal 3) (aC (.int 1))) (aRef 1)) (aAnd (aMeth C_Book ("has" : Str) sp_Book_has [] (aVal 0) (aCons (aOp aIx (aVal 3) (aC (.int 2))) (aNil))) (aCall sp_in_time [] (aCons (aOp aIx (aVal 3) (aC (.int 4))) (aCons (aVal 4) (aCons (aFrz (aMeth C_Book ("late" : Str) sp_Book_late [] (aVal 0) (aCons (aOp aIx (aVal 3) (aC (.int 2))) (aNil)))) (aNil)))))))) (asNext)) (rs_is_good_5 C_Book sp_is_entry sp_in_time sp_Book_has sp_Book_late)
def rs_is_good_3 (C_Book : Addr) (sp_is_entry sp_in_time sp_Book_has sp_Book_late : ASp) : AS := asSeq (asIf (atAnd (aTest (aOp aIsNot (aVal 2) (aC .non))) (aTest (aOp aLt (aVal 4) (aVal 2)))) (asRet (aC (.bl false))) (asNext)) (rs_is_good_4 C_Book sp_is_entry sp_in_time sp_Book_has sp_Book_late)
def rs_is_good_2 (C_Book : Addr) (sp_is_entry sp_in_time sp_Book_has sp_Book_late : ASp) : AS := asSeq (asSet 4 (aOp aIx (aVal 3) (aUn aNeg (aC (.int 1))))) (rs_is_good_3 C_Book sp_is_entry sp_in_time sp_Book_has sp_Book_late)
def as_is_good (C_Book : Addr) (sp_is_entry sp_in_time sp_Book_has sp_Book_late : ASp) : AS := asSeq (asIf (atNot (aTest (aCall sp_is_entry [] (aCons (aVal 3) (aNil))))) (asRet (aC (.bl false))) (asNext)) (rs_is_good_2 C_Book sp_is_entry sp_in_time sp_Book_has sp_Book_late)
theorem sc_is_good : FnScope ["book", "states", "last", "entry", "arrival", "old", "late"] ["book", "states", "last", "entry"] (defScope s_is_good) := ⟨rfl, rfl, rfl, by decide +kernel, rfl, by decide +kernel, by decide +kernel⟩
theorem wk_is_good {f : Addr} {fd : FuncData} {sp : ASp} {C_Book : Addr} {sp_is_entry : ASp} (c_is_entry : Cal Pr w K mg base ("is_entry" : Str) 3 ["value"] sp_is_entry) {sp_in_time : ASp} (c_in_time : Cal Pr w K mg base ("in_time" : Str) 1 ["moment", "arrival", "late"] sp_in_time) {sp_Book_has : ASp} (m_Book_has : CalM Pr w K mg base C_Book ("has" : Str) 2 ["self", "value"] sp_Book_has) {sp_Book_late : ASp} (m_Book_late : CalM Pr w K mg base C_Book ("late" : Str) 3 ["self", "stream"] sp_Book_late) (cl_Book : Cls K C_Book) (F : FnP K ("is_good" : Str) ("is_good" : Str) s_is_good [] f fd) (hlen : ∀ xs, sp.pre xs → xs.length = 4)
    (rd : ∀ xs, sp.pre xs → as_is_good C_Book sp_is_entry sp_in_time sp_Book_has sp_Book_late (endsOf [0, 1, 2, 3] sp xs) (startA 7 xs)) : Fok Pr w K mg base 4 f fd ["book", "states", "last", "entry"] sp := by
  refine fn_mk (N := ["book", "states", "last", "entry", "arrival", "old", "late"]) (k := 3) [0, 1, 2, 3] F sc_is_good hlen (by decide) (fun cdv Ar outer s H E hr => ⟨as_is_good C_Book sp_is_entry sp_in_time sp_Book_has sp_Book_late, ?_, rd⟩)
  have hx := fun σ => passAt (X := cxOf (L2.CX Pr w) Pr w K mg base ["book", "states", "last", "entry", "arrival", "old", "late"] ("is_good" : Str) (defScope s_is_good) f cdv Ar outer s H E) (W := fun cls d _ H => E cls d H) (takes_of rfl rfl rfl rfl) σ
  have hp : PassesOwn _ _ _ (cxOf (L2.CX Pr w) Pr w K mg base ["book", "states", "last", "entry", "arrival", "old", "late"] ("is_good" : Str) (defScope s_is_good) f cdv Ar outer s H E).xe := passes_of rfl
  have tk := takes_of (X := cxOf (L2.CX Pr w) Pr w K mg base ["book", "states", "last", "entry", "arrival", "old", "late"] ("is_good" : Str) (defScope s_is_good) f cdv Ar outer s H E) rfl rfl rfl rfl
  have hu := hr.units
  have sc := sc_is_good
  exact (qss_cons (qs_if (qt_not (qt_val (qe_callC c_is_entry (hr.mono (by decide)) rfl hx (qa_cons (qv 3) qa_nil)))) (qss_one (qs_ret qe_bl)) qss_nil)
    (qss_cons (qs_set (i := 4) sc.nd rfl (by first | exact Or.inl rfl | exact Or.inr rfl) (qe_ix hu (qv 3) (qe_un un_neg s_neg qe_int)) (show 4 ∉ ([0, 1, 2, 3] : List Nat) from by decide))
    (qss_cons (qs_if (qt_w (qw_and (qt_cmp op_notN s_isNot (qv 2) qe_non (nomark _)) (qw_and1 (qt_cmp op_lt s_lt (qv 4) (qv 2) (nomark _))))) (qss_one (qs_ret qe_bl)) qss_nil)
    (qss_cons (qs_if (qt_cmp (or_eq hu) s_eq (qe_ix hu (qv 3) qe_int) qe_str (nomark _)) (qss_one (qs_ret (qe_and (qe_cmp (or_notIn hu) s_in (qe_ix hu (qv 3) qe_int) (qr 1) (by rfl)) (qe_and (qe_methC (qv 0) cl_Book m_Book_has (hr.mono (by decide)) hx (qa_cons (qe_ix hu (qv 3) qe_int) qa_nil)) (qe_one (qe_callC c_in_time (hr.mono (by decide)) rfl hx (qa_cons (qe_ix hu (qv 3) qe_int) (qa_cons (qv 4) (qa_cons (qe_frz (qe_methC (qv 0) cl_Book m_Book_late (hr.mono (by decide)) hx (qa_cons (qe_ix hu (qv 3) qe_int) qa_nil))) qa_nil))))))))) qss_nil)
    (qss_cons (qs_set (i := 5) sc.nd rfl (by first | exact Or.inl rfl | exact Or.inr rfl) (qe_frz (qe_dget1 hu (qr 1) (qe_ix hu (qv 3) qe_int) ⟨rfl, rfl, rfl, rfl⟩)) (show 5 ∉ ([0, 1, 2, 3] : List Nat) from by decide))
    (qss_cons (qs_if (qt_cmp op_isN s_is (qv 5) qe_non (nomark _)) (qss_one (qs_ret qe_bl)) qss_nil)
    (qss_cons (qs_set (i := 6) sc.nd rfl (by first | exact Or.inl rfl | exact Or.inr rfl) (qe_frz (qe_methC (qv 0) cl_Book m_Book_late (hr.mono (by decide)) hx (qa_cons (qe_ix hu (qv 5) qe_int) qa_nil))) (show 6 ∉ ([0, 1, 2, 3] : List Nat) from by decide))
    (qss_cons (qs_if (qt_cmp op_gt s_gt (qv 4) (qe_op op_plus s_plus (qe_ix hu (qv 5) qe_int) (qv 6)) (nomark _)) (qss_one (qs_ret qe_bl)) qss_nil)
    (qss_one (qs_ret (qe_or (qe_cmp (or_eq hu) s_eq (qe_ix hu (qv 3) qe_int) qe_str (nomark _)) (qe_one (qe_callC c_in_time (hr.mono (by decide)) rfl hx (qa_cons (qe_ix hu (qv 3) qe_int) (qa_cons (qv 4) (qa_cons (qv 6) qa_nil))))))))))))))))
abbrev s_state_behind : Stmt := top 30
def rs_state_behind_3 : AS := asRet (aC .non)
def rs_state_behind_2 : AS := asSeq (asIf (aTest (aOp aEq (aOp aIx (aVal 1) (aC (.int 0))) (aC (.str ("fix" : Str))))) (asSeq (asSet 2 (aOp aIx (aRef 0) (aOp aIx (aVal 1) (aC (.int 1)))))
  (asRet (aTup (aCons (aOp aIx (aVal 2) (aC (.int 0))) (aCons (aOp aIx (aVal 2) (aC (.int 1))) (aCons (aOp aIx (aVal 1) (aC (.int 2))) (aCons (aOp aIx (aVal 1) (aC (.int 3))) (aNil)))))))) (asNext)) (rs_state_behind_3)
def as_state_behind : AS := asSeq (asIf (aTest (aOp aEq (aOp aIx (aVal 1) (aC (.int 0))) (aC (.str ("row" : Str))))) (asRet (aTup (aCons (aOp aIx (aVal 1) (aC (.int 2))) (aCons (aOp aIx (aVal 1) (aC (.int 3))) (aCons (aOp aIx (aVal 1) (aC (.int 4))) (aCons (aOp aIx (aVal 1) (aC (.int 5))) (aNil))))))) (asNext)) (rs_state_behind_2)
theorem sc_state_behind : FnScope ["states", "entry", "old"] ["states", "entry"] (defScope s_state_behind) := ⟨rfl, rfl, rfl, by decide +kernel, rfl, by decide +kernel, by decide +kernel⟩
theorem wk_state_behind {f : Addr} {fd : FuncData} {sp : ASp} (F : FnP K ("state_behind" : Str) ("state_behind" : Str) s_state_behind [] f fd) (hlen : ∀ xs, sp.pre xs → xs.length = 2)
    (rd : ∀ xs, sp.pre xs → as_state_behind (endsOf [0, 1] sp xs) (startA 3 xs)) : Fok Pr w K mg base 1 f fd ["states", "entry"] sp := by
  refine fn_mk (N := ["states", "entry", "old"]) (k := 0) [0, 1] F sc_state_behind hlen (by decide) (fun cdv Ar outer s H E hr => ⟨as_state_behind, ?_, rd⟩)
  have hx := fun σ => passAt (X := cxOf (L2.CX Pr w) Pr w K mg base ["states", "entry", "old"] ("state_behind" : Str) (defScope s_state_behind) f cdv Ar outer s H E) (W := fun cls d _ H => E cls d H) (takes_of rfl rfl rfl rfl) σ
  have hp : PassesOwn _ _ _ (cxOf (L2.CX Pr w) Pr w K mg base ["states", "entry", "old"] ("state_behind" : Str) (defScope s_state_behind) f cdv Ar outer s H E).xe := passes_of rfl
  have tk := takes_of (X := cxOf (L2.CX Pr w) Pr w K mg base ["states", "entry", "old"] ("state_behind" : Str) (defScope s_state_behind) f cdv Ar outer s H E) rfl rfl rfl rfl
  have hu := hr.units
  have sc := sc_state_behind
  exact (qss_cons (qs_if (qt_cmp (or_eq hu) s_eq (qe_ix hu (qv 1) qe_int) qe_str (nomark _)) (qss_one (qs_ret (qe_tup (qa_cons (qe_ix hu (qv 1) qe_int) (qa_cons (qe_ix hu (qv 1) qe_int) (qa_cons (qe_ix hu (qv 1) qe_int) (qa_cons (qe_ix hu (qv 1) qe_int) qa_nil))))))) qss_nil)
    (qss_cons (qs_if (qt_cmp (or_eq hu) s_eq (qe_ix hu (qv 1) qe_int) qe_str (nomark _)) (qss_cons (qs_set (i := 2) sc.nd rfl (by first | exact Or.inl rfl | exact Or.inr rfl) (qe_ix hu (qr 0) (qe_ix hu (qv 1) qe_int)) (show 2 ∉ ([0, 1] : List Nat) from by decide))
    (qss_one (qs_ret (qe_tup (qa_cons (qe_ix hu (qv 2) qe_int) (qa_cons (qe_ix hu (qv 2) qe_int) (qa_cons (qe_ix hu (qv 1) qe_int) (qa_cons (qe_ix hu (qv 1) qe_int) qa_nil)))))))) qss_nil)
    (qss_one (qs_ret qe_non))))
abbrev s_first_bad : Stmt := top 31
def bd_first_bad_1 (sp_is_good sp_state_behind : ASp) : AS := asSeq (asIf (atNot (aTest (aCall sp_is_good [] (aCons (aVal 0) (aCons (aRef 2) (aCons (aVal 3) (aCons (aVal 5) (aNil)))))))) (asRet (aVal 4)) (asNext))
  (asSeq (asPut (aCall sp_state_behind [] (aCons (aRef 2) (aCons (aVal 5) (aNil)))) (aRef 2) (aOp aIx (aVal 5) (aC (.int 1))))
  (asSet 3 (aOp aIx (aVal 5) (aUn aNeg (aC (.int 1))))))
def rs_first_bad_4 (sp_is_good sp_state_behind : ASp) : AS := asRet (aC .non)
def rs_first_bad_3 (sp_is_good sp_state_behind : ASp) : AS := asSeq (asFor (aiEnumR 1) (agTup 2 (agCons (agName 4) (agCons (agName 5) (agNil)))) (bd_first_bad_1 sp_is_good sp_state_behind)) (rs_first_bad_4 sp_is_good sp_state_behind)
def rs_first_bad_2 (sp_is_good sp_state_behind : ASp) : AS := asSeq (asSet 3 (aC .non)) (rs_first_bad_3 sp_is_good sp_state_behind)
def as_first_bad (sp_is_good sp_state_behind : ASp) : AS := asSeq (asSet 2 (aDict0)) (rs_first_bad_2 sp_is_good sp_state_behind)
theorem sc_first_bad : FnScope ["book", "entries", "states", "last", "at", "entry"] ["book", "entries"] (defScope s_first_bad) := ⟨rfl, rfl, rfl, by decide +kernel, rfl, by decide +kernel, by decide +kernel⟩
theorem wk_first_bad {f : Addr} {fd : FuncData} {sp : ASp} {sp_is_good : ASp} (c_is_good : Cal Pr w K mg base ("is_good" : Str) 4 ["book", "states", "last", "entry"] sp_is_good) {sp_state_behind : ASp} (c_state_behind : Cal Pr w K mg base ("state_behind" : Str) 1 ["states", "entry"] sp_state_behind) (g_enumerate : mg ("enumerate" : Str) = none) (F : FnP K ("first_bad" : Str) ("first_bad" : Str) s_first_bad [] f fd) (hlen : ∀ xs, sp.pre xs → xs.length = 2)
    (rd : ∀ xs, sp.pre xs → as_first_bad sp_is_good sp_state_behind (endsOf [0, 1] sp xs) (startA 6 xs)) : Fok Pr w K mg base 5 f fd ["book", "entries"] sp := by
  refine fn_mk (N := ["book", "entries", "states", "last", "at", "entry"]) (k := 4) [0, 1] F sc_first_bad hlen (by decide) (fun cdv Ar outer s H E hr => ⟨as_first_bad sp_is_good sp_state_behind, ?_, rd⟩)
  have hx := fun σ => passAt (X := cxOf (L2.CX Pr w) Pr w K mg base ["book", "entries", "states", "last", "at", "entry"] ("first_bad" : Str) (defScope s_first_bad) f cdv Ar outer s H E) (W := fun cls d _ H => E cls d H) (takes_of rfl rfl rfl rfl) σ
  have hp : PassesOwn _ _ _ (cxOf (L2.CX Pr w) Pr w K mg base ["book", "entries", "states", "last", "at", "entry"] ("first_bad" : Str) (defScope s_first_bad) f cdv Ar outer s H E).xe := passes_of rfl
  have tk := takes_of (X := cxOf (L2.CX Pr w) Pr w K mg base ["book", "entries", "states", "last", "at", "entry"] ("first_bad" : Str) (defScope s_first_bad) f cdv Ar outer s H E) rfl rfl rfl rfl
  have hu := hr.units
  have sc := sc_first_bad
  exact (qss_cons (qs_set (i := 2) sc.nd rfl (by first | exact Or.inl rfl | exact Or.inr rfl) qe_dict0 (show 2 ∉ ([0, 1] : List Nat) from by decide))
    (qss_cons (qs_set (i := 3) sc.nd rfl (by first | exact Or.inl rfl | exact Or.inr rfl) qe_non (show 3 ∉ ([0, 1] : List Nat) from by decide))
    (qss_cons (qs_for hp rfl (qi_enumR 1 rfl g_enumerate (show 1 ∈ ([0, 1] : List Nat) from by decide)) (qg_tup rfl (qgs_cons (qg_name (i := 4) sc.nd rfl (by first | exact Or.inl rfl | exact Or.inr rfl) (show 4 ∉ ([0, 1] : List Nat) from by decide)) (qgs_cons (qg_name (i := 5) sc.nd rfl (by first | exact Or.inl rfl | exact Or.inr rfl) (show 5 ∉ ([0, 1] : List Nat) from by decide)) qgs_nil))) (qss_cons (qs_if (qt_not (qt_val (qe_callC c_is_good (hr.mono (by decide)) rfl hx (qa_cons (qv 0) (qa_cons (qr 2) (qa_cons (qv 3) (qa_cons (qv 5) qa_nil))))))) (qss_one (qs_ret (qv 4))) qss_nil)
    (qss_cons (qs_put hu (qe_callC c_state_behind (hr.mono (by decide)) rfl hx (qa_cons (qr 2) (qa_cons (qv 5) qa_nil))) (qr 2) (qe_ix hu (qv 5) qe_int))
    (qss_one (qs_set (i := 3) sc.nd rfl (by first | exact Or.inl rfl | exact Or.inr rfl) (qe_ix hu (qv 5) (qe_un un_neg s_neg qe_int)) (show 3 ∉ ([0, 1] : List Nat) from by decide))))))
    (qss_one (qs_ret qe_non)))))
abbrev s_Journal___init__ : Stmt := inCls 34 0
def rs_Journal___init___6 (K : Fg) (C_Journal C_BadBook C_BadEntry C_Book : Addr) (sp_is_row sp_first_bad : ASp) : AS := asFld C_Journal ("_entries" : Str) (aCB aTuple (aCons (aVal 2) (aNil))) (aRef 0)
def rs_Journal___init___5 (K : Fg) (C_Journal C_BadBook C_BadEntry C_Book : Addr) (sp_is_row sp_first_bad : ASp) : AS := asSeq (asFld C_Journal ("_book" : Str) (aVal 1) (aRef 0)) (rs_Journal___init___6 K C_Journal C_BadBook C_BadEntry C_Book sp_is_row sp_first_bad)
def rs_Journal___init___4 (K : Fg) (C_Journal C_BadBook C_BadEntry C_Book : Addr) (sp_is_row sp_first_bad : ASp) : AS := asSeq (asIf (aTest (aOp aIsNot (aVal 3) (aC .non))) (asRaise C_BadEntry ("at" : Str) (aVal 3)) (asNext)) (rs_Journal___init___5 K C_Journal C_BadBook C_BadEntry C_Book sp_is_row sp_first_bad)
def rs_Journal___init___3 (K : Fg) (C_Journal C_BadBook C_BadEntry C_Book : Addr) (sp_is_row sp_first_bad : ASp) : AS := asSeq (asSet 3 (aCall sp_first_bad [] (aCons (aVal 1) (aCons (aVal 2) (aNil))))) (rs_Journal___init___4 K C_Journal C_BadBook C_BadEntry C_Book sp_is_row sp_first_bad)
def rs_Journal___init___2 (K : Fg) (C_Journal C_BadBook C_BadEntry C_Book : Addr) (sp_is_row sp_first_bad : ASp) : AS := asSeq (asIf (atOr (atNot (aTest (aCall sp_is_row [] (aCons (aVal 2) (aNil))))) (aTest (aOp aGt (aCB aLen (aCons (aVal 2) (aNil))) (aC (.int 400))))) (asRaise C_BadEntry ("at" : Str) (aUn aNeg (aC (.int 1)))) (asNext)) (rs_Journal___init___3 K C_Journal C_BadBook C_BadEntry C_Book sp_is_row sp_first_bad)
def as_Journal___init__ (K : Fg) (C_Journal C_BadBook C_BadEntry C_Book : Addr) (sp_is_row sp_first_bad : ASp) : AS := asSeq (asIf (atNot (aTest (aUn (aIsi K [(.ref C_Book)]) (aVal 1)))) (asRaise C_BadBook ("value" : Str) (aVal 1)) (asNext)) (rs_Journal___init___2 K C_Journal C_BadBook C_BadEntry C_Book sp_is_row sp_first_bad)
theorem sc_Journal___init__ : FnScope ["self", "book", "entries", "at"] ["self", "book", "entries"] (defScope s_Journal___init__) := ⟨rfl, rfl, rfl, by decide +kernel, rfl, by decide +kernel, by decide +kernel⟩
theorem wk_Journal___init__ {f : Addr} {fd : FuncData} {sp : ASp} {C_Journal C_BadBook C_BadEntry C_Book : Addr} {sp_is_row : ASp} (c_is_row : Cal Pr w K mg base ("is_row" : Str) 1 ["value"] sp_is_row) {sp_first_bad : ASp} (c_first_bad : Cal Pr w K mg base ("first_bad" : Str) 5 ["book", "entries"] sp_first_bad) (cl_Journal : Cls K C_Journal) (na_Journal__book : NoAttr K C_Journal ("_book" : Str)) (na_Journal__entries : NoAttr K C_Journal ("_entries" : Str)) (ra_BadBook : Rai Pr w K mg base ("BadBook" : Str) C_BadBook ("value" : Str) 1) (ra_BadEntry : Rai Pr w K mg base ("BadEntry" : Str) C_BadEntry ("at" : Str) 1) (gc_Book : mg ("Book" : Str) = some (.ref C_Book)) (g_isinstance : mg ("isinstance" : Str) = none) (g_len : mg ("len" : Str) = none) (g_tuple : mg ("tuple" : Str) = none) (k_MOST_ENTRIES : ∃ t, mg ("MOST_ENTRIES" : Str) = some (.int 400 t)) (F : FnP K ("__init__" : Str) ("Journal.__init__" : Str) s_Journal___init__ dvJ f fd) (hlen : ∀ xs, sp.pre xs → xs.length = 3)
    (rd : ∀ xs, sp.pre xs → as_Journal___init__ K C_Journal C_BadBook C_BadEntry C_Book sp_is_row sp_first_bad (endsOf [0, 1, 2] sp xs) (startA 4 xs)) : Fok Pr w K mg base 6 f fd ["self", "book", "entries"] sp := by
  refine fn_mk (N := ["self", "book", "entries", "at"]) (k := 5) [0, 1, 2] F sc_Journal___init__ hlen (by decide) (fun cdv Ar outer s H E hr => ⟨as_Journal___init__ K C_Journal C_BadBook C_BadEntry C_Book sp_is_row sp_first_bad, ?_, rd⟩)
  have hx := fun σ => passAt (X := cxOf (L2.CX Pr w) Pr w K mg base ["self", "book", "entries", "at"] ("Journal.__init__" : Str) (defScope s_Journal___init__) f cdv Ar outer s H E) (W := fun cls d _ H => E cls d H) (takes_of rfl rfl rfl rfl) σ
  have hp : PassesOwn _ _ _ (cxOf (L2.CX Pr w) Pr w K mg base ["self", "book", "entries", "at"] ("Journal.__init__" : Str) (defScope s_Journal___init__) f cdv Ar outer s H E).xe := passes_of rfl
  have tk := takes_of (X := cxOf (L2.CX Pr w) Pr w K mg base ["self", "book", "entries", "at"] ("Journal.__init__" : Str) (defScope s_Journal___init__) f cdv Ar outer s H E) rfl rfl rfl rfl
  have hu := hr.units
  have sc := sc_Journal___init__
  exact (qss_cons (qs_if (qt_not (qt_val (qe_isi rfl g_isinstance (qv 1) (qc_own rfl gc_Book)))) (qss_one (qs_raise ra_BadBook rfl tk (hr.mono (by decide)) rfl (qv 1))) qss_nil)
    (qss_cons (qs_if (qt_w (qw_or (qt_not (qt_val (qe_callC c_is_row (hr.mono (by decide)) rfl hx (qa_cons (qv 2) qa_nil)))) (qw_or1 (qt_cmp op_gt s_gt (qe_callB cr_len s_len rfl g_len boot_len (qa_cons (qv 2) qa_nil)) (qe_gint k_MOST_ENTRIES rfl) (nomark _))))) (qss_one (qs_raise ra_BadEntry rfl tk (hr.mono (by decide)) rfl (qe_un un_neg s_neg qe_int))) qss_nil)
    (qss_cons (qs_set (i := 3) sc.nd rfl (by first | exact Or.inl rfl | exact Or.inr rfl) (qe_callC c_first_bad (hr.mono (by decide)) rfl hx (qa_cons (qv 1) (qa_cons (qv 2) qa_nil))) (show 3 ∉ ([0, 1, 2] : List Nat) from by decide))
    (qss_cons (qs_if (qt_cmp op_notN s_isNot (qv 3) qe_non (nomark _)) (qss_one (qs_raise ra_BadEntry rfl tk (hr.mono (by decide)) rfl (qv 3))) qss_nil)
    (qss_cons (qs_fld cl_Journal na_Journal__book (qv 1) (qr 0))
    (qss_one (qs_fld cl_Journal na_Journal__entries (qe_callTy call_tuple_of s_tuple rfl g_tuple PyProof.Rows.boot_tuple (qa_cons (qv 2) qa_nil)) (qr 0))))))))
abbrev s_Journal_entries : Stmt := inCls 34 2
def as_Journal_entries (C_Journal : Addr) : AS := asRet (aUn (aFld C_Journal ("_entries" : Str)) (aVal 0))
theorem sc_Journal_entries : FnScope ["self"] ["self"] (defScope s_Journal_entries) := ⟨rfl, rfl, rfl, by decide +kernel, rfl, by decide +kernel, by decide +kernel⟩
theorem wk_Journal_entries {f : Addr} {fd : FuncData} {sp : ASp} {C_Journal : Addr} (cl_Journal : Cls K C_Journal) (na_Journal__entries : NoAttr K C_Journal ("_entries" : Str)) (F : FnP K ("entries" : Str) ("Journal.entries" : Str) s_Journal_entries [] f fd) (hlen : ∀ xs, sp.pre xs → xs.length = 1)
    (rd : ∀ xs, sp.pre xs → as_Journal_entries C_Journal (endsOf [0] sp xs) (startA 1 xs)) : Fok Pr w K mg base 1 f fd ["self"] sp := by
  refine fn_mk (N := ["self"]) (k := 0) [0] F sc_Journal_entries hlen (by decide) (fun cdv Ar outer s H E hr => ⟨as_Journal_entries C_Journal, ?_, rd⟩)
  have hx := fun σ => passAt (X := cxOf (L2.CX Pr w) Pr w K mg base ["self"] ("Journal.entries" : Str) (defScope s_Journal_entries) f cdv Ar outer s H E) (W := fun cls d _ H => E cls d H) (takes_of rfl rfl rfl rfl) σ
  have hp : PassesOwn _ _ _ (cxOf (L2.CX Pr w) Pr w K mg base ["self"] ("Journal.entries" : Str) (defScope s_Journal_entries) f cdv Ar outer s H E).xe := passes_of rfl
  have tk := takes_of (X := cxOf (L2.CX Pr w) Pr w K mg base ["self"] ("Journal.entries" : Str) (defScope s_Journal_entries) f cdv Ar outer s H E) rfl rfl rfl rfl
  have hu := hr.units
  have sc := sc_Journal_entries
  exact (qss_one (qs_ret (qe_fld cl_Journal na_Journal__entries (qv 0))))
abbrev s_Journal_then : Stmt := inCls 34 7
def rs_Journal_then_3 (C_Journal C_BadEntry : Addr) (sp_first_bad sp_Journal___init__ : ASp) : AS := asRet (aMake C_Journal sp_Journal___init__ [] (aCons (aFrz (aUn (aFld C_Journal ("_book" : Str)) (aVal 0))) (aCons (aVal 2) (aNil))))
def rs_Journal_then_2 (C_Journal C_BadEntry : Addr) (sp_first_bad sp_Journal___init__ : ASp) : AS := asSeq (asIf (atOr (aTest (aOp aGt (aCB aLen (aCons (aVal 2) (aNil))) (aC (.int 400)))) (aTest (aOp aIsNot (aCall sp_first_bad [] (aCons (aFrz (aUn (aFld C_Journal ("_book" : Str)) (aVal 0))) (aCons (aVal 2) (aNil)))) (aC .non)))) (asRaise C_BadEntry ("at" : Str) (aCB aLen (aCons (aUn (aFld C_Journal ("_entries" : Str)) (aVal 0)) (aNil)))) (asNext)) (rs_Journal_then_3 C_Journal C_BadEntry sp_first_bad sp_Journal___init__)
def as_Journal_then (C_Journal C_BadEntry : Addr) (sp_first_bad sp_Journal___init__ : ASp) : AS := asSeq (asSet 2 (aFrz (aOp aPlus (aUn (aFld C_Journal ("_entries" : Str)) (aVal 0)) (aTup (aCons (aVal 1) (aNil)))))) (rs_Journal_then_2 C_Journal C_BadEntry sp_first_bad sp_Journal___init__)
theorem sc_Journal_then : FnScope ["self", "entry", "longer"] ["self", "entry"] (defScope s_Journal_then) := ⟨rfl, rfl, rfl, by decide +kernel, rfl, by decide +kernel, by decide +kernel⟩
theorem wk_Journal_then {f : Addr} {fd : FuncData} {sp : ASp} {C_Journal C_BadEntry : Addr} {sp_first_bad : ASp} (c_first_bad : Cal Pr w K mg base ("first_bad" : Str) 5 ["book", "entries"] sp_first_bad) {sp_Journal___init__ : ASp} (mk_Journal : CalK Pr w K mg base ("Journal" : Str) C_Journal 6 ["self", "book", "entries"] sp_Journal___init__) (cl_Journal : Cls K C_Journal) (na_Journal__entries : NoAttr K C_Journal ("_entries" : Str)) (na_Journal__book : NoAttr K C_Journal ("_book" : Str)) (ra_BadEntry : Rai Pr w K mg base ("BadEntry" : Str) C_BadEntry ("at" : Str) 1) (g_len : mg ("len" : Str) = none) (k_MOST_ENTRIES : ∃ t, mg ("MOST_ENTRIES" : Str) = some (.int 400 t)) (F : FnP K ("then" : Str) ("Journal.then" : Str) s_Journal_then [] f fd) (hlen : ∀ xs, sp.pre xs → xs.length = 2)
    (rd : ∀ xs, sp.pre xs → as_Journal_then C_Journal C_BadEntry sp_first_bad sp_Journal___init__ (endsOf [0, 1] sp xs) (startA 3 xs)) : Fok Pr w K mg base 8 f fd ["self", "entry"] sp := by
  refine fn_mk (N := ["self", "entry", "longer"]) (k := 7) [0, 1] F sc_Journal_then hlen (by decide) (fun cdv Ar outer s H E hr => ⟨as_Journal_then C_Journal C_BadEntry sp_first_bad sp_Journal___init__, ?_, rd⟩)
  have hx := fun σ => passAt (X := cxOf (L2.CX Pr w) Pr w K mg base ["self", "entry", "longer"] ("Journal.then" : Str) (defScope s_Journal_then) f cdv Ar outer s H E) (W := fun cls d _ H => E cls d H) (takes_of rfl rfl rfl rfl) σ
  have hp : PassesOwn _ _ _ (cxOf (L2.CX Pr w) Pr w K mg base ["self", "entry", "longer"] ("Journal.then" : Str) (defScope s_Journal_then) f cdv Ar outer s H E).xe := passes_of rfl
  have tk := takes_of (X := cxOf (L2.CX Pr w) Pr w K mg base ["self", "entry", "longer"] ("Journal.then" : Str) (defScope s_Journal_then) f cdv Ar outer s H E) rfl rfl rfl rfl
  have hu := hr.units
  have sc := sc_Journal_then
  exact (qss_cons (qs_set (i := 2) sc.nd rfl (by first | exact Or.inl rfl | exact Or.inr rfl) (qe_frz (qe_op op_plus s_plus (qe_fld cl_Journal na_Journal__entries (qv 0)) (qe_tup (qa_cons (qv 1) qa_nil)))) (show 2 ∉ ([0, 1] : List Nat) from by decide))
    (qss_cons (qs_if (qt_w (qw_or (qt_cmp op_gt s_gt (qe_callB cr_len s_len rfl g_len boot_len (qa_cons (qv 2) qa_nil)) (qe_gint k_MOST_ENTRIES rfl) (nomark _)) (qw_or1 (qt_cmp op_notN s_isNot (qe_callC c_first_bad (hr.mono (by decide)) rfl hx (qa_cons (qe_frz (qe_fld cl_Journal na_Journal__book (qv 0))) (qa_cons (qv 2) qa_nil))) qe_non (nomark _))))) (qss_one (qs_raise ra_BadEntry rfl tk (hr.mono (by decide)) rfl (qe_callB cr_len s_len rfl g_len boot_len (qa_cons (qe_fld cl_Journal na_Journal__entries (qv 0)) qa_nil)))) qss_nil)
    (qss_one (qs_ret (qe_makeC mk_Journal (hr.mono (by decide)) rfl hx (qa_cons (qe_frz (qe_fld cl_Journal na_Journal__book (qv 0))) (qa_cons (qv 2) qa_nil)))))))
abbrev s_Journal_heard : Stmt := inCls 34 8
def rs_Journal_heard_2 (C_Journal : Addr) (sp_check_moment sp_Journal___init__ : ASp) : AS := asRet (aMake C_Journal sp_Journal___init__ [] (aCons (aFrz (aUn (aFld C_Journal ("_book" : Str)) (aVal 0))) (aCons (aFrz (aLc (aiSeq (aUn (aFld C_Journal ("_entries" : Str)) (aVal 0))) (agName 2) (aTest (aOp aLe (aOp aIx (aVal 2) (aUn aNeg (aC (.int 1)))) (aVal 1))) (aVal 2) [2])) (aNil))))
def as_Journal_heard (C_Journal : Addr) (sp_check_moment sp_Journal___init__ : ASp) : AS := asSeq (asExpr (aCall sp_check_moment [] (aCons (aVal 1) (aNil)))) (rs_Journal_heard_2 C_Journal sp_check_moment sp_Journal___init__)
theorem sc_Journal_heard : FnScope ["self", "h", "entry"] ["self", "h"] (defScope s_Journal_heard) := ⟨rfl, rfl, rfl, by decide +kernel, rfl, by decide +kernel, by decide +kernel⟩
theorem wk_Journal_heard {f : Addr} {fd : FuncData} {sp : ASp} {C_Journal : Addr} {sp_check_moment : ASp} (c_check_moment : Cal Pr w K mg base ("check_moment" : Str) 3 ["value"] sp_check_moment) {sp_Journal___init__ : ASp} (mk_Journal : CalK Pr w K mg base ("Journal" : Str) C_Journal 6 ["self", "book", "entries"] sp_Journal___init__) (cl_Journal : Cls K C_Journal) (na_Journal__book : NoAttr K C_Journal ("_book" : Str)) (na_Journal__entries : NoAttr K C_Journal ("_entries" : Str)) (F : FnP K ("heard" : Str) ("Journal.heard" : Str) s_Journal_heard [] f fd) (hlen : ∀ xs, sp.pre xs → xs.length = 2)
    (rd : ∀ xs, sp.pre xs → as_Journal_heard C_Journal sp_check_moment sp_Journal___init__ (endsOf [0, 1] sp xs) (startA 3 xs)) : Fok Pr w K mg base 8 f fd ["self", "h"] sp := by
  refine fn_mk (N := ["self", "h", "entry"]) (k := 7) [0, 1] F sc_Journal_heard hlen (by decide) (fun cdv Ar outer s H E hr => ⟨as_Journal_heard C_Journal sp_check_moment sp_Journal___init__, ?_, rd⟩)
  have hx := fun σ => passAt (X := cxOf (L2.CX Pr w) Pr w K mg base ["self", "h", "entry"] ("Journal.heard" : Str) (defScope s_Journal_heard) f cdv Ar outer s H E) (W := fun cls d _ H => E cls d H) (takes_of rfl rfl rfl rfl) σ
  have hp : PassesOwn _ _ _ (cxOf (L2.CX Pr w) Pr w K mg base ["self", "h", "entry"] ("Journal.heard" : Str) (defScope s_Journal_heard) f cdv Ar outer s H E).xe := passes_of rfl
  have tk := takes_of (X := cxOf (L2.CX Pr w) Pr w K mg base ["self", "h", "entry"] ("Journal.heard" : Str) (defScope s_Journal_heard) f cdv Ar outer s H E) rfl rfl rfl rfl
  have hu := hr.units
  have sc := sc_Journal_heard
  exact (qss_cons (qs_expr (qe_callC c_check_moment (hr.mono (by decide)) rfl hx (qa_cons (qv 1) qa_nil)))
    (qss_one (qs_ret (qe_makeC mk_Journal (hr.mono (by decide)) rfl hx (qa_cons (qe_frz (qe_fld cl_Journal na_Journal__book (qv 0))) (qa_cons (qe_frz (qe_lcX [(("entry" : Str), 2)] rfl sc.nd (show BlkOk ["self", "h", "entry"] (defScope s_Journal_heard) _ [(("entry" : Str), 2)] from blkOk_by (by decide +kernel)) (qi_seq (qe_fld cl_Journal na_Journal__entries (qv 0))) (fun _ _ _ _ _ => (qg_name (i := 2) sc.nd rfl (by first | exact Or.inl rfl | exact Or.inr rfl) (show 2 ∉ ([0, 1] : List Nat) from by decide))) (fun _ _ _ _ _ => (qts_one (qt_cmp op_le s_le (qe_ix hu (qv 2) (qe_un un_neg s_neg qe_int)) (qv 1) (nomark _)))) (fun _ _ _ _ _ => (qv 2)) (show ∀ v ∈ ([2] : List Nat), v ∉ ([0, 1] : List Nat) from by decide) (show ∀ i ∈ ([2] : List Nat), i ∈ ([2] : List Nat) from by decide))) qa_nil))))))
abbrev s__law_pool : Stmt := top 36
def as__law_pool : AS := asRet (aLst (aCons (aCB aList (aCons (aVal 0) (aNil))) (aCons (aC (.int 0)) (aCons (aC (.int 0)) (aCons (aC (.int 0)) (aCons (aC (.int 1)) (aNil)))))))
theorem sc__law_pool : FnScope ["_law_script"] ["_law_script"] (defScope s__law_pool) := ⟨rfl, rfl, rfl, by decide +kernel, rfl, by decide +kernel, by decide +kernel⟩
theorem wk__law_pool {f : Addr} {fd : FuncData} {sp : ASp} (g_list : mg ("list" : Str) = none) (F : FnP K ("_law_pool" : Str) ("_law_pool" : Str) s__law_pool [] f fd) (hlen : ∀ xs, sp.pre xs → xs.length = 1)
    (rd : ∀ xs, sp.pre xs → as__law_pool (endsOf [0] sp xs) (startA 1 xs)) : Fok Pr w K mg base 1 f fd ["_law_script"] sp := by
  refine fn_mk (N := ["_law_script"]) (k := 0) [0] F sc__law_pool hlen (by decide) (fun cdv Ar outer s H E hr => ⟨as__law_pool, ?_, rd⟩)
  have hx := fun σ => passAt (X := cxOf (L2.CX Pr w) Pr w K mg base ["_law_script"] ("_law_pool" : Str) (defScope s__law_pool) f cdv Ar outer s H E) (W := fun cls d _ H => E cls d H) (takes_of rfl rfl rfl rfl) σ
  have hp : PassesOwn _ _ _ (cxOf (L2.CX Pr w) Pr w K mg base ["_law_script"] ("_law_pool" : Str) (defScope s__law_pool) f cdv Ar outer s H E).xe := passes_of rfl
  have tk := takes_of (X := cxOf (L2.CX Pr w) Pr w K mg base ["_law_script"] ("_law_pool" : Str) (defScope s__law_pool) f cdv Ar outer s H E) rfl rfl rfl rfl
  have hu := hr.units
  have sc := sc__law_pool
  exact (qss_one (qs_ret (qe_lst (qa_cons (qe_callTy (cr_list rfl) s_list rfl g_list PyProof.Rows.boot_list (qa_cons (qv 0) qa_nil)) (qa_cons qe_int (qa_cons qe_int (qa_cons qe_int (qa_cons qe_int qa_nil))))))))
abbrev s__law_draw : Stmt := top 37
def rs__law_draw_8 : AS := asRet (aOp aMod (aCB aInt (aCons (aOp aDivW (aVal 4) (aC (.int 16))) (aNil))) (aVal 1))
def rs__law_draw_7 : AS := asSeq (asPut (aVal 4) (aRef 0) (aC (.int 4))) (rs__law_draw_8)
def rs__law_draw_6 : AS := asSeq (asSet 4 (aOp aMod (aCB aInt (aCons (aOp aMul (aVal 4) (aOp aPlus (aOp aDivW (aVal 4) (aC (.int 2003))) (aC (.int 40692)))) (aNil))) (aC (.int 2147483399)))) (rs__law_draw_7)
def rs__law_draw_5 : AS := asSeq (asSet 4 (aOp aMod (aCB aInt (aCons (aOp aMul (aVal 4) (aOp aPlus (aOp aDivW (aVal 4) (aC (.int 1009))) (aC (.int 69621)))) (aNil))) (aC (.int 2147483647)))) (rs__law_draw_6)
def rs__law_draw_4 : AS := asSeq (asSet 4 (aOp aMod (aCB aInt (aCons (aOp aPlus (aOp aPlus (aOp aIx (aRef 0) (aC (.int 4))) (aOp aMul (aOp aIx (aRef 0) (aC (.int 3))) (aC (.int 104729)))) (aC (.int 1))) (aNil))) (aC (.int 2147483647)))) (rs__law_draw_5)
def rs__law_draw_3 : AS := asSeq (asIf (aTest (aOp aGt (aOp aIx (aRef 0) (aC (.int 2))) (aC (.int 0)))) (asSeq (asSet 3 (aOp aMod (aCB aInt (aCons (aOp aIx (aRef 0) (aC (.int 2))) (aNil))) (aVal 1)))
  (asSeq (asPut (aOp aDivW (aCB aInt (aCons (aOp aIx (aRef 0) (aC (.int 2))) (aNil))) (aVal 1)) (aRef 0) (aC (.int 2)))
  (asRet (aVal 3)))) (asNext)) (rs__law_draw_4)
def rs__law_draw_2 : AS := asSeq (asIf (atAnd (aTest (aOp aEq (aOp aIx (aRef 0) (aC (.int 2))) (aC (.int 0)))) (aTest (aOp aLt (aOp aIx (aRef 0) (aC (.int 1))) (aCB aLen (aCons (aOp aIx (aRef 0) (aC (.int 0))) (aNil)))))) (asSeq (asSet 2 (aCB aInt (aCons (aOp aIx (aOp aIx (aRef 0) (aC (.int 0))) (aOp aIx (aRef 0) (aC (.int 1)))) (aNil))))
  (asSeq (asPut (aOp aPlus (aOp aIx (aRef 0) (aC (.int 1))) (aC (.int 1))) (aRef 0) (aC (.int 1)))
  (asIf (aTest (aOp aGe (aVal 2) (aOp aPow (aC (.int 10)) (aC (.int 18))))) (asPut (aVal 2) (aRef 0) (aC (.int 2))) (asPut (aOp aMod (aCB aInt (aCons (aOp aPlus (aOp aPlus (aOp aMul (aOp aIx (aRef 0) (aC (.int 4))) (aC (.int 31))) (aOp aMul (aVal 2) (aC (.int 7919)))) (aC (.int 17))) (aNil))) (aC (.int 2147483647))) (aRef 0) (aC (.int 4)))))) (asNext)) (rs__law_draw_3)
def as__law_draw : AS := asSeq (asPut (aOp aPlus (aOp aIx (aRef 0) (aC (.int 3))) (aC (.int 1))) (aRef 0) (aC (.int 3))) (rs__law_draw_2)
theorem sc__law_draw : FnScope ["_law_pool_here", "_law_many", "_law_cell", "_law_digit", "_law_number"] ["_law_pool_here", "_law_many"] (defScope s__law_draw) := ⟨rfl, rfl, rfl, by decide +kernel, rfl, by decide +kernel, by decide +kernel⟩
theorem wk__law_draw {f : Addr} {fd : FuncData} {sp : ASp} (g_len : mg ("len" : Str) = none) (g_int : mg ("int" : Str) = none) (F : FnP K ("_law_draw" : Str) ("_law_draw" : Str) s__law_draw [] f fd) (hlen : ∀ xs, sp.pre xs → xs.length = 2)
    (rd : ∀ xs, sp.pre xs → as__law_draw (endsOf [0, 1] sp xs) (startA 5 xs)) : Fok Pr w K mg base 1 f fd ["_law_pool_here", "_law_many"] sp := by
  refine fn_mk (N := ["_law_pool_here", "_law_many", "_law_cell", "_law_digit", "_law_number"]) (k := 0) [0, 1] F sc__law_draw hlen (by decide) (fun cdv Ar outer s H E hr => ⟨as__law_draw, ?_, rd⟩)
  have hx := fun σ => passAt (X := cxOf (L2.CX Pr w) Pr w K mg base ["_law_pool_here", "_law_many", "_law_cell", "_law_digit", "_law_number"] ("_law_draw" : Str) (defScope s__law_draw) f cdv Ar outer s H E) (W := fun cls d _ H => E cls d H) (takes_of rfl rfl rfl rfl) σ
  have hp : PassesOwn _ _ _ (cxOf (L2.CX Pr w) Pr w K mg base ["_law_pool_here", "_law_many", "_law_cell", "_law_digit", "_law_number"] ("_law_draw" : Str) (defScope s__law_draw) f cdv Ar outer s H E).xe := passes_of rfl
  have tk := takes_of (X := cxOf (L2.CX Pr w) Pr w K mg base ["_law_pool_here", "_law_many", "_law_cell", "_law_digit", "_law_number"] ("_law_draw" : Str) (defScope s__law_draw) f cdv Ar outer s H E) rfl rfl rfl rfl
  have hu := hr.units
  have sc := sc__law_draw
  exact (qss_cons (qs_put hu (qe_op op_plus s_plus (qe_ix hu (qr 0) qe_int) qe_int) (qr 0) qe_int)
    (qss_cons (qs_if (qt_w (qw_and (qt_cmp (or_eq hu) s_eq (qe_ix hu (qr 0) qe_int) qe_int (nomark _)) (qw_and1 (qt_cmp op_lt s_lt (qe_ix hu (qr 0) qe_int) (qe_callB cr_len s_len rfl g_len boot_len (qa_cons (qe_ix hu (qr 0) qe_int) qa_nil)) (nomark _))))) (qss_cons (qs_set (i := 2) sc.nd rfl (by first | exact Or.inl rfl | exact Or.inr rfl) (qe_callTy call_int1 s_int rfl g_int PyProof.Rows.boot_int (qa_cons (qe_ix hu (qe_ix hu (qr 0) qe_int) (qe_ix hu (qr 0) qe_int)) qa_nil)) (show 2 ∉ ([0, 1] : List Nat) from by decide))
    (qss_cons (qs_put hu (qe_op op_plus s_plus (qe_ix hu (qr 0) qe_int) qe_int) (qr 0) qe_int)
    (qss_one (qs_if (qt_cmp op_ge s_ge (qv 2) (qe_op op_pow s_pow qe_int qe_int) (nomark _)) (qss_one (qs_put hu (qv 2) (qr 0) qe_int)) (qss_one (qs_put hu (qe_op op_mod s_mod (qe_callTy call_int1 s_int rfl g_int PyProof.Rows.boot_int (qa_cons (qe_op op_plus s_plus (qe_op op_plus s_plus (qe_op op_mul s_mul (qe_ix hu (qr 0) qe_int) qe_int) (qe_op op_mul s_mul (qv 2) qe_int)) qe_int) qa_nil)) qe_int) (qr 0) qe_int)))))) qss_nil)
    (qss_cons (qs_if (qt_cmp op_gt s_gt (qe_ix hu (qr 0) qe_int) qe_int (nomark _)) (qss_cons (qs_set (i := 3) sc.nd rfl (by first | exact Or.inl rfl | exact Or.inr rfl) (qe_op op_mod s_mod (qe_callTy call_int1 s_int rfl g_int PyProof.Rows.boot_int (qa_cons (qe_ix hu (qr 0) qe_int) qa_nil)) (qv 1)) (show 3 ∉ ([0, 1] : List Nat) from by decide))
    (qss_cons (qs_put hu (qe_op op_fdivW s_divW (qe_callTy call_int1 s_int rfl g_int PyProof.Rows.boot_int (qa_cons (qe_ix hu (qr 0) qe_int) qa_nil)) (qv 1)) (qr 0) qe_int)
    (qss_one (qs_ret (qv 3))))) qss_nil)
    (qss_cons (qs_set (i := 4) sc.nd rfl (by first | exact Or.inl rfl | exact Or.inr rfl) (qe_op op_mod s_mod (qe_callTy call_int1 s_int rfl g_int PyProof.Rows.boot_int (qa_cons (qe_op op_plus s_plus (qe_op op_plus s_plus (qe_ix hu (qr 0) qe_int) (qe_op op_mul s_mul (qe_ix hu (qr 0) qe_int) qe_int)) qe_int) qa_nil)) qe_int) (show 4 ∉ ([0, 1] : List Nat) from by decide))
    (qss_cons (qs_set (i := 4) sc.nd rfl (by first | exact Or.inl rfl | exact Or.inr rfl) (qe_op op_mod s_mod (qe_callTy call_int1 s_int rfl g_int PyProof.Rows.boot_int (qa_cons (qe_op op_mul s_mul (qv 4) (qe_op op_plus s_plus (qe_op op_fdivW s_divW (qv 4) qe_int) qe_int)) qa_nil)) qe_int) (show 4 ∉ ([0, 1] : List Nat) from by decide))
    (qss_cons (qs_set (i := 4) sc.nd rfl (by first | exact Or.inl rfl | exact Or.inr rfl) (qe_op op_mod s_mod (qe_callTy call_int1 s_int rfl g_int PyProof.Rows.boot_int (qa_cons (qe_op op_mul s_mul (qv 4) (qe_op op_plus s_plus (qe_op op_fdivW s_divW (qv 4) qe_int) qe_int)) qa_nil)) qe_int) (show 4 ∉ ([0, 1] : List Nat) from by decide))
    (qss_cons (qs_put hu (qv 4) (qr 0) qe_int)
    (qss_one (qs_ret (qe_op op_mod s_mod (qe_callTy call_int1 s_int rfl g_int PyProof.Rows.boot_int (qa_cons (qe_op op_fdivW s_divW (qv 4) qe_int) qa_nil)) (qv 1)))))))))))
abbrev s__law_names : Stmt := top 38
def bd__law_names_1 (sp__law_draw : ASp) : AS := asSet 6 (aFrz (aOp aPlus (aVal 6) (aOp aIx (aVal 2) (aCall sp__law_draw [] (aCons (aRef 0) (aCons (aC (.int 26)) (aNil)))))))
def bd__law_names_2 (sp__law_draw : ASp) : AS := asIf (atAnd (aTest (aOp (aIn false) (aVal 6) (aRef 3))) (aTest (aOp (aIn true) (aVal 8) (aRef 3)))) (asSet 6 (aVal 8)) (asNext)
def bd__law_names_3 (sp__law_draw : ASp) : AS := asSeq (asSet 5 (aC (.int 1)))
  (asSeq (asIf (aTest (aOp aEq (aCall sp__law_draw [] (aCons (aRef 0) (aCons (aC (.int 3)) (aNil)))) (aC (.int 0)))) (asSet 5 (aOp aPlus (aC (.int 1)) (aCall sp__law_draw [] (aCons (aRef 0) (aCons (aC (.int 8)) (aNil)))))) (asNext))
  (asSeq (asSet 6 (aC (.str ("" : Str))))
  (asSeq (asFor (aiRng1 (aCons (aVal 5) (aNil))) (agName 7) (bd__law_names_1 sp__law_draw))
  (asSeq (asFor (aiSeq (aVal 2)) (agName 8) (bd__law_names_2 sp__law_draw))
  (asExpr (aAppend (aRef 3) (aVal 6)))))))
def rs__law_names_4 (sp__law_draw : ASp) : AS := asRet (aRef 3)
def rs__law_names_3 (sp__law_draw : ASp) : AS := asSeq (asFor (aiRng1 (aCons (aVal 1) (aNil))) (agName 4) (bd__law_names_3 sp__law_draw)) (rs__law_names_4 sp__law_draw)
def rs__law_names_2 (sp__law_draw : ASp) : AS := asSeq (asSet 3 (aLst (aNil))) (rs__law_names_3 sp__law_draw)
def as__law_names (sp__law_draw : ASp) : AS := asSeq (asSet 2 (aC (.str ("abcdefghijklmnopqrstuvwxyz" : Str)))) (rs__law_names_2 sp__law_draw)
theorem sc__law_names : FnScope ["_law_pool_here", "_law_many", "_law_letters", "_law_names_here", "_law_k", "_law_length", "_law_name", "_law_at", "_law_letter"] ["_law_pool_here", "_law_many"] (defScope s__law_names) := ⟨rfl, rfl, rfl, by decide +kernel, rfl, by decide +kernel, by decide +kernel⟩
theorem wk__law_names {f : Addr} {fd : FuncData} {sp : ASp} {sp__law_draw : ASp} (c__law_draw : Cal Pr w K mg base ("_law_draw" : Str) 1 ["_law_pool_here", "_law_many"] sp__law_draw) (g_range : mg ("range" : Str) = none) (F : FnP K ("_law_names" : Str) ("_law_names" : Str) s__law_names [] f fd) (hlen : ∀ xs, sp.pre xs → xs.length = 2)
    (rd : ∀ xs, sp.pre xs → as__law_names sp__law_draw (endsOf [0, 1] sp xs) (startA 9 xs)) : Fok Pr w K mg base 2 f fd ["_law_pool_here", "_law_many"] sp := by
  refine fn_mk (N := ["_law_pool_here", "_law_many", "_law_letters", "_law_names_here", "_law_k", "_law_length", "_law_name", "_law_at", "_law_letter"]) (k := 1) [0, 1] F sc__law_names hlen (by decide) (fun cdv Ar outer s H E hr => ⟨as__law_names sp__law_draw, ?_, rd⟩)
  have hx := fun σ => passAt (X := cxOf (L2.CX Pr w) Pr w K mg base ["_law_pool_here", "_law_many", "_law_letters", "_law_names_here", "_law_k", "_law_length", "_law_name", "_law_at", "_law_letter"] ("_law_names" : Str) (defScope s__law_names) f cdv Ar outer s H E) (W := fun cls d _ H => E cls d H) (takes_of rfl rfl rfl rfl) σ
  have hp : PassesOwn _ _ _ (cxOf (L2.CX Pr w) Pr w K mg base ["_law_pool_here", "_law_many", "_law_letters", "_law_names_here", "_law_k", "_law_length", "_law_name", "_law_at", "_law_letter"] ("_law_names" : Str) (defScope s__law_names) f cdv Ar outer s H E).xe := passes_of rfl
  have tk := takes_of (X := cxOf (L2.CX Pr w) Pr w K mg base ["_law_pool_here", "_law_many", "_law_letters", "_law_names_here", "_law_k", "_law_length", "_law_name", "_law_at", "_law_letter"] ("_law_names" : Str) (defScope s__law_names) f cdv Ar outer s H E) rfl rfl rfl rfl
  have hu := hr.units
  have sc := sc__law_names
  exact (qss_cons (qs_set (i := 2) sc.nd rfl (by first | exact Or.inl rfl | exact Or.inr rfl) qe_str (show 2 ∉ ([0, 1] : List Nat) from by decide))
    (qss_cons (qs_set (i := 3) sc.nd rfl (by first | exact Or.inl rfl | exact Or.inr rfl) (qe_lst qa_nil) (show 3 ∉ ([0, 1] : List Nat) from by decide))
    (qss_cons (qs_for hp rfl (qi_range1 rfl g_range (qa_cons (qv 1) qa_nil)) (qg_name (i := 4) sc.nd rfl (by first | exact Or.inl rfl | exact Or.inr rfl) (show 4 ∉ ([0, 1] : List Nat) from by decide)) (qss_cons (qs_set (i := 5) sc.nd rfl (by first | exact Or.inl rfl | exact Or.inr rfl) qe_int (show 5 ∉ ([0, 1] : List Nat) from by decide))
    (qss_cons (qs_if (qt_cmp (or_eq hu) s_eq (qe_callC c__law_draw (hr.mono (by decide)) rfl hx (qa_cons (qr 0) (qa_cons qe_int qa_nil))) qe_int (nomark _)) (qss_one (qs_set (i := 5) sc.nd rfl (by first | exact Or.inl rfl | exact Or.inr rfl) (qe_op op_plus s_plus qe_int (qe_callC c__law_draw (hr.mono (by decide)) rfl hx (qa_cons (qr 0) (qa_cons qe_int qa_nil)))) (show 5 ∉ ([0, 1] : List Nat) from by decide))) qss_nil)
    (qss_cons (qs_set (i := 6) sc.nd rfl (by first | exact Or.inl rfl | exact Or.inr rfl) qe_str (show 6 ∉ ([0, 1] : List Nat) from by decide))
    (qss_cons (qs_for hp rfl (qi_range1 rfl g_range (qa_cons (qv 5) qa_nil)) (qg_name (i := 7) sc.nd rfl (by first | exact Or.inl rfl | exact Or.inr rfl) (show 7 ∉ ([0, 1] : List Nat) from by decide)) (qss_one (qs_set (i := 6) sc.nd rfl (by first | exact Or.inl rfl | exact Or.inr rfl) (qe_frz (qe_op op_plus s_plus (qv 6) (qe_ix hu (qv 2) (qe_callC c__law_draw (hr.mono (by decide)) rfl hx (qa_cons (qr 0) (qa_cons qe_int qa_nil)))))) (show 6 ∉ ([0, 1] : List Nat) from by decide))))
    (qss_cons (qs_for hp rfl (qi_seq (qv 2)) (qg_name (i := 8) sc.nd rfl (by first | exact Or.inl rfl | exact Or.inr rfl) (show 8 ∉ ([0, 1] : List Nat) from by decide)) (qss_one (qs_if (qt_w (qw_and (qt_cmp (or_in hu) s_in (qv 6) (qr 3) (by rfl)) (qw_and1 (qt_cmp (or_notIn hu) s_in (qv 8) (qr 3) (by rfl))))) (qss_one (qs_set (i := 6) sc.nd rfl (by first | exact Or.inl rfl | exact Or.inr rfl) (qv 8) (show 6 ∉ ([0, 1] : List Nat) from by decide))) qss_nil)))
    (qss_one (qs_expr (qe_append (qr 3) (qv 6))))))))))
    (qss_one (qs_ret (qr 3))))))
abbrev s__law_lates : Stmt := top 39
def bd__law_lates_1 (sp__law_draw sp__law_names : ASp) : AS := asSeq (asSet 4 (aCall sp__law_draw [] (aCons (aRef 0) (aCons (aC (.int 4)) (aNil)))))
  (asPut (aOp aIx (aLst (aCons (aC (.int 0)) (aCons (aCall sp__law_draw [] (aCons (aRef 0) (aCons (aC (.int 4)) (aNil)))) (aCons (aCall sp__law_draw [] (aCons (aRef 0) (aCons (aC (.int 8)) (aNil)))) (aCons (aCall sp__law_draw [] (aCons (aRef 0) (aCons (aOp aPlus (aOp aPow (aC (.int 10)) (aC (.int 6))) (aC (.int 1))) (aNil)))) (aNil)))))) (aVal 4)) (aRef 2) (aVal 3))
def rs__law_lates_5 (sp__law_draw sp__law_names : ASp) : AS := asRet (aRef 2)
def rs__law_lates_4 (sp__law_draw sp__law_names : ASp) : AS := asSeq (asFor (aiSeq (aCall sp__law_names [] (aCons (aRef 0) (aCons (aVal 1) (aNil))))) (agName 3) (bd__law_lates_1 sp__law_draw sp__law_names)) (rs__law_lates_5 sp__law_draw sp__law_names)
def rs__law_lates_3 (sp__law_draw sp__law_names : ASp) : AS := asSeq (asSet 2 (aDict0)) (rs__law_lates_4 sp__law_draw sp__law_names)
def rs__law_lates_2 (sp__law_draw sp__law_names : ASp) : AS := asSeq (asIf (aTest (aOp aEq (aCall sp__law_draw [] (aCons (aRef 0) (aCons (aC (.int 12)) (aNil)))) (aC (.int 0)))) (asSet 1 (aOp aPlus (aC (.int 1)) (aCall sp__law_draw [] (aCons (aRef 0) (aCons (aC (.int 8)) (aNil)))))) (asNext)) (rs__law_lates_3 sp__law_draw sp__law_names)
def as__law_lates (sp__law_draw sp__law_names : ASp) : AS := asSeq (asSet 1 (aOp aPlus (aC (.int 1)) (aCall sp__law_draw [] (aCons (aRef 0) (aCons (aC (.int 3)) (aNil)))))) (rs__law_lates_2 sp__law_draw sp__law_names)
theorem sc__law_lates : FnScope ["_law_pool_here", "_law_many", "_law_lates_here", "_law_name", "_law_kind"] ["_law_pool_here"] (defScope s__law_lates) := ⟨rfl, rfl, rfl, by decide +kernel, rfl, by decide +kernel, by decide +kernel⟩
theorem wk__law_lates {f : Addr} {fd : FuncData} {sp : ASp} {sp__law_draw : ASp} (c__law_draw : Cal Pr w K mg base ("_law_draw" : Str) 1 ["_law_pool_here", "_law_many"] sp__law_draw) {sp__law_names : ASp} (c__law_names : Cal Pr w K mg base ("_law_names" : Str) 2 ["_law_pool_here", "_law_many"] sp__law_names) (F : FnP K ("_law_lates" : Str) ("_law_lates" : Str) s__law_lates [] f fd) (hlen : ∀ xs, sp.pre xs → xs.length = 1)
    (rd : ∀ xs, sp.pre xs → as__law_lates sp__law_draw sp__law_names (endsOf [0] sp xs) (startA 5 xs)) : Fok Pr w K mg base 3 f fd ["_law_pool_here"] sp := by
  refine fn_mk (N := ["_law_pool_here", "_law_many", "_law_lates_here", "_law_name", "_law_kind"]) (k := 2) [0] F sc__law_lates hlen (by decide) (fun cdv Ar outer s H E hr => ⟨as__law_lates sp__law_draw sp__law_names, ?_, rd⟩)
  have hx := fun σ => passAt (X := cxOf (L2.CX Pr w) Pr w K mg base ["_law_pool_here", "_law_many", "_law_lates_here", "_law_name", "_law_kind"] ("_law_lates" : Str) (defScope s__law_lates) f cdv Ar outer s H E) (W := fun cls d _ H => E cls d H) (takes_of rfl rfl rfl rfl) σ
  have hp : PassesOwn _ _ _ (cxOf (L2.CX Pr w) Pr w K mg base ["_law_pool_here", "_law_many", "_law_lates_here", "_law_name", "_law_kind"] ("_law_lates" : Str) (defScope s__law_lates) f cdv Ar outer s H E).xe := passes_of rfl
  have tk := takes_of (X := cxOf (L2.CX Pr w) Pr w K mg base ["_law_pool_here", "_law_many", "_law_lates_here", "_law_name", "_law_kind"] ("_law_lates" : Str) (defScope s__law_lates) f cdv Ar outer s H E) rfl rfl rfl rfl
  have hu := hr.units
  have sc := sc__law_lates
  exact (qss_cons (qs_set (i := 1) sc.nd rfl (by first | exact Or.inl rfl | exact Or.inr rfl) (qe_op op_plus s_plus qe_int (qe_callC c__law_draw (hr.mono (by decide)) rfl hx (qa_cons (qr 0) (qa_cons qe_int qa_nil)))) (show 1 ∉ ([0] : List Nat) from by decide))
    (qss_cons (qs_if (qt_cmp (or_eq hu) s_eq (qe_callC c__law_draw (hr.mono (by decide)) rfl hx (qa_cons (qr 0) (qa_cons qe_int qa_nil))) qe_int (nomark _)) (qss_one (qs_set (i := 1) sc.nd rfl (by first | exact Or.inl rfl | exact Or.inr rfl) (qe_op op_plus s_plus qe_int (qe_callC c__law_draw (hr.mono (by decide)) rfl hx (qa_cons (qr 0) (qa_cons qe_int qa_nil)))) (show 1 ∉ ([0] : List Nat) from by decide))) qss_nil)
    (qss_cons (qs_set (i := 2) sc.nd rfl (by first | exact Or.inl rfl | exact Or.inr rfl) qe_dict0 (show 2 ∉ ([0] : List Nat) from by decide))
    (qss_cons (qs_for hp rfl (qi_seq (qe_callC c__law_names (hr.mono (by decide)) rfl hx (qa_cons (qr 0) (qa_cons (qv 1) qa_nil)))) (qg_name (i := 3) sc.nd rfl (by first | exact Or.inl rfl | exact Or.inr rfl) (show 3 ∉ ([0] : List Nat) from by decide)) (qss_cons (qs_set (i := 4) sc.nd rfl (by first | exact Or.inl rfl | exact Or.inr rfl) (qe_callC c__law_draw (hr.mono (by decide)) rfl hx (qa_cons (qr 0) (qa_cons qe_int qa_nil))) (show 4 ∉ ([0] : List Nat) from by decide))
    (qss_one (qs_put hu (qe_ix hu (qe_lst (qa_cons qe_int (qa_cons (qe_callC c__law_draw (hr.mono (by decide)) rfl hx (qa_cons (qr 0) (qa_cons qe_int qa_nil))) (qa_cons (qe_callC c__law_draw (hr.mono (by decide)) rfl hx (qa_cons (qr 0) (qa_cons qe_int qa_nil))) (qa_cons (qe_callC c__law_draw (hr.mono (by decide)) rfl hx (qa_cons (qr 0) (qa_cons (qe_op op_plus s_plus (qe_op op_pow s_pow qe_int qe_int) qe_int) qa_nil))) qa_nil))))) (qv 4)) (qr 2) (qv 3)))))
    (qss_one (qs_ret (qr 2)))))))
abbrev s__law_amount : Stmt := top 40
def rs__law_amount_2 (sp__law_draw : ASp) : AS := asRet (aOp aSub (aCall sp__law_draw [] (aCons (aRef 0) (aCons (aC (.int 21)) (aNil)))) (aC (.int 10)))
def as__law_amount (sp__law_draw : ASp) : AS := asSeq (asIf (aTest (aOp aEq (aCall sp__law_draw [] (aCons (aRef 0) (aCons (aC (.int 6)) (aNil)))) (aC (.int 0)))) (asRet (aOp aSub (aCall sp__law_draw [] (aCons (aRef 0) (aCons (aOp aMul (aC (.int 2)) (aOp aPow (aC (.int 10)) (aC (.int 20)))) (aNil)))) (aOp aPow (aC (.int 10)) (aC (.int 20))))) (asNext)) (rs__law_amount_2 sp__law_draw)
theorem sc__law_amount : FnScope ["_law_pool_here"] ["_law_pool_here"] (defScope s__law_amount) := ⟨rfl, rfl, rfl, by decide +kernel, rfl, by decide +kernel, by decide +kernel⟩
theorem wk__law_amount {f : Addr} {fd : FuncData} {sp : ASp} {sp__law_draw : ASp} (c__law_draw : Cal Pr w K mg base ("_law_draw" : Str) 1 ["_law_pool_here", "_law_many"] sp__law_draw) (F : FnP K ("_law_amount" : Str) ("_law_amount" : Str) s__law_amount [] f fd) (hlen : ∀ xs, sp.pre xs → xs.length = 1)
    (rd : ∀ xs, sp.pre xs → as__law_amount sp__law_draw (endsOf [0] sp xs) (startA 1 xs)) : Fok Pr w K mg base 2 f fd ["_law_pool_here"] sp := by
  refine fn_mk (N := ["_law_pool_here"]) (k := 1) [0] F sc__law_amount hlen (by decide) (fun cdv Ar outer s H E hr => ⟨as__law_amount sp__law_draw, ?_, rd⟩)
  have hx := fun σ => passAt (X := cxOf (L2.CX Pr w) Pr w K mg base ["_law_pool_here"] ("_law_amount" : Str) (defScope s__law_amount) f cdv Ar outer s H E) (W := fun cls d _ H => E cls d H) (takes_of rfl rfl rfl rfl) σ
  have hp : PassesOwn _ _ _ (cxOf (L2.CX Pr w) Pr w K mg base ["_law_pool_here"] ("_law_amount" : Str) (defScope s__law_amount) f cdv Ar outer s H E).xe := passes_of rfl
  have tk := takes_of (X := cxOf (L2.CX Pr w) Pr w K mg base ["_law_pool_here"] ("_law_amount" : Str) (defScope s__law_amount) f cdv Ar outer s H E) rfl rfl rfl rfl
  have hu := hr.units
  have sc := sc__law_amount
  exact (qss_cons (qs_if (qt_cmp (or_eq hu) s_eq (qe_callC c__law_draw (hr.mono (by decide)) rfl hx (qa_cons (qr 0) (qa_cons qe_int qa_nil))) qe_int (nomark _)) (qss_one (qs_ret (qe_op op_sub s_sub (qe_callC c__law_draw (hr.mono (by decide)) rfl hx (qa_cons (qr 0) (qa_cons (qe_op op_mul s_mul qe_int (qe_op op_pow s_pow qe_int qe_int)) qa_nil))) (qe_op op_pow s_pow qe_int qe_int)))) qss_nil)
    (qss_one (qs_ret (qe_op op_sub s_sub (qe_callC c__law_draw (hr.mono (by decide)) rfl hx (qa_cons (qr 0) (qa_cons qe_int qa_nil))) qe_int))))
abbrev s__law_entry : Stmt := top 41
def bd__law_entry_1 (sp__law_draw sp__law_amount : ASp) : AS := asIf (atAnd (aTest (aOp aIsNot (aOp aIx (aRef 3) (aVal 7)) (aC .non))) (aTest (aOp aLe (aVal 5) (aOp aPlus (aOp aIx (aOp aIx (aRef 3) (aVal 7)) (aC (.int 2))) (aOp aIx (aVal 1) (aOp aIx (aOp aIx (aRef 3) (aVal 7)) (aC (.int 0)))))))) (asExpr (aAppend (aRef 6) (aVal 7))) (asNext)
def rs__law_entry_7 (sp__law_draw sp__law_amount : ASp) : AS := asRet (aTup (aCons (aC (.str ("gone" : Str))) (aCons (aVal 7) (aCons (aVal 5) (aNil)))))
def rs__law_entry_6 (sp__law_draw sp__law_amount : ASp) : AS := asSeq (asIf (aTest (aOp aEq (aVal 8) (aC (.int 2)))) (asSeq (asSet 10 (aOp aSub (aVal 5) (aCall sp__law_draw [] (aCons (aRef 0) (aCons (aOp aPlus (aOp aIx (aVal 1) (aOp aIx (aOp aIx (aRef 3) (aVal 7)) (aC (.int 0)))) (aC (.int 1))) (aNil))))))
  (asRet (aTup (aCons (aC (.str ("fix" : Str))) (aCons (aVal 7) (aCons (aVal 10) (aCons (aCall sp__law_amount [] (aCons (aRef 0) (aNil))) (aCons (aVal 5) (aNil))))))))) (asNext)) (rs__law_entry_7 sp__law_draw sp__law_amount)
def rs__law_entry_5 (sp__law_draw sp__law_amount : ASp) : AS := asSeq (asSet 7 (aOp aIx (aRef 6) (aCall sp__law_draw [] (aCons (aRef 0) (aCons (aCB aLen (aCons (aRef 6) (aNil))) (aNil)))))) (rs__law_entry_6 sp__law_draw sp__law_amount)
def rs__law_entry_4 (sp__law_draw sp__law_amount : ASp) : AS := asSeq (asIf (atOr (aTest (aOp aLt (aVal 8) (aC (.int 2)))) (aTest (aOp aEq (aCB aLen (aCons (aRef 6) (aNil))) (aC (.int 0))))) (asSeq (asSet 9 (aOp aIx (aCB aList (aCons (aVal 1) (aNil))) (aCall sp__law_draw [] (aCons (aRef 0) (aCons (aCB aLen (aCons (aVal 1) (aNil))) (aNil))))))
  (asSeq (asSet 10 (aOp aSub (aVal 5) (aCall sp__law_draw [] (aCons (aRef 0) (aCons (aOp aPlus (aOp aIx (aVal 1) (aVal 9)) (aC (.int 1))) (aNil))))))
  (asRet (aTup (aCons (aC (.str ("row" : Str))) (aCons (aVal 4) (aCons (aVal 9) (aCons (aOp aIx (aVal 2) (aCall sp__law_draw [] (aCons (aRef 0) (aCons (aCB aLen (aCons (aVal 2) (aNil))) (aNil))))) (aCons (aVal 10) (aCons (aCall sp__law_amount [] (aCons (aRef 0) (aNil))) (aCons (aVal 5) (aNil)))))))))))) (asNext)) (rs__law_entry_5 sp__law_draw sp__law_amount)
def rs__law_entry_3 (sp__law_draw sp__law_amount : ASp) : AS := asSeq (asSet 8 (aCall sp__law_draw [] (aCons (aRef 0) (aCons (aC (.int 4)) (aNil))))) (rs__law_entry_4 sp__law_draw sp__law_amount)
def rs__law_entry_2 (sp__law_draw sp__law_amount : ASp) : AS := asSeq (asFor (aiSeq (aCB aList (aCons (aRef 3) (aNil)))) (agName 7) (bd__law_entry_1 sp__law_draw sp__law_amount)) (rs__law_entry_3 sp__law_draw sp__law_amount)
def as__law_entry (sp__law_draw sp__law_amount : ASp) : AS := asSeq (asSet 6 (aLst (aNil))) (rs__law_entry_2 sp__law_draw sp__law_amount)
theorem sc__law_entry : FnScope ["_law_pool_here", "_law_lates_here", "_law_keys", "_law_states", "_law_number", "_law_arrival_here", "_law_open_ones", "_law_other", "_law_kind", "_law_stream", "_law_moment"] ["_law_pool_here", "_law_lates_here", "_law_keys", "_law_states", "_law_number", "_law_arrival_here"] (defScope s__law_entry) := ⟨rfl, rfl, rfl, by decide +kernel, rfl, by decide +kernel, by decide +kernel⟩
theorem wk__law_entry {f : Addr} {fd : FuncData} {sp : ASp} {sp__law_draw : ASp} (c__law_draw : Cal Pr w K mg base ("_law_draw" : Str) 1 ["_law_pool_here", "_law_many"] sp__law_draw) {sp__law_amount : ASp} (c__law_amount : Cal Pr w K mg base ("_law_amount" : Str) 2 ["_law_pool_here"] sp__law_amount) (g_list : mg ("list" : Str) = none) (g_len : mg ("len" : Str) = none) (F : FnP K ("_law_entry" : Str) ("_law_entry" : Str) s__law_entry [] f fd) (hlen : ∀ xs, sp.pre xs → xs.length = 6)
    (rd : ∀ xs, sp.pre xs → as__law_entry sp__law_draw sp__law_amount (endsOf [0, 1, 2, 3, 4, 5] sp xs) (startA 11 xs)) : Fok Pr w K mg base 3 f fd ["_law_pool_here", "_law_lates_here", "_law_keys", "_law_states", "_law_number", "_law_arrival_here"] sp := by
  refine fn_mk (N := ["_law_pool_here", "_law_lates_here", "_law_keys", "_law_states", "_law_number", "_law_arrival_here", "_law_open_ones", "_law_other", "_law_kind", "_law_stream", "_law_moment"]) (k := 2) [0, 1, 2, 3, 4, 5] F sc__law_entry hlen (by decide) (fun cdv Ar outer s H E hr => ⟨as__law_entry sp__law_draw sp__law_amount, ?_, rd⟩)
  have hx := fun σ => passAt (X := cxOf (L2.CX Pr w) Pr w K mg base ["_law_pool_here", "_law_lates_here", "_law_keys", "_law_states", "_law_number", "_law_arrival_here", "_law_open_ones", "_law_other", "_law_kind", "_law_stream", "_law_moment"] ("_law_entry" : Str) (defScope s__law_entry) f cdv Ar outer s H E) (W := fun cls d _ H => E cls d H) (takes_of rfl rfl rfl rfl) σ
  have hp : PassesOwn _ _ _ (cxOf (L2.CX Pr w) Pr w K mg base ["_law_pool_here", "_law_lates_here", "_law_keys", "_law_states", "_law_number", "_law_arrival_here", "_law_open_ones", "_law_other", "_law_kind", "_law_stream", "_law_moment"] ("_law_entry" : Str) (defScope s__law_entry) f cdv Ar outer s H E).xe := passes_of rfl
  have tk := takes_of (X := cxOf (L2.CX Pr w) Pr w K mg base ["_law_pool_here", "_law_lates_here", "_law_keys", "_law_states", "_law_number", "_law_arrival_here", "_law_open_ones", "_law_other", "_law_kind", "_law_stream", "_law_moment"] ("_law_entry" : Str) (defScope s__law_entry) f cdv Ar outer s H E) rfl rfl rfl rfl
  have hu := hr.units
  have sc := sc__law_entry
  exact (qss_cons (qs_set (i := 6) sc.nd rfl (by first | exact Or.inl rfl | exact Or.inr rfl) (qe_lst qa_nil) (show 6 ∉ ([0, 1, 2, 3, 4, 5] : List Nat) from by decide))
    (qss_cons (qs_for hp rfl (qi_seq (qe_callTy (cr_list rfl) s_list rfl g_list PyProof.Rows.boot_list (qa_cons (qr 3) qa_nil))) (qg_name (i := 7) sc.nd rfl (by first | exact Or.inl rfl | exact Or.inr rfl) (show 7 ∉ ([0, 1, 2, 3, 4, 5] : List Nat) from by decide)) (qss_one (qs_if (qt_w (qw_and (qt_cmp op_notN s_isNot (qe_ix hu (qr 3) (qv 7)) qe_non (nomark _)) (qw_and1 (qt_cmp op_le s_le (qv 5) (qe_op op_plus s_plus (qe_ix hu (qe_ix hu (qr 3) (qv 7)) qe_int) (qe_ix hu (qv 1) (qe_ix hu (qe_ix hu (qr 3) (qv 7)) qe_int))) (nomark _))))) (qss_one (qs_expr (qe_append (qr 6) (qv 7)))) qss_nil)))
    (qss_cons (qs_set (i := 8) sc.nd rfl (by first | exact Or.inl rfl | exact Or.inr rfl) (qe_callC c__law_draw (hr.mono (by decide)) rfl hx (qa_cons (qr 0) (qa_cons qe_int qa_nil))) (show 8 ∉ ([0, 1, 2, 3, 4, 5] : List Nat) from by decide))
    (qss_cons (qs_if (qt_w (qw_or (qt_cmp op_lt s_lt (qv 8) qe_int (nomark _)) (qw_or1 (qt_cmp (or_eq hu) s_eq (qe_callB cr_len s_len rfl g_len boot_len (qa_cons (qr 6) qa_nil)) qe_int (nomark _))))) (qss_cons (qs_set (i := 9) sc.nd rfl (by first | exact Or.inl rfl | exact Or.inr rfl) (qe_ix hu (qe_callTy (cr_list rfl) s_list rfl g_list PyProof.Rows.boot_list (qa_cons (qv 1) qa_nil)) (qe_callC c__law_draw (hr.mono (by decide)) rfl hx (qa_cons (qr 0) (qa_cons (qe_callB cr_len s_len rfl g_len boot_len (qa_cons (qv 1) qa_nil)) qa_nil)))) (show 9 ∉ ([0, 1, 2, 3, 4, 5] : List Nat) from by decide))
    (qss_cons (qs_set (i := 10) sc.nd rfl (by first | exact Or.inl rfl | exact Or.inr rfl) (qe_op op_sub s_sub (qv 5) (qe_callC c__law_draw (hr.mono (by decide)) rfl hx (qa_cons (qr 0) (qa_cons (qe_op op_plus s_plus (qe_ix hu (qv 1) (qv 9)) qe_int) qa_nil)))) (show 10 ∉ ([0, 1, 2, 3, 4, 5] : List Nat) from by decide))
    (qss_one (qs_ret (qe_tup (qa_cons qe_str (qa_cons (qv 4) (qa_cons (qv 9) (qa_cons (qe_ix hu (qv 2) (qe_callC c__law_draw (hr.mono (by decide)) rfl hx (qa_cons (qr 0) (qa_cons (qe_callB cr_len s_len rfl g_len boot_len (qa_cons (qv 2) qa_nil)) qa_nil)))) (qa_cons (qv 10) (qa_cons (qe_callC c__law_amount (hr.mono (by decide)) rfl hx (qa_cons (qr 0) qa_nil)) (qa_cons (qv 5) qa_nil)))))))))))) qss_nil)
    (qss_cons (qs_set (i := 7) sc.nd rfl (by first | exact Or.inl rfl | exact Or.inr rfl) (qe_ix hu (qr 6) (qe_callC c__law_draw (hr.mono (by decide)) rfl hx (qa_cons (qr 0) (qa_cons (qe_callB cr_len s_len rfl g_len boot_len (qa_cons (qr 6) qa_nil)) qa_nil)))) (show 7 ∉ ([0, 1, 2, 3, 4, 5] : List Nat) from by decide))
    (qss_cons (qs_if (qt_cmp (or_eq hu) s_eq (qv 8) qe_int (nomark _)) (qss_cons (qs_set (i := 10) sc.nd rfl (by first | exact Or.inl rfl | exact Or.inr rfl) (qe_op op_sub s_sub (qv 5) (qe_callC c__law_draw (hr.mono (by decide)) rfl hx (qa_cons (qr 0) (qa_cons (qe_op op_plus s_plus (qe_ix hu (qv 1) (qe_ix hu (qe_ix hu (qr 3) (qv 7)) qe_int)) qe_int) qa_nil)))) (show 10 ∉ ([0, 1, 2, 3, 4, 5] : List Nat) from by decide))
    (qss_one (qs_ret (qe_tup (qa_cons qe_str (qa_cons (qv 7) (qa_cons (qv 10) (qa_cons (qe_callC c__law_amount (hr.mono (by decide)) rfl hx (qa_cons (qr 0) qa_nil)) (qa_cons (qv 5) qa_nil))))))))) qss_nil)
    (qss_one (qs_ret (qe_tup (qa_cons qe_str (qa_cons (qv 7) (qa_cons (qv 5) qa_nil))))))))))))
abbrev s__law_put : Stmt := top 42
def as__law_put : AS := asIf (aTest (aOp aEq (aOp aIx (aVal 1) (aC (.int 0))) (aC (.str ("row" : Str))))) (asPut (aTup (aCons (aOp aIx (aVal 1) (aC (.int 2))) (aCons (aOp aIx (aVal 1) (aC (.int 3))) (aCons (aOp aIx (aVal 1) (aC (.int 4))) (aCons (aOp aIx (aVal 1) (aC (.int 5))) (aNil)))))) (aRef 0) (aOp aIx (aVal 1) (aC (.int 1)))) (asIf (aTest (aOp aEq (aOp aIx (aVal 1) (aC (.int 0))) (aC (.str ("fix" : Str))))) (asSeq (asSet 2 (aOp aIx (aRef 0) (aOp aIx (aVal 1) (aC (.int 1)))))
  (asPut (aTup (aCons (aOp aIx (aVal 2) (aC (.int 0))) (aCons (aOp aIx (aVal 2) (aC (.int 1))) (aCons (aOp aIx (aVal 1) (aC (.int 2))) (aCons (aOp aIx (aVal 1) (aC (.int 3))) (aNil)))))) (aRef 0) (aOp aIx (aVal 1) (aC (.int 1))))) (asPut (aC .non) (aRef 0) (aOp aIx (aVal 1) (aC (.int 1)))))
theorem sc__law_put : FnScope ["_law_states", "_law_entry_here", "_law_old"] ["_law_states", "_law_entry_here"] (defScope s__law_put) := ⟨rfl, rfl, rfl, by decide +kernel, rfl, by decide +kernel, by decide +kernel⟩
theorem wk__law_put {f : Addr} {fd : FuncData} {sp : ASp} (F : FnP K ("_law_put" : Str) ("_law_put" : Str) s__law_put [] f fd) (hlen : ∀ xs, sp.pre xs → xs.length = 2)
    (rd : ∀ xs, sp.pre xs → as__law_put (endsOf [0, 1] sp xs) (startA 3 xs)) : Fok Pr w K mg base 1 f fd ["_law_states", "_law_entry_here"] sp := by
  refine fn_mk (N := ["_law_states", "_law_entry_here", "_law_old"]) (k := 0) [0, 1] F sc__law_put hlen (by decide) (fun cdv Ar outer s H E hr => ⟨as__law_put, ?_, rd⟩)
  have hx := fun σ => passAt (X := cxOf (L2.CX Pr w) Pr w K mg base ["_law_states", "_law_entry_here", "_law_old"] ("_law_put" : Str) (defScope s__law_put) f cdv Ar outer s H E) (W := fun cls d _ H => E cls d H) (takes_of rfl rfl rfl rfl) σ
  have hp : PassesOwn _ _ _ (cxOf (L2.CX Pr w) Pr w K mg base ["_law_states", "_law_entry_here", "_law_old"] ("_law_put" : Str) (defScope s__law_put) f cdv Ar outer s H E).xe := passes_of rfl
  have tk := takes_of (X := cxOf (L2.CX Pr w) Pr w K mg base ["_law_states", "_law_entry_here", "_law_old"] ("_law_put" : Str) (defScope s__law_put) f cdv Ar outer s H E) rfl rfl rfl rfl
  have hu := hr.units
  have sc := sc__law_put
  exact (qss_one (qs_if (qt_cmp (or_eq hu) s_eq (qe_ix hu (qv 1) qe_int) qe_str (nomark _)) (qss_one (qs_put hu (qe_tup (qa_cons (qe_ix hu (qv 1) qe_int) (qa_cons (qe_ix hu (qv 1) qe_int) (qa_cons (qe_ix hu (qv 1) qe_int) (qa_cons (qe_ix hu (qv 1) qe_int) qa_nil))))) (qr 0) (qe_ix hu (qv 1) qe_int))) (qss_one (qs_if (qt_cmp (or_eq hu) s_eq (qe_ix hu (qv 1) qe_int) qe_str (nomark _)) (qss_cons (qs_set (i := 2) sc.nd rfl (by first | exact Or.inl rfl | exact Or.inr rfl) (qe_ix hu (qr 0) (qe_ix hu (qv 1) qe_int)) (show 2 ∉ ([0, 1] : List Nat) from by decide))
    (qss_one (qs_put hu (qe_tup (qa_cons (qe_ix hu (qv 2) qe_int) (qa_cons (qe_ix hu (qv 2) qe_int) (qa_cons (qe_ix hu (qv 1) qe_int) (qa_cons (qe_ix hu (qv 1) qe_int) qa_nil))))) (qr 0) (qe_ix hu (qv 1) qe_int)))) (qss_one (qs_put hu qe_non (qr 0) (qe_ix hu (qv 1) qe_int)))))))
abbrev s__law_entries : Stmt := top 43
def bd__law_entries_1 (sp__law_draw sp__law_entry sp__law_put : ASp) : AS := asSeq (asSet 5 (aFrz (aOp aPlus (aVal 5) (aOp aIx (aLst (aCons (aC (.int 0)) (aCons (aC (.int 0)) (aCons (aC (.int 1)) (aCons (aC (.int 1)) (aCons (aC (.int 2)) (aCons (aC (.int 3)) (aCons (aC (.int 7)) (aCons (aCall sp__law_draw [] (aCons (aRef 0) (aCons (aOp aPow (aC (.int 10)) (aC (.int 6))) (aNil)))) (aNil)))))))))) (aCall sp__law_draw [] (aCons (aRef 0) (aCons (aC (.int 8)) (aNil))))))))
  (asSeq (asSet 9 (aFrz (aCall sp__law_entry [] (aCons (aRef 0) (aCons (aVal 1) (aCons (aVal 2) (aCons (aRef 3) (aCons (aFrz (aOp aPlus (aOp aPlus (aVal 4) (aOp aMul (aC (.int 3)) (aVal 8))) (aCall sp__law_draw [] (aCons (aRef 0) (aCons (aC (.int 3)) (aNil)))))) (aCons (aVal 5) (aNil))))))))))
  (asSeq (asExpr (aCall sp__law_put [] (aCons (aRef 3) (aCons (aVal 9) (aNil)))))
  (asExpr (aAppend (aRef 7) (aVal 9)))))
def rs__law_entries_3 (sp__law_draw sp__law_entry sp__law_put : ASp) : AS := asRet (aRef 7)
def rs__law_entries_2 (sp__law_draw sp__law_entry sp__law_put : ASp) : AS := asSeq (asFor (aiRng1 (aCons (aVal 6) (aNil))) (agName 8) (bd__law_entries_1 sp__law_draw sp__law_entry sp__law_put)) (rs__law_entries_3 sp__law_draw sp__law_entry sp__law_put)
def as__law_entries (sp__law_draw sp__law_entry sp__law_put : ASp) : AS := asSeq (asSet 7 (aLst (aNil))) (rs__law_entries_2 sp__law_draw sp__law_entry sp__law_put)
theorem sc__law_entries : FnScope ["_law_pool_here", "_law_lates_here", "_law_keys", "_law_states", "_law_number", "_law_arrival_here", "_law_many", "_law_entries_here", "_law_k", "_law_entry_here"] ["_law_pool_here", "_law_lates_here", "_law_keys", "_law_states", "_law_number", "_law_arrival_here", "_law_many"] (defScope s__law_entries) := ⟨rfl, rfl, rfl, by decide +kernel, rfl, by decide +kernel, by decide +kernel⟩
theorem wk__law_entries {f : Addr} {fd : FuncData} {sp : ASp} {sp__law_draw : ASp} (c__law_draw : Cal Pr w K mg base ("_law_draw" : Str) 1 ["_law_pool_here", "_law_many"] sp__law_draw) {sp__law_entry : ASp} (c__law_entry : Cal Pr w K mg base ("_law_entry" : Str) 3 ["_law_pool_here", "_law_lates_here", "_law_keys", "_law_states", "_law_number", "_law_arrival_here"] sp__law_entry) {sp__law_put : ASp} (c__law_put : Cal Pr w K mg base ("_law_put" : Str) 1 ["_law_states", "_law_entry_here"] sp__law_put) (g_range : mg ("range" : Str) = none) (F : FnP K ("_law_entries" : Str) ("_law_entries" : Str) s__law_entries [] f fd) (hlen : ∀ xs, sp.pre xs → xs.length = 7)
    (rd : ∀ xs, sp.pre xs → as__law_entries sp__law_draw sp__law_entry sp__law_put (endsOf [0, 1, 2, 3, 4, 6] sp xs) (startA 10 xs)) : Fok Pr w K mg base 4 f fd ["_law_pool_here", "_law_lates_here", "_law_keys", "_law_states", "_law_number", "_law_arrival_here", "_law_many"] sp := by
  refine fn_mk (N := ["_law_pool_here", "_law_lates_here", "_law_keys", "_law_states", "_law_number", "_law_arrival_here", "_law_many", "_law_entries_here", "_law_k", "_law_entry_here"]) (k := 3) [0, 1, 2, 3, 4, 6] F sc__law_entries hlen (by decide) (fun cdv Ar outer s H E hr => ⟨as__law_entries sp__law_draw sp__law_entry sp__law_put, ?_, rd⟩)
  have hx := fun σ => passAt (X := cxOf (L2.CX Pr w) Pr w K mg base ["_law_pool_here", "_law_lates_here", "_law_keys", "_law_states", "_law_number", "_law_arrival_here", "_law_many", "_law_entries_here", "_law_k", "_law_entry_here"] ("_law_entries" : Str) (defScope s__law_entries) f cdv Ar outer s H E) (W := fun cls d _ H => E cls d H) (takes_of rfl rfl rfl rfl) σ
  have hp : PassesOwn _ _ _ (cxOf (L2.CX Pr w) Pr w K mg base ["_law_pool_here", "_law_lates_here", "_law_keys", "_law_states", "_law_number", "_law_arrival_here", "_law_many", "_law_entries_here", "_law_k", "_law_entry_here"] ("_law_entries" : Str) (defScope s__law_entries) f cdv Ar outer s H E).xe := passes_of rfl
  have tk := takes_of (X := cxOf (L2.CX Pr w) Pr w K mg base ["_law_pool_here", "_law_lates_here", "_law_keys", "_law_states", "_law_number", "_law_arrival_here", "_law_many", "_law_entries_here", "_law_k", "_law_entry_here"] ("_law_entries" : Str) (defScope s__law_entries) f cdv Ar outer s H E) rfl rfl rfl rfl
  have hu := hr.units
  have sc := sc__law_entries
  exact (qss_cons (qs_set (i := 7) sc.nd rfl (by first | exact Or.inl rfl | exact Or.inr rfl) (qe_lst qa_nil) (show 7 ∉ ([0, 1, 2, 3, 4, 6] : List Nat) from by decide))
    (qss_cons (qs_for hp rfl (qi_range1 rfl g_range (qa_cons (qv 6) qa_nil)) (qg_name (i := 8) sc.nd rfl (by first | exact Or.inl rfl | exact Or.inr rfl) (show 8 ∉ ([0, 1, 2, 3, 4, 6] : List Nat) from by decide)) (qss_cons (qs_set (i := 5) sc.nd rfl (by first | exact Or.inl rfl | exact Or.inr rfl) (qe_frz (qe_op op_plus s_plus (qv 5) (qe_ix hu (qe_lst (qa_cons qe_int (qa_cons qe_int (qa_cons qe_int (qa_cons qe_int (qa_cons qe_int (qa_cons qe_int (qa_cons qe_int (qa_cons (qe_callC c__law_draw (hr.mono (by decide)) rfl hx (qa_cons (qr 0) (qa_cons (qe_op op_pow s_pow qe_int qe_int) qa_nil))) qa_nil))))))))) (qe_callC c__law_draw (hr.mono (by decide)) rfl hx (qa_cons (qr 0) (qa_cons qe_int qa_nil)))))) (show 5 ∉ ([0, 1, 2, 3, 4, 6] : List Nat) from by decide))
    (qss_cons (qs_set (i := 9) sc.nd rfl (by first | exact Or.inl rfl | exact Or.inr rfl) (qe_frz (qe_callC c__law_entry (hr.mono (by decide)) rfl hx (qa_cons (qr 0) (qa_cons (qv 1) (qa_cons (qv 2) (qa_cons (qr 3) (qa_cons (qe_frz (qe_op op_plus s_plus (qe_op op_plus s_plus (qv 4) (qe_op op_mul s_mul qe_int (qv 8))) (qe_callC c__law_draw (hr.mono (by decide)) rfl hx (qa_cons (qr 0) (qa_cons qe_int qa_nil))))) (qa_cons (qv 5) qa_nil)))))))) (show 9 ∉ ([0, 1, 2, 3, 4, 6] : List Nat) from by decide))
    (qss_cons (qs_expr (qe_callC c__law_put (hr.mono (by decide)) rfl hx (qa_cons (qr 3) (qa_cons (qv 9) qa_nil))))
    (qss_one (qs_expr (qe_append (qr 7) (qv 9))))))))
    (qss_one (qs_ret (qr 7)))))
abbrev s__law_begin : Stmt := top 44
def rs__law_begin_2 (sp__law_draw : ASp) : AS := asRet (aOp aSub (aCall sp__law_draw [] (aCons (aRef 0) (aCons (aC (.int 21)) (aNil)))) (aC (.int 10)))
def as__law_begin (sp__law_draw : ASp) : AS := asSeq (asIf (aTest (aOp aEq (aCall sp__law_draw [] (aCons (aRef 0) (aCons (aC (.int 3)) (aNil)))) (aC (.int 0)))) (asRet (aOp aSub (aCall sp__law_draw [] (aCons (aRef 0) (aCons (aOp aMul (aC (.int 2)) (aOp aPow (aC (.int 10)) (aC (.int 30)))) (aNil)))) (aOp aPow (aC (.int 10)) (aC (.int 30))))) (asNext)) (rs__law_begin_2 sp__law_draw)
theorem sc__law_begin : FnScope ["_law_pool_here"] ["_law_pool_here"] (defScope s__law_begin) := ⟨rfl, rfl, rfl, by decide +kernel, rfl, by decide +kernel, by decide +kernel⟩
theorem wk__law_begin {f : Addr} {fd : FuncData} {sp : ASp} {sp__law_draw : ASp} (c__law_draw : Cal Pr w K mg base ("_law_draw" : Str) 1 ["_law_pool_here", "_law_many"] sp__law_draw) (F : FnP K ("_law_begin" : Str) ("_law_begin" : Str) s__law_begin [] f fd) (hlen : ∀ xs, sp.pre xs → xs.length = 1)
    (rd : ∀ xs, sp.pre xs → as__law_begin sp__law_draw (endsOf [0] sp xs) (startA 1 xs)) : Fok Pr w K mg base 2 f fd ["_law_pool_here"] sp := by
  refine fn_mk (N := ["_law_pool_here"]) (k := 1) [0] F sc__law_begin hlen (by decide) (fun cdv Ar outer s H E hr => ⟨as__law_begin sp__law_draw, ?_, rd⟩)
  have hx := fun σ => passAt (X := cxOf (L2.CX Pr w) Pr w K mg base ["_law_pool_here"] ("_law_begin" : Str) (defScope s__law_begin) f cdv Ar outer s H E) (W := fun cls d _ H => E cls d H) (takes_of rfl rfl rfl rfl) σ
  have hp : PassesOwn _ _ _ (cxOf (L2.CX Pr w) Pr w K mg base ["_law_pool_here"] ("_law_begin" : Str) (defScope s__law_begin) f cdv Ar outer s H E).xe := passes_of rfl
  have tk := takes_of (X := cxOf (L2.CX Pr w) Pr w K mg base ["_law_pool_here"] ("_law_begin" : Str) (defScope s__law_begin) f cdv Ar outer s H E) rfl rfl rfl rfl
  have hu := hr.units
  have sc := sc__law_begin
  exact (qss_cons (qs_if (qt_cmp (or_eq hu) s_eq (qe_callC c__law_draw (hr.mono (by decide)) rfl hx (qa_cons (qr 0) (qa_cons qe_int qa_nil))) qe_int (nomark _)) (qss_one (qs_ret (qe_op op_sub s_sub (qe_callC c__law_draw (hr.mono (by decide)) rfl hx (qa_cons (qr 0) (qa_cons (qe_op op_mul s_mul qe_int (qe_op op_pow s_pow qe_int qe_int)) qa_nil))) (qe_op op_pow s_pow qe_int qe_int)))) qss_nil)
    (qss_one (qs_ret (qe_op op_sub s_sub (qe_callC c__law_draw (hr.mono (by decide)) rfl hx (qa_cons (qr 0) (qa_cons qe_int qa_nil))) qe_int))))
abbrev s__law_then : Stmt := top 45
def as__law_then (K : Fg) (C_Journal C_BadEntry : Addr) (sp_Journal_then sp_Journal_entries : ASp) : AS := asTry K C_BadEntry 2 (asRet (aTup (aCons (aC (.str ("told" : Str))) (aCons (aCB aList (aCons (aProp C_Journal sp_Journal_entries (aFrz (aMeth C_Journal ("then" : Str) sp_Journal_then [] (aVal 0) (aCons (aVal 1) (aNil))))) (aNil))) (aNil))))) (tupU (consU (fun _ => some (.str ("refused" : Str))) (consU (fun fs => fs.lookup ("at" : Str)) (fun _ => some []))))
theorem sc__law_then : FnScope ["_law_journal", "_law_entry_here", "e"] ["_law_journal", "_law_entry_here"] (defScope s__law_then) := ⟨rfl, rfl, rfl, by decide +kernel, rfl, by decide +kernel, by decide +kernel⟩
theorem wk__law_then {f : Addr} {fd : FuncData} {sp : ASp} {C_Journal C_BadEntry : Addr} {sp_Journal_then : ASp} (m_Journal_then : CalM Pr w K mg base C_Journal ("then" : Str) 8 ["self", "entry"] sp_Journal_then) {sp_Journal_entries : ASp} (p_Journal_entries : CalP Pr w K mg base C_Journal ("entries" : Str) 1 sp_Journal_entries) (cl_Journal : Cls K C_Journal) (xf_BadEntry : XfC K C_BadEntry) (nx_BadEntry : PySem.W.findIn K (.ref C_BadEntry) ("at" : Str) = some none) (gc_BadEntry : mg ("BadEntry" : Str) = some (.ref C_BadEntry)) (g_list : mg ("list" : Str) = none) (F : FnP K ("_law_then" : Str) ("_law_then" : Str) s__law_then [] f fd) (hlen : ∀ xs, sp.pre xs → xs.length = 2)
    (rd : ∀ xs, sp.pre xs → as__law_then K C_Journal C_BadEntry sp_Journal_then sp_Journal_entries (endsOf [0, 1] sp xs) (startA 3 xs)) : Fok Pr w K mg base 9 f fd ["_law_journal", "_law_entry_here"] sp := by
  refine fn_mk (N := ["_law_journal", "_law_entry_here", "e"]) (k := 8) [0, 1] F sc__law_then hlen (by decide) (fun cdv Ar outer s H E hr => ⟨as__law_then K C_Journal C_BadEntry sp_Journal_then sp_Journal_entries, ?_, rd⟩)
  have hx := fun σ => passAt (X := cxOf (L2.CX Pr w) Pr w K mg base ["_law_journal", "_law_entry_here", "e"] ("_law_then" : Str) (defScope s__law_then) f cdv Ar outer s H E) (W := fun cls d _ H => E cls d H) (takes_of rfl rfl rfl rfl) σ
  have hp : PassesOwn _ _ _ (cxOf (L2.CX Pr w) Pr w K mg base ["_law_journal", "_law_entry_here", "e"] ("_law_then" : Str) (defScope s__law_then) f cdv Ar outer s H E).xe := passes_of rfl
  have tk := takes_of (X := cxOf (L2.CX Pr w) Pr w K mg base ["_law_journal", "_law_entry_here", "e"] ("_law_then" : Str) (defScope s__law_then) f cdv Ar outer s H E) rfl rfl rfl rfl
  have hu := hr.units
  have sc := sc__law_then
  exact (qss_one (qs_try (i := 2) rfl rfl sc.nd rfl rfl (show 2 ∉ ([0, 1] : List Nat) from by decide) rfl gc_BadEntry tk (fun W pn xe tk2 hp2 => have hx2 := fun σ => passAt tk2 σ; (qss_one (qs_ret (qe_tup (qa_cons qe_str (qa_cons (qe_callTy (cr_list rfl) s_list rfl g_list PyProof.Rows.boot_list (qa_cons (qe_prop (qe_frz (qe_methC (qv 0) cl_Journal m_Journal_then (hr.mono (by decide)) hx2 (qa_cons (qv 1) qa_nil))) cl_Journal p_Journal_entries (hr.mono (by decide))) qa_nil)) qa_nil)))))) (fun a oe dd pn hz hfs => (qu_tup (qus_cons qu_str (qus_cons (qu_fld xf_BadEntry nx_BadEntry hz hfs) qus_nil))))))
abbrev s__law_heard : Stmt := top 46
def as__law_heard (K : Fg) (C_Journal C_BadMoment : Addr) (sp_Journal_heard sp_Journal_entries : ASp) : AS := asTry K C_BadMoment 2 (asRet (aTup (aCons (aC (.str ("told" : Str))) (aCons (aCB aList (aCons (aProp C_Journal sp_Journal_entries (aFrz (aMeth C_Journal ("heard" : Str) sp_Journal_heard [] (aVal 0) (aCons (aVal 1) (aNil))))) (aNil))) (aNil))))) (tupU (consU (fun _ => some (.str ("refused" : Str))) (consU (fun fs => fs.lookup ("value" : Str)) (fun _ => some []))))
theorem sc__law_heard : FnScope ["_law_journal", "_law_h", "e"] ["_law_journal", "_law_h"] (defScope s__law_heard) := ⟨rfl, rfl, rfl, by decide +kernel, rfl, by decide +kernel, by decide +kernel⟩
theorem wk__law_heard {f : Addr} {fd : FuncData} {sp : ASp} {C_Journal C_BadMoment : Addr} {sp_Journal_heard : ASp} (m_Journal_heard : CalM Pr w K mg base C_Journal ("heard" : Str) 8 ["self", "h"] sp_Journal_heard) {sp_Journal_entries : ASp} (p_Journal_entries : CalP Pr w K mg base C_Journal ("entries" : Str) 1 sp_Journal_entries) (cl_Journal : Cls K C_Journal) (xf_BadMoment : XfC K C_BadMoment) (nx_BadMoment : PySem.W.findIn K (.ref C_BadMoment) ("value" : Str) = some none) (gc_BadMoment : mg ("BadMoment" : Str) = some (.ref C_BadMoment)) (g_list : mg ("list" : Str) = none) (F : FnP K ("_law_heard" : Str) ("_law_heard" : Str) s__law_heard [] f fd) (hlen : ∀ xs, sp.pre xs → xs.length = 2)
    (rd : ∀ xs, sp.pre xs → as__law_heard K C_Journal C_BadMoment sp_Journal_heard sp_Journal_entries (endsOf [0, 1] sp xs) (startA 3 xs)) : Fok Pr w K mg base 9 f fd ["_law_journal", "_law_h"] sp := by
  refine fn_mk (N := ["_law_journal", "_law_h", "e"]) (k := 8) [0, 1] F sc__law_heard hlen (by decide) (fun cdv Ar outer s H E hr => ⟨as__law_heard K C_Journal C_BadMoment sp_Journal_heard sp_Journal_entries, ?_, rd⟩)
  have hx := fun σ => passAt (X := cxOf (L2.CX Pr w) Pr w K mg base ["_law_journal", "_law_h", "e"] ("_law_heard" : Str) (defScope s__law_heard) f cdv Ar outer s H E) (W := fun cls d _ H => E cls d H) (takes_of rfl rfl rfl rfl) σ
  have hp : PassesOwn _ _ _ (cxOf (L2.CX Pr w) Pr w K mg base ["_law_journal", "_law_h", "e"] ("_law_heard" : Str) (defScope s__law_heard) f cdv Ar outer s H E).xe := passes_of rfl
  have tk := takes_of (X := cxOf (L2.CX Pr w) Pr w K mg base ["_law_journal", "_law_h", "e"] ("_law_heard" : Str) (defScope s__law_heard) f cdv Ar outer s H E) rfl rfl rfl rfl
  have hu := hr.units
  have sc := sc__law_heard
  exact (qss_one (qs_try (i := 2) rfl rfl sc.nd rfl rfl (show 2 ∉ ([0, 1] : List Nat) from by decide) rfl gc_BadMoment tk (fun W pn xe tk2 hp2 => have hx2 := fun σ => passAt tk2 σ; (qss_one (qs_ret (qe_tup (qa_cons qe_str (qa_cons (qe_callTy (cr_list rfl) s_list rfl g_list PyProof.Rows.boot_list (qa_cons (qe_prop (qe_frz (qe_methC (qv 0) cl_Journal m_Journal_heard (hr.mono (by decide)) hx2 (qa_cons (qv 1) qa_nil))) cl_Journal p_Journal_entries (hr.mono (by decide))) qa_nil)) qa_nil)))))) (fun a oe dd pn hz hfs => (qu_tup (qus_cons qu_str (qus_cons (qu_fld xf_BadMoment nx_BadMoment hz hfs) qus_nil))))))
abbrev s__law_arrival : Stmt := top 47
def as__law_arrival : AS := asRet (aOp aIx (aVal 0) (aOp aSub (aCB aLen (aCons (aVal 0) (aNil))) (aC (.int 1))))
theorem sc__law_arrival : FnScope ["_law_entry_here"] ["_law_entry_here"] (defScope s__law_arrival) := ⟨rfl, rfl, rfl, by decide +kernel, rfl, by decide +kernel, by decide +kernel⟩
theorem wk__law_arrival {f : Addr} {fd : FuncData} {sp : ASp} (g_len : mg ("len" : Str) = none) (F : FnP K ("_law_arrival" : Str) ("_law_arrival" : Str) s__law_arrival [] f fd) (hlen : ∀ xs, sp.pre xs → xs.length = 1)
    (rd : ∀ xs, sp.pre xs → as__law_arrival (endsOf [0] sp xs) (startA 1 xs)) : Fok Pr w K mg base 1 f fd ["_law_entry_here"] sp := by
  refine fn_mk (N := ["_law_entry_here"]) (k := 0) [0] F sc__law_arrival hlen (by decide) (fun cdv Ar outer s H E hr => ⟨as__law_arrival, ?_, rd⟩)
  have hx := fun σ => passAt (X := cxOf (L2.CX Pr w) Pr w K mg base ["_law_entry_here"] ("_law_arrival" : Str) (defScope s__law_arrival) f cdv Ar outer s H E) (W := fun cls d _ H => E cls d H) (takes_of rfl rfl rfl rfl) σ
  have hp : PassesOwn _ _ _ (cxOf (L2.CX Pr w) Pr w K mg base ["_law_entry_here"] ("_law_arrival" : Str) (defScope s__law_arrival) f cdv Ar outer s H E).xe := passes_of rfl
  have tk := takes_of (X := cxOf (L2.CX Pr w) Pr w K mg base ["_law_entry_here"] ("_law_arrival" : Str) (defScope s__law_arrival) f cdv Ar outer s H E) rfl rfl rfl rfl
  have hu := hr.units
  have sc := sc__law_arrival
  exact (qss_one (qs_ret (qe_ix hu (qv 0) (qe_op op_sub s_sub (qe_callB cr_len s_len rfl g_len boot_len (qa_cons (qv 0) qa_nil)) qe_int))))
abbrev s__law_bad : Stmt := top 48
def bd__law_bad_1 (sp__law_draw : ASp) : AS := asSeq (asExpr (aAppend (aRef 7) (aTup (aCons (aC (.str ("row" : Str))) (aCons (aVal 8) (aCons (aVal 5) (aCons (aC (.str ("a" : Str))) (aCons (aVal 4) (aCons (aC (.int 0)) (aCons (aVal 4) (aNil)))))))))))
  (asIf (aTest (aOp aIs (aOp aIx (aRef 2) (aVal 8)) (aC .non))) (asSet 7 (aOp aPlus (aRef 7) (aLst (aCons (aTup (aCons (aC (.str ("fix" : Str))) (aCons (aVal 8) (aCons (aVal 4) (aCons (aC (.int 0)) (aCons (aVal 4) (aNil))))))) (aCons (aTup (aCons (aC (.str ("gone" : Str))) (aCons (aVal 8) (aCons (aVal 4) (aNil))))) (aNil)))))) (asSeq (asSet 9 (aFrz (aOp aPlus (aOp aIx (aOp aIx (aRef 2) (aVal 8)) (aC (.int 2))) (aOp aIx (aVal 1) (aOp aIx (aOp aIx (aRef 2) (aVal 8)) (aC (.int 0)))))))
  (asIf (aTest (aOp aGe (aOp aPlus (aVal 9) (aC (.int 1))) (aVal 4))) (asSet 7 (aOp aPlus (aRef 7) (aLst (aCons (aTup (aCons (aC (.str ("fix" : Str))) (aCons (aVal 8) (aCons (aOp aPlus (aVal 9) (aC (.int 1))) (aCons (aC (.int 0)) (aCons (aOp aPlus (aVal 9) (aC (.int 1))) (aNil))))))) (aCons (aTup (aCons (aC (.str ("gone" : Str))) (aCons (aVal 8) (aCons (aOp aPlus (aVal 9) (aC (.int 1))) (aNil))))) (aNil)))))) (asNext))))
def rs__law_bad_6 (sp__law_draw : ASp) : AS := asRet (aRef 7)
def rs__law_bad_5 (sp__law_draw : ASp) : AS := asSeq (asFor (aiSeq (aCB aList (aCons (aRef 2) (aNil)))) (agName 8) (bd__law_bad_1 sp__law_draw)) (rs__law_bad_6 sp__law_draw)
def rs__law_bad_4 (sp__law_draw : ASp) : AS := asSeq (asSet 7 (aOp aPlus (aRef 7) (aLst (aCons (aTup (aCons (aC (.str ("fix" : Str))) (aCons (aVal 3) (aCons (aVal 4) (aCons (aC (.int 0)) (aCons (aVal 4) (aNil))))))) (aCons (aTup (aCons (aC (.str ("gone" : Str))) (aCons (aVal 3) (aCons (aVal 4) (aNil))))) (aCons (aTup (aCons (aC (.str ("row" : Str))) (aCons (aVal 3) (aCons (aVal 5) (aCons (aC (.str ("a" : Str))) (aCons (aVal 4) (aCons (aC (.int 0)) (aCons (aOp aSub (aVal 4) (aC (.int 1))) (aNil))))))))) (aNil))))))) (rs__law_bad_5 sp__law_draw)
def rs__law_bad_3 (sp__law_draw : ASp) : AS := asSeq (asSet 7 (aLst (aCons (aTup (aCons (aC (.str ("row" : Str))) (aCons (aVal 3) (aCons (aVal 5) (aCons (aC (.str ("a" : Str))) (aCons (aOp aPlus (aVal 4) (aC (.int 1))) (aCons (aC (.int 0)) (aCons (aVal 4) (aNil))))))))) (aCons (aTup (aCons (aC (.str ("row" : Str))) (aCons (aVal 3) (aCons (aVal 5) (aCons (aC (.str ("a" : Str))) (aCons (aOp aSub (aOp aSub (aVal 4) (aVal 6)) (aC (.int 1))) (aCons (aC (.int 0)) (aCons (aVal 4) (aNil))))))))) (aNil))))) (rs__law_bad_4 sp__law_draw)
def rs__law_bad_2 (sp__law_draw : ASp) : AS := asSeq (asSet 6 (aOp aIx (aVal 1) (aVal 5))) (rs__law_bad_3 sp__law_draw)
def as__law_bad (sp__law_draw : ASp) : AS := asSeq (asSet 5 (aOp aIx (aCB aList (aCons (aVal 1) (aNil))) (aCall sp__law_draw [] (aCons (aRef 0) (aCons (aCB aLen (aCons (aVal 1) (aNil))) (aNil)))))) (rs__law_bad_2 sp__law_draw)
theorem sc__law_bad : FnScope ["_law_pool_here", "_law_lates_here", "_law_states", "_law_number", "_law_now", "_law_stream", "_law_late", "_law_found", "_law_other", "_law_end"] ["_law_pool_here", "_law_lates_here", "_law_states", "_law_number", "_law_now"] (defScope s__law_bad) := ⟨rfl, rfl, rfl, by decide +kernel, rfl, by decide +kernel, by decide +kernel⟩
theorem wk__law_bad {f : Addr} {fd : FuncData} {sp : ASp} {sp__law_draw : ASp} (c__law_draw : Cal Pr w K mg base ("_law_draw" : Str) 1 ["_law_pool_here", "_law_many"] sp__law_draw) (g_list : mg ("list" : Str) = none) (g_len : mg ("len" : Str) = none) (F : FnP K ("_law_bad" : Str) ("_law_bad" : Str) s__law_bad [] f fd) (hlen : ∀ xs, sp.pre xs → xs.length = 5)
    (rd : ∀ xs, sp.pre xs → as__law_bad sp__law_draw (endsOf [0, 1, 2, 3, 4] sp xs) (startA 10 xs)) : Fok Pr w K mg base 2 f fd ["_law_pool_here", "_law_lates_here", "_law_states", "_law_number", "_law_now"] sp := by
  refine fn_mk (N := ["_law_pool_here", "_law_lates_here", "_law_states", "_law_number", "_law_now", "_law_stream", "_law_late", "_law_found", "_law_other", "_law_end"]) (k := 1) [0, 1, 2, 3, 4] F sc__law_bad hlen (by decide) (fun cdv Ar outer s H E hr => ⟨as__law_bad sp__law_draw, ?_, rd⟩)
  have hx := fun σ => passAt (X := cxOf (L2.CX Pr w) Pr w K mg base ["_law_pool_here", "_law_lates_here", "_law_states", "_law_number", "_law_now", "_law_stream", "_law_late", "_law_found", "_law_other", "_law_end"] ("_law_bad" : Str) (defScope s__law_bad) f cdv Ar outer s H E) (W := fun cls d _ H => E cls d H) (takes_of rfl rfl rfl rfl) σ
  have hp : PassesOwn _ _ _ (cxOf (L2.CX Pr w) Pr w K mg base ["_law_pool_here", "_law_lates_here", "_law_states", "_law_number", "_law_now", "_law_stream", "_law_late", "_law_found", "_law_other", "_law_end"] ("_law_bad" : Str) (defScope s__law_bad) f cdv Ar outer s H E).xe := passes_of rfl
  have tk := takes_of (X := cxOf (L2.CX Pr w) Pr w K mg base ["_law_pool_here", "_law_lates_here", "_law_states", "_law_number", "_law_now", "_law_stream", "_law_late", "_law_found", "_law_other", "_law_end"] ("_law_bad" : Str) (defScope s__law_bad) f cdv Ar outer s H E) rfl rfl rfl rfl
  have hu := hr.units
  have sc := sc__law_bad
  exact (qss_cons (qs_set (i := 5) sc.nd rfl (by first | exact Or.inl rfl | exact Or.inr rfl) (qe_ix hu (qe_callTy (cr_list rfl) s_list rfl g_list PyProof.Rows.boot_list (qa_cons (qv 1) qa_nil)) (qe_callC c__law_draw (hr.mono (by decide)) rfl hx (qa_cons (qr 0) (qa_cons (qe_callB cr_len s_len rfl g_len boot_len (qa_cons (qv 1) qa_nil)) qa_nil)))) (show 5 ∉ ([0, 1, 2, 3, 4] : List Nat) from by decide))
    (qss_cons (qs_set (i := 6) sc.nd rfl (by first | exact Or.inl rfl | exact Or.inr rfl) (qe_ix hu (qv 1) (qv 5)) (show 6 ∉ ([0, 1, 2, 3, 4] : List Nat) from by decide))
    (qss_cons (qs_set (i := 7) sc.nd rfl (by first | exact Or.inl rfl | exact Or.inr rfl) (qe_lst (qa_cons (qe_tup (qa_cons qe_str (qa_cons (qv 3) (qa_cons (qv 5) (qa_cons qe_str (qa_cons (qe_op op_plus s_plus (qv 4) qe_int) (qa_cons qe_int (qa_cons (qv 4) qa_nil)))))))) (qa_cons (qe_tup (qa_cons qe_str (qa_cons (qv 3) (qa_cons (qv 5) (qa_cons qe_str (qa_cons (qe_op op_sub s_sub (qe_op op_sub s_sub (qv 4) (qv 6)) qe_int) (qa_cons qe_int (qa_cons (qv 4) qa_nil)))))))) qa_nil))) (show 7 ∉ ([0, 1, 2, 3, 4] : List Nat) from by decide))
    (qss_cons (qs_set (i := 7) sc.nd rfl (by first | exact Or.inl rfl | exact Or.inr rfl) (qe_op op_plus s_plus (qr 7) (qe_lst (qa_cons (qe_tup (qa_cons qe_str (qa_cons (qv 3) (qa_cons (qv 4) (qa_cons qe_int (qa_cons (qv 4) qa_nil)))))) (qa_cons (qe_tup (qa_cons qe_str (qa_cons (qv 3) (qa_cons (qv 4) qa_nil)))) (qa_cons (qe_tup (qa_cons qe_str (qa_cons (qv 3) (qa_cons (qv 5) (qa_cons qe_str (qa_cons (qv 4) (qa_cons qe_int (qa_cons (qe_op op_sub s_sub (qv 4) qe_int) qa_nil)))))))) qa_nil))))) (show 7 ∉ ([0, 1, 2, 3, 4] : List Nat) from by decide))
    (qss_cons (qs_for hp rfl (qi_seq (qe_callTy (cr_list rfl) s_list rfl g_list PyProof.Rows.boot_list (qa_cons (qr 2) qa_nil))) (qg_name (i := 8) sc.nd rfl (by first | exact Or.inl rfl | exact Or.inr rfl) (show 8 ∉ ([0, 1, 2, 3, 4] : List Nat) from by decide)) (qss_cons (qs_expr (qe_append (qr 7) (qe_tup (qa_cons qe_str (qa_cons (qv 8) (qa_cons (qv 5) (qa_cons qe_str (qa_cons (qv 4) (qa_cons qe_int (qa_cons (qv 4) qa_nil))))))))))
    (qss_one (qs_if (qt_cmp op_isN s_is (qe_ix hu (qr 2) (qv 8)) qe_non (nomark _)) (qss_one (qs_set (i := 7) sc.nd rfl (by first | exact Or.inl rfl | exact Or.inr rfl) (qe_op op_plus s_plus (qr 7) (qe_lst (qa_cons (qe_tup (qa_cons qe_str (qa_cons (qv 8) (qa_cons (qv 4) (qa_cons qe_int (qa_cons (qv 4) qa_nil)))))) (qa_cons (qe_tup (qa_cons qe_str (qa_cons (qv 8) (qa_cons (qv 4) qa_nil)))) qa_nil)))) (show 7 ∉ ([0, 1, 2, 3, 4] : List Nat) from by decide))) (qss_cons (qs_set (i := 9) sc.nd rfl (by first | exact Or.inl rfl | exact Or.inr rfl) (qe_frz (qe_op op_plus s_plus (qe_ix hu (qe_ix hu (qr 2) (qv 8)) qe_int) (qe_ix hu (qv 1) (qe_ix hu (qe_ix hu (qr 2) (qv 8)) qe_int)))) (show 9 ∉ ([0, 1, 2, 3, 4] : List Nat) from by decide))
    (qss_one (qs_if (qt_cmp op_ge s_ge (qe_op op_plus s_plus (qv 9) qe_int) (qv 4) (nomark _)) (qss_one (qs_set (i := 7) sc.nd rfl (by first | exact Or.inl rfl | exact Or.inr rfl) (qe_op op_plus s_plus (qr 7) (qe_lst (qa_cons (qe_tup (qa_cons qe_str (qa_cons (qv 8) (qa_cons (qe_op op_plus s_plus (qv 9) qe_int) (qa_cons qe_int (qa_cons (qe_op op_plus s_plus (qv 9) qe_int) qa_nil)))))) (qa_cons (qe_tup (qa_cons qe_str (qa_cons (qv 8) (qa_cons (qe_op op_plus s_plus (qv 9) qe_int) qa_nil)))) qa_nil)))) (show 7 ∉ ([0, 1, 2, 3, 4] : List Nat) from by decide))) qss_nil)))))))
    (qss_one (qs_ret (qr 7))))))))
abbrev s__law_at_the_end : Stmt := top 49
def bd__law_at_the_end_1 : AS := asIf (aTest (aOp aIsNot (aOp aIx (aRef 0) (aVal 4)) (aC .non))) (asSeq (asSet 5 (aFrz (aOp aPlus (aOp aIx (aOp aIx (aRef 0) (aVal 4)) (aC (.int 2))) (aOp aIx (aVal 1) (aOp aIx (aOp aIx (aRef 0) (aVal 4)) (aC (.int 0)))))))
  (asIf (aTest (aOp aGe (aVal 5) (aVal 2))) (asSeq (asSet 3 (aOp aPlus (aRef 3) (aLst (aCons (aTup (aCons (aC (.str ("fix" : Str))) (aCons (aVal 4) (aCons (aVal 5) (aCons (aC (.int 1)) (aCons (aVal 5) (aNil))))))) (aCons (aTup (aCons (aC (.str ("gone" : Str))) (aCons (aVal 4) (aCons (aVal 5) (aNil))))) (aNil))))))
  (asExpr (aAppend (aRef 3) (aTup (aCons (aC (.str ("fix" : Str))) (aCons (aVal 4) (aCons (aOp aSub (aVal 5) (aOp aIx (aVal 1) (aOp aIx (aOp aIx (aRef 0) (aVal 4)) (aC (.int 0))))) (aCons (aC (.int 1)) (aCons (aVal 5) (aNil)))))))))) (asNext))) (asNext)
def rs__law_at_the_end_3 : AS := asRet (aRef 3)
def rs__law_at_the_end_2 : AS := asSeq (asFor (aiSeq (aCB aList (aCons (aRef 0) (aNil)))) (agName 4) (bd__law_at_the_end_1)) (rs__law_at_the_end_3)
def as__law_at_the_end : AS := asSeq (asSet 3 (aLst (aNil))) (rs__law_at_the_end_2)
theorem sc__law_at_the_end : FnScope ["_law_states", "_law_lates_here", "_law_now", "_law_found", "_law_other", "_law_end"] ["_law_states", "_law_lates_here", "_law_now"] (defScope s__law_at_the_end) := ⟨rfl, rfl, rfl, by decide +kernel, rfl, by decide +kernel, by decide +kernel⟩
theorem wk__law_at_the_end {f : Addr} {fd : FuncData} {sp : ASp} (g_list : mg ("list" : Str) = none) (F : FnP K ("_law_at_the_end" : Str) ("_law_at_the_end" : Str) s__law_at_the_end [] f fd) (hlen : ∀ xs, sp.pre xs → xs.length = 3)
    (rd : ∀ xs, sp.pre xs → as__law_at_the_end (endsOf [0, 1, 2] sp xs) (startA 6 xs)) : Fok Pr w K mg base 1 f fd ["_law_states", "_law_lates_here", "_law_now"] sp := by
  refine fn_mk (N := ["_law_states", "_law_lates_here", "_law_now", "_law_found", "_law_other", "_law_end"]) (k := 0) [0, 1, 2] F sc__law_at_the_end hlen (by decide) (fun cdv Ar outer s H E hr => ⟨as__law_at_the_end, ?_, rd⟩)
  have hx := fun σ => passAt (X := cxOf (L2.CX Pr w) Pr w K mg base ["_law_states", "_law_lates_here", "_law_now", "_law_found", "_law_other", "_law_end"] ("_law_at_the_end" : Str) (defScope s__law_at_the_end) f cdv Ar outer s H E) (W := fun cls d _ H => E cls d H) (takes_of rfl rfl rfl rfl) σ
  have hp : PassesOwn _ _ _ (cxOf (L2.CX Pr w) Pr w K mg base ["_law_states", "_law_lates_here", "_law_now", "_law_found", "_law_other", "_law_end"] ("_law_at_the_end" : Str) (defScope s__law_at_the_end) f cdv Ar outer s H E).xe := passes_of rfl
  have tk := takes_of (X := cxOf (L2.CX Pr w) Pr w K mg base ["_law_states", "_law_lates_here", "_law_now", "_law_found", "_law_other", "_law_end"] ("_law_at_the_end" : Str) (defScope s__law_at_the_end) f cdv Ar outer s H E) rfl rfl rfl rfl
  have hu := hr.units
  have sc := sc__law_at_the_end
  exact (qss_cons (qs_set (i := 3) sc.nd rfl (by first | exact Or.inl rfl | exact Or.inr rfl) (qe_lst qa_nil) (show 3 ∉ ([0, 1, 2] : List Nat) from by decide))
    (qss_cons (qs_for hp rfl (qi_seq (qe_callTy (cr_list rfl) s_list rfl g_list PyProof.Rows.boot_list (qa_cons (qr 0) qa_nil))) (qg_name (i := 4) sc.nd rfl (by first | exact Or.inl rfl | exact Or.inr rfl) (show 4 ∉ ([0, 1, 2] : List Nat) from by decide)) (qss_one (qs_if (qt_cmp op_notN s_isNot (qe_ix hu (qr 0) (qv 4)) qe_non (nomark _)) (qss_cons (qs_set (i := 5) sc.nd rfl (by first | exact Or.inl rfl | exact Or.inr rfl) (qe_frz (qe_op op_plus s_plus (qe_ix hu (qe_ix hu (qr 0) (qv 4)) qe_int) (qe_ix hu (qv 1) (qe_ix hu (qe_ix hu (qr 0) (qv 4)) qe_int)))) (show 5 ∉ ([0, 1, 2] : List Nat) from by decide))
    (qss_one (qs_if (qt_cmp op_ge s_ge (qv 5) (qv 2) (nomark _)) (qss_cons (qs_set (i := 3) sc.nd rfl (by first | exact Or.inl rfl | exact Or.inr rfl) (qe_op op_plus s_plus (qr 3) (qe_lst (qa_cons (qe_tup (qa_cons qe_str (qa_cons (qv 4) (qa_cons (qv 5) (qa_cons qe_int (qa_cons (qv 5) qa_nil)))))) (qa_cons (qe_tup (qa_cons qe_str (qa_cons (qv 4) (qa_cons (qv 5) qa_nil)))) qa_nil)))) (show 3 ∉ ([0, 1, 2] : List Nat) from by decide))
    (qss_one (qs_expr (qe_append (qr 3) (qe_tup (qa_cons qe_str (qa_cons (qv 4) (qa_cons (qe_op op_sub s_sub (qv 5) (qe_ix hu (qv 1) (qe_ix hu (qe_ix hu (qr 0) (qv 4)) qe_int))) (qa_cons qe_int (qa_cons (qv 5) qa_nil)))))))))) qss_nil))) qss_nil)))
    (qss_one (qs_ret (qr 3)))))
abbrev s_law : Stmt := top 50
def bd_law_1 (G_ : D → Prop) (C_Journal C_Book : Addr) (sp__law_pool sp__law_lates sp__law_names sp__law_draw sp__law_begin sp__law_entries sp__law_arrival sp__law_bad sp__law_then sp__law_at_the_end sp__law_put sp__law_heard sp_Book___init__ sp_Journal_then sp_Journal_entries sp_Journal___init__ : ASp) : AS := asSeq (asSet 10 (aFrz (aCall sp__law_arrival [] (aCons (aOp aIx (aVal 7) (aVal 9)) (aNil)))))
  (asSeq (asIf (aTest (aOp aGt (aVal 9) (aC (.int 0)))) (asSeq (asSet 10 (aFrz (aCall sp__law_arrival [] (aCons (aOp aIx (aVal 7) (aOp aSub (aVal 9) (aC (.int 1)))) (aNil)))))
  (asSeq (asSet 11 (aFrz (aCall sp__law_bad [] (aCons (aRef 1) (aCons (aVal 2) (aCons (aRef 6) (aCons (aOp aPlus (aOp aPlus (aVal 4) (aOp aMul (aC (.int 3)) (aCB aLen (aCons (aVal 7) (aNil))))) (aC (.int 9))) (aCons (aVal 10) (aNil)))))))))
  (asSeq (asIf (aTest (aOp (aNeX G_) (aCall sp__law_then [] (aCons (aVal 8) (aCons (aOp aIx (aVal 11) (aCall sp__law_draw [] (aCons (aRef 1) (aCons (aCB aLen (aCons (aVal 11) (aNil))) (aNil))))) (aNil)))) (aTup (aCons (aC (.str ("refused" : Str))) (aCons (aVal 9) (aNil)))))) (asRet (aC (.bl false))) (asNext))
  (asSeq (asSet 12 (aFrz (aCall sp__law_at_the_end [] (aCons (aRef 6) (aCons (aVal 2) (aCons (aVal 10) (aNil)))))))
  (asIf (aTest (aOp aGt (aCB aLen (aCons (aVal 12) (aNil))) (aC (.int 0)))) (asSeq (asSet 13 (aOp aIx (aVal 12) (aCall sp__law_draw [] (aCons (aRef 1) (aCons (aCB aLen (aCons (aVal 12) (aNil))) (aNil))))))
  (asIf (aTest (aOp (aNeX G_) (aCall sp__law_then [] (aCons (aVal 8) (aCons (aVal 13) (aNil)))) (aTup (aCons (aC (.str ("told" : Str))) (aCons (aOp aPlus (aSlice (aVal 7) (aoNone) (aoSome (aVal 9))) (aLst (aCons (aVal 13) (aNil)))) (aNil)))))) (asRet (aC (.bl false))) (asNext))) (asNext)))))) (asNext))
  (asSeq (asSet 14 (aFrz (aMeth C_Journal ("then" : Str) sp_Journal_then [] (aVal 8) (aCons (aOp aIx (aVal 7) (aVal 9)) (aNil)))))
  (asSeq (asIf (atOr (aTest (aOp aNe (aCB aList (aCons (aProp C_Journal sp_Journal_entries (aVal 8)) (aNil))) (aSlice (aVal 7) (aoNone) (aoSome (aVal 9))))) (aTest (aOp aNe (aCB aList (aCons (aProp C_Journal sp_Journal_entries (aVal 14)) (aNil))) (aSlice (aVal 7) (aoNone) (aoSome (aOp aPlus (aVal 9) (aC (.int 1)))))))) (asRet (aC (.bl false))) (asNext))
  (asSeq (asSet 8 (aVal 14))
  (asExpr (aCall sp__law_put [] (aCons (aRef 6) (aCons (aOp aIx (aVal 7) (aVal 9)) (aNil)))))))))
def bd_law_2 (G_ : D → Prop) (C_Journal C_Book : Addr) (sp__law_pool sp__law_lates sp__law_names sp__law_draw sp__law_begin sp__law_entries sp__law_arrival sp__law_bad sp__law_then sp__law_at_the_end sp__law_put sp__law_heard sp_Book___init__ sp_Journal_then sp_Journal_entries sp_Journal___init__ : ASp) : AS := asSeq (asForget [13] (asSet 17 (aFrz (aLc (aiSeq (aVal 7)) (agName 13) (aTest (aOp aLe (aCall sp__law_arrival [] (aCons (aVal 13) (aNil))) (aVal 16))) (aVal 13) [13]))))
  (asIf (atOr (aTest (aOp (aNeX G_) (aCall sp__law_heard [] (aCons (aVal 8) (aCons (aVal 16) (aNil)))) (aTup (aCons (aC (.str ("told" : Str))) (aCons (aVal 17) (aNil)))))) (aTest (aOp (aNeX G_) (aCall sp__law_heard [] (aCons (aVal 8) (aCons (aVal 16) (aNil)))) (aTup (aCons (aC (.str ("told" : Str))) (aCons (aVal 17) (aNil))))))) (asRet (aC (.bl false))) (asNext))
def rs_law_15 (G_ : D → Prop) (C_Journal C_Book : Addr) (sp__law_pool sp__law_lates sp__law_names sp__law_draw sp__law_begin sp__law_entries sp__law_arrival sp__law_bad sp__law_then sp__law_at_the_end sp__law_put sp__law_heard sp_Book___init__ sp_Journal_then sp_Journal_entries sp_Journal___init__ : ASp) : AS := asRet (aOp aEq (aCB aList (aCons (aProp C_Journal sp_Journal_entries (aVal 8)) (aNil))) (aVal 7))
def rs_law_14 (G_ : D → Prop) (C_Journal C_Book : Addr) (sp__law_pool sp__law_lates sp__law_names sp__law_draw sp__law_begin sp__law_entries sp__law_arrival sp__law_bad sp__law_then sp__law_at_the_end sp__law_put sp__law_heard sp_Book___init__ sp_Journal_then sp_Journal_entries sp_Journal___init__ : ASp) : AS := asSeq (asIf (atOr (aTest (aOp (aNeX G_) (aCall sp__law_heard [] (aCons (aVal 8) (aCons (aVal 18) (aNil)))) (aTup (aCons (aC (.str ("refused" : Str))) (aCons (aVal 18) (aNil)))))) (aTest (aOp (aNeX G_) (aCall sp__law_then [] (aCons (aVal 8) (aCons (aVal 18) (aNil)))) (aTup (aCons (aC (.str ("refused" : Str))) (aCons (aCB aLen (aCons (aVal 7) (aNil))) (aNil))))))) (asRet (aC (.bl false))) (asNext)) (rs_law_15 G_ C_Journal C_Book sp__law_pool sp__law_lates sp__law_names sp__law_draw sp__law_begin sp__law_entries sp__law_arrival sp__law_bad sp__law_then sp__law_at_the_end sp__law_put sp__law_heard sp_Book___init__ sp_Journal_then sp_Journal_entries sp_Journal___init__)
def rs_law_13 (G_ : D → Prop) (C_Journal C_Book : Addr) (sp__law_pool sp__law_lates sp__law_names sp__law_draw sp__law_begin sp__law_entries sp__law_arrival sp__law_bad sp__law_then sp__law_at_the_end sp__law_put sp__law_heard sp_Book___init__ sp_Journal_then sp_Journal_entries sp_Journal___init__ : ASp) : AS := asSeq (asSet 18 (aOp aIx (aLst (aCons (aC .non) (aCons (aC (.bl true)) (aCons (aC (.bl false)) (aCons (aC (.str ("" : Str))) (aCons (aC (.str ("0" : Str))) (aCons (aTup (aNil)) (aCons (aTup (aCons (aC (.int 1)) (aNil))) (aCons (aLst (aCons (aC (.int 1)) (aNil))) (aCons (aDict0) (aCons (aMake C_Book sp_Book___init__ [] (aCons (aVal 2) (aNil))) (aNil)))))))))))) (aCall sp__law_draw [] (aCons (aRef 1) (aCons (aC (.int 10)) (aNil)))))) (rs_law_14 G_ C_Journal C_Book sp__law_pool sp__law_lates sp__law_names sp__law_draw sp__law_begin sp__law_entries sp__law_arrival sp__law_bad sp__law_then sp__law_at_the_end sp__law_put sp__law_heard sp_Book___init__ sp_Journal_then sp_Journal_entries sp_Journal___init__)
def rs_law_12 (G_ : D → Prop) (C_Journal C_Book : Addr) (sp__law_pool sp__law_lates sp__law_names sp__law_draw sp__law_begin sp__law_entries sp__law_arrival sp__law_bad sp__law_then sp__law_at_the_end sp__law_put sp__law_heard sp_Book___init__ sp_Journal_then sp_Journal_entries sp_Journal___init__ : ASp) : AS := asSeq (asFor (aiSeq (aLst (aCons (aOp aSub (aOp aIx (aVal 15) (aCall sp__law_draw [] (aCons (aRef 1) (aCons (aCB aLen (aCons (aVal 15) (aNil))) (aNil))))) (aCall sp__law_draw [] (aCons (aRef 1) (aCons (aC (.int 2)) (aNil))))) (aCons (aOp aSub (aCB aMinL (aCons (aVal 15) (aNil))) (aC (.int 1))) (aCons (aCB aMaxL (aCons (aVal 15) (aNil))) (aNil)))))) (agName 16) (bd_law_2 G_ C_Journal C_Book sp__law_pool sp__law_lates sp__law_names sp__law_draw sp__law_begin sp__law_entries sp__law_arrival sp__law_bad sp__law_then sp__law_at_the_end sp__law_put sp__law_heard sp_Book___init__ sp_Journal_then sp_Journal_entries sp_Journal___init__)) (rs_law_13 G_ C_Journal C_Book sp__law_pool sp__law_lates sp__law_names sp__law_draw sp__law_begin sp__law_entries sp__law_arrival sp__law_bad sp__law_then sp__law_at_the_end sp__law_put sp__law_heard sp_Book___init__ sp_Journal_then sp_Journal_entries sp_Journal___init__)
def rs_law_11 (G_ : D → Prop) (C_Journal C_Book : Addr) (sp__law_pool sp__law_lates sp__law_names sp__law_draw sp__law_begin sp__law_entries sp__law_arrival sp__law_bad sp__law_then sp__law_at_the_end sp__law_put sp__law_heard sp_Book___init__ sp_Journal_then sp_Journal_entries sp_Journal___init__ : ASp) : AS := asSeq (asForget [13] (asSet 15 (aFrz (aLc (aiSeq (aVal 7)) (agName 13) (atYes) (aCall sp__law_arrival [] (aCons (aVal 13) (aNil))) [13])))) (rs_law_12 G_ C_Journal C_Book sp__law_pool sp__law_lates sp__law_names sp__law_draw sp__law_begin sp__law_entries sp__law_arrival sp__law_bad sp__law_then sp__law_at_the_end sp__law_put sp__law_heard sp_Book___init__ sp_Journal_then sp_Journal_entries sp_Journal___init__)
def rs_law_10 (G_ : D → Prop) (C_Journal C_Book : Addr) (sp__law_pool sp__law_lates sp__law_names sp__law_draw sp__law_begin sp__law_entries sp__law_arrival sp__law_bad sp__law_then sp__law_at_the_end sp__law_put sp__law_heard sp_Book___init__ sp_Journal_then sp_Journal_entries sp_Journal___init__ : ASp) : AS := asSeq (asFor (aiRng1 (aCons (aCB aLen (aCons (aVal 7) (aNil))) (aNil))) (agName 9) (bd_law_1 G_ C_Journal C_Book sp__law_pool sp__law_lates sp__law_names sp__law_draw sp__law_begin sp__law_entries sp__law_arrival sp__law_bad sp__law_then sp__law_at_the_end sp__law_put sp__law_heard sp_Book___init__ sp_Journal_then sp_Journal_entries sp_Journal___init__)) (rs_law_11 G_ C_Journal C_Book sp__law_pool sp__law_lates sp__law_names sp__law_draw sp__law_begin sp__law_entries sp__law_arrival sp__law_bad sp__law_then sp__law_at_the_end sp__law_put sp__law_heard sp_Book___init__ sp_Journal_then sp_Journal_entries sp_Journal___init__)
def rs_law_9 (G_ : D → Prop) (C_Journal C_Book : Addr) (sp__law_pool sp__law_lates sp__law_names sp__law_draw sp__law_begin sp__law_entries sp__law_arrival sp__law_bad sp__law_then sp__law_at_the_end sp__law_put sp__law_heard sp_Book___init__ sp_Journal_then sp_Journal_entries sp_Journal___init__ : ASp) : AS := asSeq (asSet 6 (aDict0)) (rs_law_10 G_ C_Journal C_Book sp__law_pool sp__law_lates sp__law_names sp__law_draw sp__law_begin sp__law_entries sp__law_arrival sp__law_bad sp__law_then sp__law_at_the_end sp__law_put sp__law_heard sp_Book___init__ sp_Journal_then sp_Journal_entries sp_Journal___init__)
def rs_law_8 (G_ : D → Prop) (C_Journal C_Book : Addr) (sp__law_pool sp__law_lates sp__law_names sp__law_draw sp__law_begin sp__law_entries sp__law_arrival sp__law_bad sp__law_then sp__law_at_the_end sp__law_put sp__law_heard sp_Book___init__ sp_Journal_then sp_Journal_entries sp_Journal___init__ : ASp) : AS := asSeq (asSet 8 (aFrz (aMake C_Journal sp_Journal___init__ [.tup []] (aCons (aFrz (aMake C_Book sp_Book___init__ [] (aCons (aVal 2) (aNil)))) (aNil))))) (rs_law_9 G_ C_Journal C_Book sp__law_pool sp__law_lates sp__law_names sp__law_draw sp__law_begin sp__law_entries sp__law_arrival sp__law_bad sp__law_then sp__law_at_the_end sp__law_put sp__law_heard sp_Book___init__ sp_Journal_then sp_Journal_entries sp_Journal___init__)
def rs_law_7 (G_ : D → Prop) (C_Journal C_Book : Addr) (sp__law_pool sp__law_lates sp__law_names sp__law_draw sp__law_begin sp__law_entries sp__law_arrival sp__law_bad sp__law_then sp__law_at_the_end sp__law_put sp__law_heard sp_Book___init__ sp_Journal_then sp_Journal_entries sp_Journal___init__ : ASp) : AS := asSeq (asSet 7 (aFrz (aCall sp__law_entries [] (aCons (aRef 1) (aCons (aVal 2) (aCons (aVal 3) (aCons (aRef 6) (aCons (aVal 4) (aCons (aVal 5) (aCons (aCB aMin2 (aCons (aC (.int 12)) (aCons (aCB aMax2 (aCons (aOp aPlus (aC (.int 1)) (aCall sp__law_draw [] (aCons (aRef 1) (aCons (aC (.int 6)) (aNil))))) (aCons (aCB aLen (aCons (aVal 0) (aNil))) (aNil)))) (aNil)))) (aNil))))))))))) (rs_law_8 G_ C_Journal C_Book sp__law_pool sp__law_lates sp__law_names sp__law_draw sp__law_begin sp__law_entries sp__law_arrival sp__law_bad sp__law_then sp__law_at_the_end sp__law_put sp__law_heard sp_Book___init__ sp_Journal_then sp_Journal_entries sp_Journal___init__)
def rs_law_6 (G_ : D → Prop) (C_Journal C_Book : Addr) (sp__law_pool sp__law_lates sp__law_names sp__law_draw sp__law_begin sp__law_entries sp__law_arrival sp__law_bad sp__law_then sp__law_at_the_end sp__law_put sp__law_heard sp_Book___init__ sp_Journal_then sp_Journal_entries sp_Journal___init__ : ASp) : AS := asSeq (asSet 6 (aDict0)) (rs_law_7 G_ C_Journal C_Book sp__law_pool sp__law_lates sp__law_names sp__law_draw sp__law_begin sp__law_entries sp__law_arrival sp__law_bad sp__law_then sp__law_at_the_end sp__law_put sp__law_heard sp_Book___init__ sp_Journal_then sp_Journal_entries sp_Journal___init__)
def rs_law_5 (G_ : D → Prop) (C_Journal C_Book : Addr) (sp__law_pool sp__law_lates sp__law_names sp__law_draw sp__law_begin sp__law_entries sp__law_arrival sp__law_bad sp__law_then sp__law_at_the_end sp__law_put sp__law_heard sp_Book___init__ sp_Journal_then sp_Journal_entries sp_Journal___init__ : ASp) : AS := asSeq (asSet 5 (aCall sp__law_begin [] (aCons (aRef 1) (aNil)))) (rs_law_6 G_ C_Journal C_Book sp__law_pool sp__law_lates sp__law_names sp__law_draw sp__law_begin sp__law_entries sp__law_arrival sp__law_bad sp__law_then sp__law_at_the_end sp__law_put sp__law_heard sp_Book___init__ sp_Journal_then sp_Journal_entries sp_Journal___init__)
def rs_law_4 (G_ : D → Prop) (C_Journal C_Book : Addr) (sp__law_pool sp__law_lates sp__law_names sp__law_draw sp__law_begin sp__law_entries sp__law_arrival sp__law_bad sp__law_then sp__law_at_the_end sp__law_put sp__law_heard sp_Book___init__ sp_Journal_then sp_Journal_entries sp_Journal___init__ : ASp) : AS := asSeq (asSet 4 (aCall sp__law_draw [] (aCons (aRef 1) (aCons (aOp aPow (aC (.int 10)) (aC (.int 6))) (aNil))))) (rs_law_5 G_ C_Journal C_Book sp__law_pool sp__law_lates sp__law_names sp__law_draw sp__law_begin sp__law_entries sp__law_arrival sp__law_bad sp__law_then sp__law_at_the_end sp__law_put sp__law_heard sp_Book___init__ sp_Journal_then sp_Journal_entries sp_Journal___init__)
def rs_law_3 (G_ : D → Prop) (C_Journal C_Book : Addr) (sp__law_pool sp__law_lates sp__law_names sp__law_draw sp__law_begin sp__law_entries sp__law_arrival sp__law_bad sp__law_then sp__law_at_the_end sp__law_put sp__law_heard sp_Book___init__ sp_Journal_then sp_Journal_entries sp_Journal___init__ : ASp) : AS := asSeq (asSet 3 (aFrz (aCall sp__law_names [] (aCons (aRef 1) (aCons (aOp aPlus (aC (.int 1)) (aCall sp__law_draw [] (aCons (aRef 1) (aCons (aC (.int 2)) (aNil))))) (aNil)))))) (rs_law_4 G_ C_Journal C_Book sp__law_pool sp__law_lates sp__law_names sp__law_draw sp__law_begin sp__law_entries sp__law_arrival sp__law_bad sp__law_then sp__law_at_the_end sp__law_put sp__law_heard sp_Book___init__ sp_Journal_then sp_Journal_entries sp_Journal___init__)
def rs_law_2 (G_ : D → Prop) (C_Journal C_Book : Addr) (sp__law_pool sp__law_lates sp__law_names sp__law_draw sp__law_begin sp__law_entries sp__law_arrival sp__law_bad sp__law_then sp__law_at_the_end sp__law_put sp__law_heard sp_Book___init__ sp_Journal_then sp_Journal_entries sp_Journal___init__ : ASp) : AS := asSeq (asSet 2 (aFrz (aCall sp__law_lates [] (aCons (aRef 1) (aNil))))) (rs_law_3 G_ C_Journal C_Book sp__law_pool sp__law_lates sp__law_names sp__law_draw sp__law_begin sp__law_entries sp__law_arrival sp__law_bad sp__law_then sp__law_at_the_end sp__law_put sp__law_heard sp_Book___init__ sp_Journal_then sp_Journal_entries sp_Journal___init__)
def as_law (G_ : D → Prop) (C_Journal C_Book : Addr) (sp__law_pool sp__law_lates sp__law_names sp__law_draw sp__law_begin sp__law_entries sp__law_arrival sp__law_bad sp__law_then sp__law_at_the_end sp__law_put sp__law_heard sp_Book___init__ sp_Journal_then sp_Journal_entries sp_Journal___init__ : ASp) : AS := asSeq (asSet 1 (aCall sp__law_pool [] (aCons (aVal 0) (aNil)))) (rs_law_2 G_ C_Journal C_Book sp__law_pool sp__law_lates sp__law_names sp__law_draw sp__law_begin sp__law_entries sp__law_arrival sp__law_bad sp__law_then sp__law_at_the_end sp__law_put sp__law_heard sp_Book___init__ sp_Journal_then sp_Journal_entries sp_Journal___init__)
theorem sc_law : FnScope ["_law_script", "_law_pool_here", "_law_lates_here", "_law_keys", "_law_number", "_law_begin_here", "_law_states", "_law_entries_here", "_law_journal", "_law_k", "_law_now", "_law_bad_here", "_law_good", "_law_entry_here", "_law_longer", "_law_arrivals", "_law_h", "_law_due", "_law_odd"] ["_law_script"] (defScope s_law) := ⟨rfl, rfl, rfl, by decide +kernel, rfl, by decide +kernel, by decide +kernel⟩
theorem wk_law {f : Addr} {fd : FuncData} {sp : ASp} {C_Journal C_Book : Addr} {sp__law_pool : ASp} (c__law_pool : Cal Pr w K mg base ("_law_pool" : Str) 1 ["_law_script"] sp__law_pool) {sp__law_lates : ASp} (c__law_lates : Cal Pr w K mg base ("_law_lates" : Str) 3 ["_law_pool_here"] sp__law_lates) {sp__law_names : ASp} (c__law_names : Cal Pr w K mg base ("_law_names" : Str) 2 ["_law_pool_here", "_law_many"] sp__law_names) {sp__law_draw : ASp} (c__law_draw : Cal Pr w K mg base ("_law_draw" : Str) 1 ["_law_pool_here", "_law_many"] sp__law_draw) {sp__law_begin : ASp} (c__law_begin : Cal Pr w K mg base ("_law_begin" : Str) 2 ["_law_pool_here"] sp__law_begin) {sp__law_entries : ASp} (c__law_entries : Cal Pr w K mg base ("_law_entries" : Str) 4 ["_law_pool_here", "_law_lates_here", "_law_keys", "_law_states", "_law_number", "_law_arrival_here", "_law_many"] sp__law_entries) {sp__law_arrival : ASp} (c__law_arrival : Cal Pr w K mg base ("_law_arrival" : Str) 1 ["_law_entry_here"] sp__law_arrival) {sp__law_bad : ASp} (c__law_bad : Cal Pr w K mg base ("_law_bad" : Str) 2 ["_law_pool_here", "_law_lates_here", "_law_states", "_law_number", "_law_now"] sp__law_bad) {sp__law_then : ASp} (c__law_then : Cal Pr w K mg base ("_law_then" : Str) 9 ["_law_journal", "_law_entry_here"] sp__law_then) {sp__law_at_the_end : ASp} (c__law_at_the_end : Cal Pr w K mg base ("_law_at_the_end" : Str) 1 ["_law_states", "_law_lates_here", "_law_now"] sp__law_at_the_end) {sp__law_put : ASp} (c__law_put : Cal Pr w K mg base ("_law_put" : Str) 1 ["_law_states", "_law_entry_here"] sp__law_put) {sp__law_heard : ASp} (c__law_heard : Cal Pr w K mg base ("_law_heard" : Str) 9 ["_law_journal", "_law_h"] sp__law_heard) {sp_Book___init__ : ASp} (mk_Book : CalK Pr w K mg base ("Book" : Str) C_Book 3 ["self", "lates"] sp_Book___init__) {sp_Journal_then : ASp} (m_Journal_then : CalM Pr w K mg base C_Journal ("then" : Str) 8 ["self", "entry"] sp_Journal_then) {sp_Journal_entries : ASp} (p_Journal_entries : CalP Pr w K mg base C_Journal ("entries" : Str) 1 sp_Journal_entries) {sp_Journal___init__ : ASp} (mkd_Journal : CalD Pr w K mg base ("Journal" : Str) C_Journal 6 ["self", "book", "entries"] sp_Journal___init__ [.tup []]) {G_ : D → Prop} (hG : ∀ d, G_ d → GOk Pr w K mg base 1 d) (cl_Journal : Cls K C_Journal) (g_min : mg ("min" : Str) = none) (g_max : mg ("max" : Str) = none) (g_len : mg ("len" : Str) = none) (g_range : mg ("range" : Str) = none) (g_list : mg ("list" : Str) = none) (F : FnP K ("law" : Str) ("law" : Str) s_law [] f fd) (hlen : ∀ xs, sp.pre xs → xs.length = 1)
    (rd : ∀ xs, sp.pre xs → as_law G_ C_Journal C_Book sp__law_pool sp__law_lates sp__law_names sp__law_draw sp__law_begin sp__law_entries sp__law_arrival sp__law_bad sp__law_then sp__law_at_the_end sp__law_put sp__law_heard sp_Book___init__ sp_Journal_then sp_Journal_entries sp_Journal___init__ (endsOf [0] sp xs) (startA 19 xs)) : Fok Pr w K mg base 10 f fd ["_law_script"] sp := by
  refine fn_mk (N := ["_law_script", "_law_pool_here", "_law_lates_here", "_law_keys", "_law_number", "_law_begin_here", "_law_states", "_law_entries_here", "_law_journal", "_law_k", "_law_now", "_law_bad_here", "_law_good", "_law_entry_here", "_law_longer", "_law_arrivals", "_law_h", "_law_due", "_law_odd"]) (k := 9) [0] F sc_law hlen (by decide) (fun cdv Ar outer s H E hr => ⟨as_law G_ C_Journal C_Book sp__law_pool sp__law_lates sp__law_names sp__law_draw sp__law_begin sp__law_entries sp__law_arrival sp__law_bad sp__law_then sp__law_at_the_end sp__law_put sp__law_heard sp_Book___init__ sp_Journal_then sp_Journal_entries sp_Journal___init__, ?_, rd⟩)
  have hx := fun σ => passAt (X := cxOf (L2.CX Pr w) Pr w K mg base ["_law_script", "_law_pool_here", "_law_lates_here", "_law_keys", "_law_number", "_law_begin_here", "_law_states", "_law_entries_here", "_law_journal", "_law_k", "_law_now", "_law_bad_here", "_law_good", "_law_entry_here", "_law_longer", "_law_arrivals", "_law_h", "_law_due", "_law_odd"] ("law" : Str) (defScope s_law) f cdv Ar outer s H E) (W := fun cls d _ H => E cls d H) (takes_of rfl rfl rfl rfl) σ
  have hp : PassesOwn _ _ _ (cxOf (L2.CX Pr w) Pr w K mg base ["_law_script", "_law_pool_here", "_law_lates_here", "_law_keys", "_law_number", "_law_begin_here", "_law_states", "_law_entries_here", "_law_journal", "_law_k", "_law_now", "_law_bad_here", "_law_good", "_law_entry_here", "_law_longer", "_law_arrivals", "_law_h", "_law_due", "_law_odd"] ("law" : Str) (defScope s_law) f cdv Ar outer s H E).xe := passes_of rfl
  have tk := takes_of (X := cxOf (L2.CX Pr w) Pr w K mg base ["_law_script", "_law_pool_here", "_law_lates_here", "_law_keys", "_law_number", "_law_begin_here", "_law_states", "_law_entries_here", "_law_journal", "_law_k", "_law_now", "_law_bad_here", "_law_good", "_law_entry_here", "_law_longer", "_law_arrivals", "_law_h", "_law_due", "_law_odd"] ("law" : Str) (defScope s_law) f cdv Ar outer s H E) rfl rfl rfl rfl
  have hu := hr.units
  have sc := sc_law
  exact (qss_cons (qs_set (i := 1) sc.nd rfl (by first | exact Or.inl rfl | exact Or.inr rfl) (qe_callC c__law_pool (hr.mono (by decide)) rfl hx (qa_cons (qv 0) qa_nil)) (show 1 ∉ ([0] : List Nat) from by decide))
    (qss_cons (qs_set (i := 2) sc.nd rfl (by first | exact Or.inl rfl | exact Or.inr rfl) (qe_frz (qe_callC c__law_lates (hr.mono (by decide)) rfl hx (qa_cons (qr 1) qa_nil))) (show 2 ∉ ([0] : List Nat) from by decide))
    (qss_cons (qs_set (i := 3) sc.nd rfl (by first | exact Or.inl rfl | exact Or.inr rfl) (qe_frz (qe_callC c__law_names (hr.mono (by decide)) rfl hx (qa_cons (qr 1) (qa_cons (qe_op op_plus s_plus qe_int (qe_callC c__law_draw (hr.mono (by decide)) rfl hx (qa_cons (qr 1) (qa_cons qe_int qa_nil)))) qa_nil)))) (show 3 ∉ ([0] : List Nat) from by decide))
    (qss_cons (qs_set (i := 4) sc.nd rfl (by first | exact Or.inl rfl | exact Or.inr rfl) (qe_callC c__law_draw (hr.mono (by decide)) rfl hx (qa_cons (qr 1) (qa_cons (qe_op op_pow s_pow qe_int qe_int) qa_nil))) (show 4 ∉ ([0] : List Nat) from by decide))
    (qss_cons (qs_set (i := 5) sc.nd rfl (by first | exact Or.inl rfl | exact Or.inr rfl) (qe_callC c__law_begin (hr.mono (by decide)) rfl hx (qa_cons (qr 1) qa_nil)) (show 5 ∉ ([0] : List Nat) from by decide))
    (qss_cons (qs_set (i := 6) sc.nd rfl (by first | exact Or.inl rfl | exact Or.inr rfl) qe_dict0 (show 6 ∉ ([0] : List Nat) from by decide))
    (qss_cons (qs_set (i := 7) sc.nd rfl (by first | exact Or.inl rfl | exact Or.inr rfl) (qe_frz (qe_callC c__law_entries (hr.mono (by decide)) rfl hx (qa_cons (qr 1) (qa_cons (qv 2) (qa_cons (qv 3) (qa_cons (qr 6) (qa_cons (qv 4) (qa_cons (qv 5) (qa_cons (qe_callB (call_min2 rfl) s_min2 rfl g_min PyProof.Rows.boot_min (qa_cons qe_int (qa_cons (qe_callB (call_max2 rfl) s_max2 rfl g_max PyProof.Rows.boot_max (qa_cons (qe_op op_plus s_plus qe_int (qe_callC c__law_draw (hr.mono (by decide)) rfl hx (qa_cons (qr 1) (qa_cons qe_int qa_nil)))) (qa_cons (qe_callB cr_len s_len rfl g_len boot_len (qa_cons (qv 0) qa_nil)) qa_nil))) qa_nil))) qa_nil))))))))) (show 7 ∉ ([0] : List Nat) from by decide))
    (qss_cons (qs_set (i := 8) sc.nd rfl (by first | exact Or.inl rfl | exact Or.inr rfl) (qe_frz (qe_makeD mkd_Journal (hr.mono (by decide)) rfl hx (qa_cons (qe_frz (qe_makeC mk_Book (hr.mono (by decide)) rfl hx (qa_cons (qv 2) qa_nil))) qa_nil))) (show 8 ∉ ([0] : List Nat) from by decide))
    (qss_cons (qs_set (i := 6) sc.nd rfl (by first | exact Or.inl rfl | exact Or.inr rfl) qe_dict0 (show 6 ∉ ([0] : List Nat) from by decide))
    (qss_cons (qs_for hp rfl (qi_range1 rfl g_range (qa_cons (qe_callB cr_len s_len rfl g_len boot_len (qa_cons (qv 7) qa_nil)) qa_nil)) (qg_name (i := 9) sc.nd rfl (by first | exact Or.inl rfl | exact Or.inr rfl) (show 9 ∉ ([0] : List Nat) from by decide)) (qss_cons (qs_set (i := 10) sc.nd rfl (by first | exact Or.inl rfl | exact Or.inr rfl) (qe_frz (qe_callC c__law_arrival (hr.mono (by decide)) rfl hx (qa_cons (qe_ix hu (qv 7) (qv 9)) qa_nil))) (show 10 ∉ ([0] : List Nat) from by decide))
    (qss_cons (qs_if (qt_cmp op_gt s_gt (qv 9) qe_int (nomark _)) (qss_cons (qs_set (i := 10) sc.nd rfl (by first | exact Or.inl rfl | exact Or.inr rfl) (qe_frz (qe_callC c__law_arrival (hr.mono (by decide)) rfl hx (qa_cons (qe_ix hu (qv 7) (qe_op op_sub s_sub (qv 9) qe_int)) qa_nil))) (show 10 ∉ ([0] : List Nat) from by decide))
    (qss_cons (qs_set (i := 11) sc.nd rfl (by first | exact Or.inl rfl | exact Or.inr rfl) (qe_frz (qe_callC c__law_bad (hr.mono (by decide)) rfl hx (qa_cons (qr 1) (qa_cons (qv 2) (qa_cons (qr 6) (qa_cons (qe_op op_plus s_plus (qe_op op_plus s_plus (qv 4) (qe_op op_mul s_mul qe_int (qe_callB cr_len s_len rfl g_len boot_len (qa_cons (qv 7) qa_nil)))) qe_int) (qa_cons (qv 10) qa_nil))))))) (show 11 ∉ ([0] : List Nat) from by decide))
    (qss_cons (qs_if (qt_cmp (or_neX hG hr) (s_neX s_ne) (qe_callC c__law_then (hr.mono (by decide)) rfl hx (qa_cons (qv 8) (qa_cons (qe_ix hu (qv 11) (qe_callC c__law_draw (hr.mono (by decide)) rfl hx (qa_cons (qr 1) (qa_cons (qe_callB cr_len s_len rfl g_len boot_len (qa_cons (qv 11) qa_nil)) qa_nil)))) qa_nil))) (qe_tup (qa_cons qe_str (qa_cons (qv 9) qa_nil))) (nomark _)) (qss_one (qs_ret qe_bl)) qss_nil)
    (qss_cons (qs_set (i := 12) sc.nd rfl (by first | exact Or.inl rfl | exact Or.inr rfl) (qe_frz (qe_callC c__law_at_the_end (hr.mono (by decide)) rfl hx (qa_cons (qr 6) (qa_cons (qv 2) (qa_cons (qv 10) qa_nil))))) (show 12 ∉ ([0] : List Nat) from by decide))
    (qss_one (qs_if (qt_cmp op_gt s_gt (qe_callB cr_len s_len rfl g_len boot_len (qa_cons (qv 12) qa_nil)) qe_int (nomark _)) (qss_cons (qs_set (i := 13) sc.nd rfl (by first | exact Or.inl rfl | exact Or.inr rfl) (qe_ix hu (qv 12) (qe_callC c__law_draw (hr.mono (by decide)) rfl hx (qa_cons (qr 1) (qa_cons (qe_callB cr_len s_len rfl g_len boot_len (qa_cons (qv 12) qa_nil)) qa_nil)))) (show 13 ∉ ([0] : List Nat) from by decide))
    (qss_one (qs_if (qt_cmp (or_neX hG hr) (s_neX s_ne) (qe_callC c__law_then (hr.mono (by decide)) rfl hx (qa_cons (qv 8) (qa_cons (qv 13) qa_nil))) (qe_tup (qa_cons qe_str (qa_cons (qe_op op_plus s_plus (qe_slice (qv 7) qo_none (qo_some (qv 9))) (qe_lst (qa_cons (qv 13) qa_nil))) qa_nil))) (nomark _)) (qss_one (qs_ret qe_bl)) qss_nil))) qss_nil)))))) qss_nil)
    (qss_cons (qs_set (i := 14) sc.nd rfl (by first | exact Or.inl rfl | exact Or.inr rfl) (qe_frz (qe_methC (qv 8) cl_Journal m_Journal_then (hr.mono (by decide)) hx (qa_cons (qe_ix hu (qv 7) (qv 9)) qa_nil))) (show 14 ∉ ([0] : List Nat) from by decide))
    (qss_cons (qs_if (qt_w (qw_or (qt_cmp (or_ne hu) s_ne (qe_callTy (cr_list rfl) s_list rfl g_list PyProof.Rows.boot_list (qa_cons (qe_prop (qv 8) cl_Journal p_Journal_entries (hr.mono (by decide))) qa_nil)) (qe_slice (qv 7) qo_none (qo_some (qv 9))) (nomark _)) (qw_or1 (qt_cmp (or_ne hu) s_ne (qe_callTy (cr_list rfl) s_list rfl g_list PyProof.Rows.boot_list (qa_cons (qe_prop (qv 14) cl_Journal p_Journal_entries (hr.mono (by decide))) qa_nil)) (qe_slice (qv 7) qo_none (qo_some (qe_op op_plus s_plus (qv 9) qe_int))) (nomark _))))) (qss_one (qs_ret qe_bl)) qss_nil)
    (qss_cons (qs_set (i := 8) sc.nd rfl (by first | exact Or.inl rfl | exact Or.inr rfl) (qv 14) (show 8 ∉ ([0] : List Nat) from by decide))
    (qss_one (qs_expr (qe_callC c__law_put (hr.mono (by decide)) rfl hx (qa_cons (qr 6) (qa_cons (qe_ix hu (qv 7) (qv 9)) qa_nil)))))))))))
    (qss_cons (qs_forgetA [13] (qs_setLc [(("_law_entry_here" : Str), 13)] rfl sc.nd (i := 15) rfl rfl (show 15 ∉ ([0] : List Nat) from by decide) (sw_true rfl rfl rfl rfl) (show BlkOk ["_law_script", "_law_pool_here", "_law_lates_here", "_law_keys", "_law_number", "_law_begin_here", "_law_states", "_law_entries_here", "_law_journal", "_law_k", "_law_now", "_law_bad_here", "_law_good", "_law_entry_here", "_law_longer", "_law_arrivals", "_law_h", "_law_due", "_law_odd"] (defScope s_law) _ [(("_law_entry_here" : Str), 13)] from blkOk_by (by decide +kernel)) (qi_seq (qv 7)) (fun _ _ _ _ _ => (qg_name (i := 13) sc.nd rfl (by first | exact Or.inl rfl | exact Or.inr rfl) (show 13 ∉ ([0] : List Nat) from by decide))) (fun _ _ _ _ _ => qts_nil) (fun _ _ _ _ _ => (qe_callC c__law_arrival (hr.mono (by decide)) rfl passF (qa_cons (qv 13) qa_nil))) (show ∀ v ∈ ([13] : List Nat), v ∉ ([0] : List Nat) from by decide) (show ∀ i ∈ ([13] : List Nat), i ∈ ([13] : List Nat) from by decide)))
    (qss_cons (qs_for hp rfl (qi_seq (qe_lst (qa_cons (qe_op op_sub s_sub (qe_ix hu (qv 15) (qe_callC c__law_draw (hr.mono (by decide)) rfl hx (qa_cons (qr 1) (qa_cons (qe_callB cr_len s_len rfl g_len boot_len (qa_cons (qv 15) qa_nil)) qa_nil)))) (qe_callC c__law_draw (hr.mono (by decide)) rfl hx (qa_cons (qr 1) (qa_cons qe_int qa_nil)))) (qa_cons (qe_op op_sub s_sub (qe_callB (cr_min rfl) s_minL rfl g_min PyProof.Rows.boot_min (qa_cons (qv 15) qa_nil)) qe_int) (qa_cons (qe_callB (cr_max rfl) s_maxL rfl g_max PyProof.Rows.boot_max (qa_cons (qv 15) qa_nil)) qa_nil))))) (qg_name (i := 16) sc.nd rfl (by first | exact Or.inl rfl | exact Or.inr rfl) (show 16 ∉ ([0] : List Nat) from by decide)) (qss_cons (qs_forgetA [13] (qs_setLc [(("_law_entry_here" : Str), 13)] rfl sc.nd (i := 17) rfl rfl (show 17 ∉ ([0] : List Nat) from by decide) (sw_true rfl rfl rfl rfl) (show BlkOk ["_law_script", "_law_pool_here", "_law_lates_here", "_law_keys", "_law_number", "_law_begin_here", "_law_states", "_law_entries_here", "_law_journal", "_law_k", "_law_now", "_law_bad_here", "_law_good", "_law_entry_here", "_law_longer", "_law_arrivals", "_law_h", "_law_due", "_law_odd"] (defScope s_law) _ [(("_law_entry_here" : Str), 13)] from blkOk_by (by decide +kernel)) (qi_seq (qv 7)) (fun _ _ _ _ _ => (qg_name (i := 13) sc.nd rfl (by first | exact Or.inl rfl | exact Or.inr rfl) (show 13 ∉ ([0] : List Nat) from by decide))) (fun _ _ _ _ _ => (qts_one (qt_cmp op_le s_le (qe_callC c__law_arrival (hr.mono (by decide)) rfl passF (qa_cons (qv 13) qa_nil)) (qv 16) (nomark _)))) (fun _ _ _ _ _ => (qv 13)) (show ∀ v ∈ ([13] : List Nat), v ∉ ([0] : List Nat) from by decide) (show ∀ i ∈ ([13] : List Nat), i ∈ ([13] : List Nat) from by decide)))
    (qss_one (qs_if (qt_w (qw_or (qt_cmp (or_neX hG hr) (s_neX s_ne) (qe_callC c__law_heard (hr.mono (by decide)) rfl hx (qa_cons (qv 8) (qa_cons (qv 16) qa_nil))) (qe_tup (qa_cons qe_str (qa_cons (qv 17) qa_nil))) (nomark _)) (qw_or1 (qt_cmp (or_neX hG hr) (s_neX s_ne) (qe_callC c__law_heard (hr.mono (by decide)) rfl hx (qa_cons (qv 8) (qa_cons (qv 16) qa_nil))) (qe_tup (qa_cons qe_str (qa_cons (qv 17) qa_nil))) (nomark _))))) (qss_one (qs_ret qe_bl)) qss_nil))))
    (qss_cons (qs_set (i := 18) sc.nd rfl (by first | exact Or.inl rfl | exact Or.inr rfl) (qe_ix hu (qe_lst (qa_cons qe_non (qa_cons qe_bl (qa_cons qe_bl (qa_cons qe_str (qa_cons qe_str (qa_cons (qe_tup qa_nil) (qa_cons (qe_tup (qa_cons qe_int qa_nil)) (qa_cons (qe_lst (qa_cons qe_int qa_nil)) (qa_cons qe_dict0 (qa_cons (qe_makeC mk_Book (hr.mono (by decide)) rfl hx (qa_cons (qv 2) qa_nil)) qa_nil))))))))))) (qe_callC c__law_draw (hr.mono (by decide)) rfl hx (qa_cons (qr 1) (qa_cons qe_int qa_nil)))) (show 18 ∉ ([0] : List Nat) from by decide))
    (qss_cons (qs_if (qt_w (qw_or (qt_cmp (or_neX hG hr) (s_neX s_ne) (qe_callC c__law_heard (hr.mono (by decide)) rfl hx (qa_cons (qv 8) (qa_cons (qv 18) qa_nil))) (qe_tup (qa_cons qe_str (qa_cons (qv 18) qa_nil))) (nomark _)) (qw_or1 (qt_cmp (or_neX hG hr) (s_neX s_ne) (qe_callC c__law_then (hr.mono (by decide)) rfl hx (qa_cons (qv 8) (qa_cons (qv 18) qa_nil))) (qe_tup (qa_cons qe_str (qa_cons (qe_callB cr_len s_len rfl g_len boot_len (qa_cons (qv 7) qa_nil)) qa_nil))) (nomark _))))) (qss_one (qs_ret qe_bl)) qss_nil)
    (qss_one (qs_ret (qe_cmp (or_eq hu) s_eq (qe_callTy (cr_list rfl) s_list rfl g_list PyProof.Rows.boot_list (qa_cons (qe_prop (qv 8) cl_Journal p_Journal_entries (hr.mono (by decide))) qa_nil)) (qv 7) (nomark _))))))))))))))))))
end
end Law

set_option Elab.async false
set_option linter.all false
set_option maxRecDepth 100000
set_option maxHeartbeats 1000000
namespace Law
open PySem PySem.Spec PyProof.Rows L2 Vs
set_option hygiene false in
local macro_rules | `(tactic| walk_at "vs1") => `(tactic| (first|((with_reducible first|apply i_seq|apply i_next|apply i_expr|apply i_ret|apply i_retN|apply i_if|apply i_break|apply i_cont|apply i_set|apply i_putX|apply i_for|apply i_retv|apply i_retl|apply i_retd|apply i_reto|apply i_setv|apply i_setl|apply i_setd|apply i_seto|apply i_usev|apply i_usel|apply i_used|apply i_useo|apply i_uses0|apply i_uses1|apply i_c|apply i_op|apply i_un|apply i_test|apply i_tand|apply i_tor|apply i_tnot|apply i_and|apply i_or|apply i_not|apply i_ifx|apply i_chain|apply i_chnK|apply i_nil|apply i_cons|apply i_tup|apply i_lst|apply i_dict0|apply i_cb|apply i_frz|apply i_addi|apply i_adds|apply i_addt|apply i_addl|apply i_raise|apply i_forget|apply i_lc|apply i_dc|apply i_agName|apply i_yes|apply i_aiSeqV|apply i_append|apply i_meth0|apply i_make0|apply i_slice|apply i_aoNone|apply i_aoSome|apply i_agCons|apply i_agNil|apply i_asFld|apply i_get1|apply i_call0))|((with_reducible apply i_putK);rfl;(first|exact datV|exact datIv rfl|exact datL|exact datIl rfl|exact datD|exact datId rfl|exact datO|exact datIo rfl);(first|assumption|rfl))|((with_reducible first|apply i_reti|apply i_val|apply i_ref|apply i_appK|apply i_agTup);rfl)|((with_reducible first|apply i_isB|apply i_neg|apply i_int|apply i_isL|apply i_isI|apply i_isDc);(first|exact datV|exact datIv rfl|exact datL|exact datIl rfl|exact datD|exact datId rfl|exact datO|exact datIo rfl))|((with_reducible apply i_ix);(first|exact datV|exact datIv rfl|exact datL|exact datIl rfl|exact datD|exact datId rfl|exact datO|exact datIo rfl);(first|exact datV|exact datIv rfl|exact datL|exact datIl rfl|exact datD|exact datId rfl|exact datO|exact datIo rfl);(first|assumption|rfl))|((with_reducible first|apply i_plus|apply i_sub|apply i_lt|apply i_le|apply i_gt|apply i_ge|apply i_mul|apply i_mod|apply i_pow|apply i_div|apply i_eq|apply i_ne|apply i_is|apply i_isnot|apply i_max|apply i_min);(first|exact datV|exact datIv rfl|exact datL|exact datIl rfl|exact datD|exact datId rfl|exact datO|exact datIo rfl);(first|exact datV|exact datIv rfl|exact datL|exact datIl rfl|exact datD|exact datId rfl|exact datO|exact datIo rfl))|((with_reducible apply i_isi);(first|exact datV|exact datIv rfl|exact datL|exact datIl rfl|exact datD|exact datId rfl|exact datO|exact datIo rfl);(first|exact isi1 (by first|assumption|rfl) (by decide)|exact isi_lt (by first|assumption|rfl)|exact isi_own (by assumption) (by assumption)))|((with_reducible apply i_fldV);rfl;rfl)|((with_reducible first|apply i_len|apply i_list);(first|exact datV|exact datIv rfl|exact datL|exact datIl rfl|exact datD|exact datId rfl|exact datO|exact datIo rfl);(first|assumption|rfl))|((with_reducible apply i_objK);(first|exact datV|exact datIv rfl|exact datL|exact datIl rfl|exact datD|exact datId rfl|exact datO|exact datIo rfl);rfl)|((with_reducible apply i_fldK);rfl;(first|exact fs_nil|exact fs_one);exact Nat.le_of_ble_eq_true rfl)|((with_reducible apply i_getK);(first|exact datV|exact datIv rfl|exact datL|exact datIl rfl|exact datD|exact datId rfl|exact datO|exact datIo rfl);(first|exact datV|exact datIv rfl|exact datL|exact datIl rfl|exact datD|exact datId rfl|exact datO|exact datIo rfl);rfl;(first|assumption|rfl))|((with_reducible apply i_inD);(first|exact datV|exact datIv rfl|exact datL|exact datIl rfl|exact datD|exact datId rfl|exact datO|exact datIo rfl);(first|exact datV|exact datIv rfl|exact datL|exact datIl rfl|exact datD|exact datId rfl|exact datO|exact datIo rfl);rfl)|((with_reducible apply i_useiv);rfl)|((with_reducible apply i_useil);rfl)|((with_reducible apply i_useid);rfl)|((with_reducible apply i_tuplel);(first|exact datV|exact datIv rfl|exact datL|exact datIl rfl|exact datD|exact datId rfl|exact datO|exact datIo rfl))|((with_reducible apply i_tuplet);(first|exact datV|exact datIv rfl|exact datL|exact datIl rfl|exact datD|exact datId rfl|exact datO|exact datIo rfl))|((with_reducible apply i_slcT);(first|exact datV|exact datIv rfl|exact datL|exact datIl rfl|exact datD|exact datId rfl|exact datO|exact datIo rfl))|((with_reducible apply i_slcL);(first|exact datV|exact datIv rfl|exact datL|exact datIl rfl|exact datD|exact datId rfl|exact datO|exact datIo rfl))|((with_reducible apply i_ninD);(first|exact datV|exact datIv rfl|exact datL|exact datIl rfl|exact datD|exact datId rfl|exact datO|exact datIo rfl);(first|exact datV|exact datIv rfl|exact datL|exact datIl rfl|exact datD|exact datId rfl|exact datO|exact datIo rfl);rfl)|((with_reducible apply i_sz);exact Nat.le_of_ble_eq_true rfl)|exact pl_int|exact pl_str|exact pl_bl|exact pl_non|exact lenA_l|exact cpow_h (by unfold CPow; decide)|exact cmul_h (by unfold CMul; first|decide|omega)|((with_reducible first|apply lenA_h|apply plD_h);assumption)|(with_reducible first|apply i_itet|apply i_itef)|((with_reducible refine i_itepB ?_ ?_);(first|assumption|rfl))|((with_reducible refine i_itenB ?_ ?_);(first|assumption|rfl))|((with_reducible apply i_ite)<;>intro hif)))
section
variable {EA : AX} {ρ ρ' : AEnv} {Q : AK} {K : Fg} {CB : Addr}
theorem ne_in {xs : List D} {x : D} {P : D → Prop} (h : ∀ y ∈ xs, P y) (m : x ∈ xs) : P x := h x m
/-- an own class is no built-in one -/
theorem isi_ownT {C : Addr} {fs : List (Str × D)} {u : String} {b : Bool} (c : ClsI K C) (h : PySem.W.kitOne K (.ref C) (.type u) = some b) : isiR K (.obj C fs) [.type u] b := by
  refine ⟨.ref C, rfl, fun C' fs' e => ?_, ?_⟩
  · cases e
    exact c
  · exact kitAny_cons h (fun z => by rw [z]; exact kitAny_nil) fun z => z
theorem none1 {i : Nat} {ρ : AEnv} (h : ρ[i]? = some none) : NoneAt [i] ρ := fun v hv => by
  have e : v = i := by simpa using hv
  subst e
  exact h
theorem fin_eq {α : Type} {a b : α} (h : a = b) : a = b := h
def isIntD : D → Bool
  | .int _ => true
  | _ => false
def oneV (d : D) : List A := [.v d]
theorem oneV_inj {P : D → Prop} : ∀ i j, P i → P j → oneV i = oneV j → i = j := fun i j _ _ h => by
  simp only [oneV, List.cons.injEq, A.v.injEq, and_true] at h
  exact h
def okT (d : D) : Prop := (tyN d).isSome = true
def okI (CB : Addr) (d : D) : Prop := (tyN d).isSome = true ∨ ∃ fs, d = .obj CB fs
def spIsInt (CB : Addr) : ASp := spI oneV (okI CB) (fun d => .rt (.v (.bl (isIntD d)))) oneV
theorem k_is_integer {d : D} (h : (tyN d).isSome = true) (k : Q (.v (.bl (isIntD d))) ρ) : callA (spIsInt CB) [.v d] EA ρ Q := i_callI d rfl (.inl h) rfl k
theorem k_is_integerX {d : D} (h : okI CB d) (k : Q (.v (.bl (isIntD d))) ρ) : callA (spIsInt CB) [.v d] EA ρ Q := i_callI d rfl h rfl k
theorem rd_is_integer (ci : ClsI K CB) (ki : PySem.W.kitOne K (.ref CB) (.type "int") = some false) : ∀ xs, (spIsInt CB).pre xs → as_is_integer K (endsOf [0] (spIsInt CB) xs) (startA 1 xs) := rd_I oneV_inj fun d hd DA hR hN hX => by
  show as_is_integer K _ [some (.v d)]
  unfold as_is_integer
  rcases hd with hd' | ⟨fs, rfl⟩
  · (repeat' walk_at "vs1")
    all_goals (refine hR _ _ rfl (congrArg (fun b => RX.rt (.v (.bl b))) ?_); cases d <;> first | (cases hd'; done) | rfl | (simp only [isiF] at hif; exact absurd hif (by decide)))
  · have hi : isiR K (.obj CB fs) [.type "int"] false := isi_ownT ci ki
    refine i_ret (i_and (i_un (i_val rfl (i_isi datV hi (i_isB datV ?_)))))
    (repeat' walk_at "vs1")
    exact hR _ _ rfl rfl
abbrev I3 := Int × Int × Int
def argsT (i : I3) : List A := [.v (.int i.1), .v (.int i.2.1), .v (.int i.2.2)]
def spInTime : ASp := spI argsT (fun _ => True) (fun i => .rt (.v (.bl (inT i.1 i.2.1 i.2.2)))) argsT
theorem k_in_time {m t l : Int} (k : Q (.v (.bl (inT m t l))) ρ) : callA spInTime [.v (.int m), .v (.int t), .v (.int l)] EA ρ Q := i_callI (m, t, l) rfl trivial rfl k
theorem rd_in_time : ∀ xs, spInTime.pre xs → as_in_time (endsOf [0, 1, 2] spInTime xs) (startA 3 xs) := rd_I (fun i j _ _ h => by
    obtain ⟨a, b, c⟩ := i
    obtain ⟨a', b', c'⟩ := j
    simp only [argsT, List.cons.injEq, A.v.injEq, D.int.injEq, and_true] at h
    simp [h]) fun i _ DA hR hN hX => by
  obtain ⟨m, a, l⟩ := i
  show as_in_time _ [some (.v (.int m)), some (.v (.int a)), some (.v (.int l))]
  unfold as_in_time
  (repeat' walk_at "vs1")
  · refine hR _ _ rfl ?_
    simp [inT, hif]
  · refine hR _ _ rfl ?_
    simp [inT] at hif ⊢
    intro h
    omega
def isRowD (d : D) : Bool := isiF d "list" || isiF d "tuple"
def spIsRow : ASp := spI oneV okT (fun d => .rt (.v (.bl (isRowD d)))) oneV
theorem k_is_row {d : D} (h : (tyN d).isSome = true) (k : Q (.v (.bl (isRowD d))) ρ) : callA spIsRow [.v d] EA ρ Q := i_callI d rfl h rfl k
theorem rd_is_row : ∀ xs, spIsRow.pre xs → as_is_row K (endsOf [0] spIsRow xs) (startA 1 xs) := rd_I oneV_inj fun d hd DA hR hN hX => by
  have hd' : (tyN d).isSome = true := hd
  show as_is_row K _ [some (.v d)]
  unfold as_is_row
  (repeat' walk_at "vs1")
  exact hR _ _ rfl rfl
def oneT (ys : List D) : List A := [.v (.tup ys)]
def spAreInts : ASp := spI oneT (fun ys => ys.length ≤ 1000 ∧ ∀ y ∈ ys, (tyN y).isSome = true) (fun ys => .rt (.v (.bl (ys.all isIntD)))) oneT
theorem k_are_integers {ys : List D} (h1 : ys.length ≤ 1000) (h2 : ∀ y ∈ ys, (tyN y).isSome = true) (k : Q (.v (.bl (ys.all isIntD))) ρ) : callA spAreInts [.v (.tup ys)] EA ρ Q := i_callI ys rfl ⟨h1, h2⟩ rfl k
theorem rd_are_integers : ∀ xs, spAreInts.pre xs → as_are_integers (spIsInt CB) (endsOf [0] spAreInts xs) (startA 2 xs) := rd_I (fun i j _ _ h => by
    simp only [oneT, List.cons.injEq, A.v.injEq, D.tup.injEq, and_true] at h
    exact h) fun ys ⟨hl, hy⟩ DA hR hN hX => by
  show as_are_integers _ _ [some (.v (.tup ys)), none]
  unfold as_are_integers
  (repeat' walk_at "vs1")
  refine ⟨ys, rfl, none1 rfl, lc_filt (fun _ => true) (fun z => .bl (isIntD z)) trivial (by omega) (fun x hx R N hR' hN' => ?_) ?_⟩
  · have hx' : (tyN x).isSome = true := hy x hx
    (repeat' first|((with_reducible apply k_is_integer);(first|assumption|rfl))|walk_at "vs1")
    exact hR' _ rfl rfl
  · rw [filter_yes]
    (repeat' walk_at "vs1")
    refine i_all (bs := ys.map isIntD) ?_ ?_
    · show some (D.lst (ys.map fun z => .bl (isIntD z))) = _
      rw [List.map_map]
      rfl
    · (repeat' walk_at "vs1")
      exact hR _ _ rfl (by simp [List.all_map, Function.comp_def])
def isNameD : D → Bool
  | .str x => nameS x
  | _ => false
def okN (d : D) : Prop := (tyN d).isSome = true ∧ ∀ x, d = .str x → x.length ≤ 100000
def spIsName : ASp := spI oneV okN (fun d => .rt (.v (.bl (isNameD d)))) oneV
theorem k_is_name {x : Str} (h : x.length ≤ 100000) (k : Q (.v (.bl (nameS x))) ρ) : callA spIsName [.v (.str x)] EA ρ Q := i_callI (.str x) rfl ⟨rfl, fun _ e => by cases e; exact h⟩ rfl k
theorem rd_is_name : ∀ xs, spIsName.pre xs → as_is_name K (endsOf [0] spIsName xs) (startA 2 xs) := rd_I oneV_inj fun d ⟨hd, hs⟩ DA hR hN hX => by
  show as_is_name K _ [some (.v d), none]
  unfold as_is_name
  cases d with
  | str x =>
    have hl : x.length ≤ 100000 := hs x rfl
    have hln : lenD (.str x) = some x.length := by simp only [lenD, if_pos hl]
    (repeat' walk_at "vs1")
    · refine hR _ _ rfl ?_
      simp [isNameD, nameS] at hif ⊢
      simp_all
      omega
    · show rs_is_name_2 K _ _
      unfold rs_is_name_2
      (repeat' walk_at "vs1")
      refine ⟨chrs x, rfl, none1 rfl, lc_filt (fun _ => true) (fun z => .bl (match z with
        | .str y => y.cps.toList.all fun c => decide (c ∈ lets.cps.toList)
        | _ => false)) trivial (by simpa [chrs, Str.length] using hl) (fun z hz R N hR' hN' => ?_) ?_⟩
      · obtain ⟨c, hc, rfl⟩ := List.mem_map.mp hz
        (repeat' walk_at "vs1")
        refine i_inS datV datV ?_
        (repeat' walk_at "vs1")
        have e2 : (D.bl (decide (c ∈ (Str.ofString "abcdefghijklmnopqrstuvwxyz").cps.toList))) = D.bl ((⟨#[c]⟩ : Str).cps.toList.all fun c => decide (c ∈ lets.cps.toList)) := by simp [lets]
        rw [e2]
        exact hR' _ rfl rfl
      · rw [filter_yes]
        (repeat' walk_at "vs1")
        refine i_all (bs := x.cps.toList.map fun c => decide (c ∈ lets.cps.toList)) ?_ ?_
        · simp [chrs, dat, Function.comp_def, A.toD]
        · (repeat' walk_at "vs1")
          refine hR _ _ rfl ?_
          rename_i hif1
          simp at hif hif1
          have a1 : 1 ≤ x.length := by omega
          have a2 : x.length ≤ 8 := by omega
          simp [isNameD, nameS, a1, a2]
    · refine hR _ _ rfl ?_
      simp at hif
      have a1 : ¬1 ≤ x.length := by omega
      simp only [isNameD, nameS, a1, decide_false, Bool.false_and]
  | ty n => cases hd
  | obj C fs => cases hd
  | _ =>
    (repeat' walk_at "vs1")
    exact hR _ _ rfl rfl
/-! books -/
def okS (x : Str) : Prop := x.length ≤ 100000
theorem nameS_le {x : Str} (h : nameS x = true) : x.length ≤ 8 := by
  simp only [nameS, Bool.and_eq_true, decide_eq_true_eq] at h
  exact h.1.2
theorem nameS_ok {x : Str} (h : nameS x = true) : x.length ≤ 100000 := by have := nameS_le h; omega
def oneS (x : Str) : List A := [.v (.str x)]
theorem oneS_inj {P : Str → Prop} : ∀ i j, P i → P j → oneS i = oneS j → i = j := fun i j _ _ h => by
  simp only [oneS, List.cons.injEq, A.v.injEq, D.str.injEq, and_true] at h
  exact h
def oneI (x : Int) : List A := [.v (.int x)]
theorem oneI_inj {P : Int → Prop} : ∀ i j, P i → P j → oneI i = oneI j → i = j := fun i j _ _ h => by
  simp only [oneI, List.cons.injEq, A.v.injEq, D.int.injEq, and_true] at h
  exact h
def spCheckMoment (CB CM : Addr) : ASp := spI oneV (okI CB) (fun d => if isIntD d = true then .rt (.v .non) else .xc CM [("value", d)]) oneV
theorem k_check_moment {CM : Addr} {x : Int} (k : Q (.v .non) ρ) : callA (spCheckMoment CB CM) [.v (.int x)] EA ρ Q := i_callI (.int x) rfl (.inl rfl) rfl k
theorem k_check_momentX {CM : Addr} {d : D} (h : okI CB d) (hd : isIntD d = false) (k : EA CM [("value", d)] ρ) : callA (spCheckMoment CB CM) [.v d] EA ρ Q := i_callX d rfl h (if_neg (by rw [hd]; exact Bool.false_ne_true)) k
theorem rd_check_moment {CM : Addr} : ∀ xs, (spCheckMoment CB CM).pre xs → as_check_moment CM (spIsInt CB) (endsOf [0] (spCheckMoment CB CM) xs) (startA 1 xs) := rd_I oneV_inj fun d hd DA hR hN hX => by
  show as_check_moment CM _ _ [some (.v d)]
  unfold as_check_moment
  cases hi : isIntD d with
  | true =>
    refine i_if (i_tnot (i_test (i_call0 ?_)))
    (repeat' walk_at "vs1")
    refine k_is_integerX hd ?_
    rw [hi]
    (repeat' walk_at "vs1")
    exact hN _ rfl (if_pos hi)
  | false =>
    refine i_if (i_tnot (i_test (i_call0 ?_)))
    (repeat' walk_at "vs1")
    refine k_is_integerX hd ?_
    rw [hi]
    (repeat' walk_at "vs1")
    exact hX _ _ _ rfl (if_neg (by rw [hi]; exact Bool.false_ne_true))
def oneL (l : Lat) : List A := [.v (.dic (latK l))]
def spAreLates : ASp := spI oneL LatOk (fun _ => .rt (.v (.bl true))) oneL
theorem k_are_lates {l : Lat} (h : LatOk l) (k : Q (.v (.bl true)) ρ) : callA spAreLates [.v (.dic (latK l))] EA ρ Q := i_callI l rfl h rfl k
theorem rd_are_lates : ∀ xs, spAreLates.pre xs → as_are_lates K spIsName (spIsInt CB) (endsOf [0] spAreLates xs) (startA 3 xs) := rd_I (fun i j _ _ h => by
    simp only [oneL, List.cons.injEq, A.v.injEq, D.dic.injEq, and_true] at h
    exact latK_inj h) fun l hl DA hR hN hX => by
  show as_are_lates K _ _ _ [some (.v (.dic (latK l))), none, none]
  unfold as_are_lates rs_are_lates_2 rs_are_lates_3
  have hlo := hl.lo
  have hhi := hl.hi
  (repeat' walk_at "vs1")
  · simp [latK] at hif
    omega
  · refine i_forItems rfl (for_rec (fun xs ρ => ∃ (m : Lat) (o1 o2 : Option A), xs = (latK m).map Vs.pairD ∧ (∀ p ∈ m, p ∈ l) ∧ ρ = [some (.v (.dic (latK l))), o1, o2]) ?_ ?_ _ _ ⟨l, none, none, rfl, fun _ h => h, rfl⟩)
    · rintro ρ ⟨m, o1, o2, e, hm, rfl⟩
      refine ⟨trivial, ?_⟩
      (repeat' walk_at "vs1")
      exact hR _ _ rfl rfl
    · rintro x xs ρ ⟨m, o1, o2, e, hm, rfl⟩ ih
      cases m with
      | nil => cases e
      | cons p m =>
        obtain ⟨s, x⟩ := p
        cases e
        have hs := hl.nm _ (hm _ (List.mem_cons_self ..))
        have hx := hl.z _ (hm _ (List.mem_cons_self ..))
        have hs2 := nameS_ok hs
        refine ⟨trivial, ?_⟩
        show agTup 2 _ (.tup [.str s, .int x]) _ _
        unfold bd_are_lates_1
        have d1 : decide ((0 : Int) ≤ x) = true := decide_eq_true hx.1
        have d2 : decide (x ≤ (1000000 : Int)) = true := decide_eq_true hx.2
        (repeat' first|((with_reducible apply k_is_name);(first|assumption|rfl))|((with_reducible apply k_is_integer);(first|assumption|rfl))|walk_at "vs1")
        · simp_all
        · simp_all
        · exact ih _ ⟨m, _, _, rfl, fun p hp => hm p (List.mem_cons_of_mem _ hp), rfl⟩
  · simp [latK] at hif
    omega
end
end Law

set_option Elab.async false
set_option linter.all false
set_option maxRecDepth 100000
set_option maxHeartbeats 1000000
namespace Law
open PySem PySem.Spec PyProof.Rows L2 Vs
set_option hygiene false in
local macro_rules | `(tactic| walk_at "vs1") => `(tactic| (first|((with_reducible first|apply i_seq|apply i_next|apply i_expr|apply i_ret|apply i_retN|apply i_if|apply i_break|apply i_cont|apply i_set|apply i_putX|apply i_for|apply i_retv|apply i_retl|apply i_retd|apply i_reto|apply i_setv|apply i_setl|apply i_setd|apply i_seto|apply i_usev|apply i_usel|apply i_used|apply i_useo|apply i_uses0|apply i_uses1|apply i_c|apply i_op|apply i_un|apply i_test|apply i_tand|apply i_tor|apply i_tnot|apply i_and|apply i_or|apply i_not|apply i_ifx|apply i_chain|apply i_chnK|apply i_nil|apply i_cons|apply i_tup|apply i_lst|apply i_dict0|apply i_cb|apply i_frz|apply i_addi|apply i_adds|apply i_addt|apply i_addl|apply i_raise|apply i_forget|apply i_lc|apply i_dc|apply i_agName|apply i_yes|apply i_aiSeqV|apply i_append|apply i_meth0|apply i_make0|apply i_slice|apply i_aoNone|apply i_aoSome|apply i_agCons|apply i_agNil|apply i_asFld|apply i_get1|apply i_call0))|((with_reducible apply i_putK);rfl;(first|exact datV|exact datIv rfl|exact datL|exact datIl rfl|exact datD|exact datId rfl|exact datO|exact datIo rfl);(first|assumption|rfl))|((with_reducible first|apply i_reti|apply i_val|apply i_ref|apply i_appK|apply i_agTup);rfl)|((with_reducible first|apply i_isB|apply i_neg|apply i_int|apply i_isL|apply i_isI|apply i_isDc);(first|exact datV|exact datIv rfl|exact datL|exact datIl rfl|exact datD|exact datId rfl|exact datO|exact datIo rfl))|((with_reducible apply i_ix);(first|exact datV|exact datIv rfl|exact datL|exact datIl rfl|exact datD|exact datId rfl|exact datO|exact datIo rfl);(first|exact datV|exact datIv rfl|exact datL|exact datIl rfl|exact datD|exact datId rfl|exact datO|exact datIo rfl);(first|assumption|rfl))|((with_reducible first|apply i_plus|apply i_sub|apply i_lt|apply i_le|apply i_gt|apply i_ge|apply i_mul|apply i_mod|apply i_pow|apply i_div|apply i_eq|apply i_ne|apply i_is|apply i_isnot|apply i_max|apply i_min);(first|exact datV|exact datIv rfl|exact datL|exact datIl rfl|exact datD|exact datId rfl|exact datO|exact datIo rfl);(first|exact datV|exact datIv rfl|exact datL|exact datIl rfl|exact datD|exact datId rfl|exact datO|exact datIo rfl))|((with_reducible apply i_isi);(first|exact datV|exact datIv rfl|exact datL|exact datIl rfl|exact datD|exact datId rfl|exact datO|exact datIo rfl);(first|exact isi1 (by first|assumption|rfl) (by decide)|exact isi_lt (by first|assumption|rfl)|exact isi_own (by assumption) (by assumption)))|((with_reducible apply i_fldV);rfl;rfl)|((with_reducible first|apply i_len|apply i_list);(first|exact datV|exact datIv rfl|exact datL|exact datIl rfl|exact datD|exact datId rfl|exact datO|exact datIo rfl);(first|assumption|rfl))|((with_reducible apply i_objK);(first|exact datV|exact datIv rfl|exact datL|exact datIl rfl|exact datD|exact datId rfl|exact datO|exact datIo rfl);rfl)|((with_reducible apply i_fldK);rfl;(first|exact fs_nil|exact fs_one);exact Nat.le_of_ble_eq_true rfl)|((with_reducible apply i_getK);(first|exact datV|exact datIv rfl|exact datL|exact datIl rfl|exact datD|exact datId rfl|exact datO|exact datIo rfl);(first|exact datV|exact datIv rfl|exact datL|exact datIl rfl|exact datD|exact datId rfl|exact datO|exact datIo rfl);rfl;(first|assumption|rfl))|((with_reducible apply i_inD);(first|exact datV|exact datIv rfl|exact datL|exact datIl rfl|exact datD|exact datId rfl|exact datO|exact datIo rfl);(first|exact datV|exact datIv rfl|exact datL|exact datIl rfl|exact datD|exact datId rfl|exact datO|exact datIo rfl);rfl)|((with_reducible apply i_useiv);rfl)|((with_reducible apply i_useil);rfl)|((with_reducible apply i_useid);rfl)|((with_reducible apply i_tuplel);(first|exact datV|exact datIv rfl|exact datL|exact datIl rfl|exact datD|exact datId rfl|exact datO|exact datIo rfl))|((with_reducible apply i_tuplet);(first|exact datV|exact datIv rfl|exact datL|exact datIl rfl|exact datD|exact datId rfl|exact datO|exact datIo rfl))|((with_reducible apply i_slcT);(first|exact datV|exact datIv rfl|exact datL|exact datIl rfl|exact datD|exact datId rfl|exact datO|exact datIo rfl))|((with_reducible apply i_slcL);(first|exact datV|exact datIv rfl|exact datL|exact datIl rfl|exact datD|exact datId rfl|exact datO|exact datIo rfl))|((with_reducible apply i_ninD);(first|exact datV|exact datIv rfl|exact datL|exact datIl rfl|exact datD|exact datId rfl|exact datO|exact datIo rfl);(first|exact datV|exact datIv rfl|exact datL|exact datIl rfl|exact datD|exact datId rfl|exact datO|exact datIo rfl);rfl)|((with_reducible apply i_sz);exact Nat.le_of_ble_eq_true rfl)|exact pl_int|exact pl_str|exact pl_bl|exact pl_non|exact lenA_l|exact cpow_h (by unfold CPow; decide)|exact cmul_h (by unfold CMul; first|decide|omega)|((with_reducible first|apply lenA_h|apply plD_h);assumption)|(with_reducible first|apply i_itet|apply i_itef)|((with_reducible refine i_itepB ?_ ?_);(first|assumption|rfl))|((with_reducible refine i_itenB ?_ ?_);(first|assumption|rfl))|((with_reducible apply i_ite)<;>intro hif)))
section
variable {EA : AX} {ρ ρ' : AEnv} {Q : AK} {K : Fg} {CB CJ CN CBB CBE : Addr}
def bookD (CB : Addr) (l : Lat) : D := .obj CB [("_lates", .dic (latK l))]
theorem bookD_inj {l m : Lat} (h : bookD CB l = bookD CB m) : l = m := by
  simp only [bookD, D.obj.injEq, List.cons.injEq, Prod.mk.injEq, D.dic.injEq, true_and, and_true] at h
  exact latK_inj h
/-! Book.__init__ -/
def biArgs (CB : Addr) (l : Lat) : List A := [.obj CB [], .v (.dic (latK l))]
def spBookInit (CB : Addr) : ASp := spR (biArgs CB) LatOk (fun l r xs' => ∃ m : Lat, m.Perm l ∧ sortedS (m.map (·.1)) = true ∧ r = .v .non ∧ xs' = [.obj CB [("_lates", .v (.dic (latK m)))], .v (.dic (latK l))]) (fun _ _ _ _ => False)
theorem putD_new {kvs : List (Key × D)} {k : Key} {d : D} (h : k ∉ kvs.map (·.1)) : putD kvs k d = kvs ++ [(k, d)] := by
  unfold putD
  rw [if_neg]
  intro z
  obtain ⟨p, hp, e⟩ := List.any_eq_true.mp z
  exact h (by rw [← of_decide_eq_true e]; exact List.mem_map.mpr ⟨p, hp, rfl⟩)
theorem get_of_mem {l : Lat} {s : Str} (h : s ∈ l.map (·.1)) : ∃ x, lGet l s = some x := by
  induction l with
  | nil => cases h
  | cons p r ih =>
    obtain ⟨j, o⟩ := p
    simp only [lGet]
    split
    · exact ⟨o, rfl⟩
    · rename_i ne
      rcases List.mem_cons.mp h with h | h
      · exact absurd h.symm ne
      · exact ih h
def resort (l : Lat) (ys : List Str) : Lat := ys.map fun s => (s, (lGet l s).getD 0)
theorem resort_perm {l : Lat} {ys : List Str} (nd : (l.map (·.1)).Nodup) (p : ys.Perm (l.map (·.1))) : (resort l ys).Perm l := by
  have h1 : (resort l ys).Perm (resort l (l.map (·.1))) := p.map _
  have h2 : resort l (l.map (·.1)) = l := by
    unfold resort
    rw [List.map_map]
    conv => rhs; rw [← List.map_id l]
    refine List.map_congr_left fun q hq => ?_
    obtain ⟨s, x⟩ := q
    simp only [Function.comp, id, mem_lGet nd hq, Option.getD_some]
  rw [h2] at h1
  exact h1
theorem rd_Book_init : ∀ xs, (spBookInit CB).pre xs → as_Book___init__ CB CBB spAreLates (endsOf [0, 1] (spBookInit CB) xs) (startA 3 xs) := rd_P (fun i j _ _ h => by
    simp only [biArgs, List.cons.injEq, A.v.injEq, D.dic.injEq, and_true, true_and] at h
    exact latK_inj h) fun l hl DA hR hN hX => by
  show as_Book___init__ CB CBB _ _ [some (.obj CB []), some (.v (.dic (latK l))), none]
  unfold as_Book___init__ rs_Book___init___2
  (repeat' first|((with_reducible apply k_are_lates);(first|assumption|rfl))|walk_at "vs1")
  refine i_sortD (ks := l.map (·.1)) datV (by simp [latK]) (by have := hl.hi; simp; omega) fun ys hp hs => ?_
  (repeat' walk_at "vs1")
  have hsub : ∀ y ∈ ys, ∃ x, lGet l y = some x := fun y hy => get_of_mem (hp.subset hy)
  have hnd : ys.Nodup := hp.nodup_iff.mpr hl.nd
  have hyl : ys.length ≤ 8 := by have := hp.length_eq; have := hl.hi; simp at *; omega
  refine ⟨ys.map D.str, rfl, none1 rfl, dc_rec (W := fun acc r ρ => ρ = [some (.obj CB []), some (.v (.dic (latK l))), none] ∧ ∃ zs rs, ys = zs ++ rs ∧ r = rs.map D.str ∧ acc = latK (resort l zs)) (fun acc ρ ⟨e, zs, rs, h1, h2, h3⟩ => ?_) (fun acc x r ρ ⟨e, zs, rs, h1, h2, h3⟩ ih => ?_) _ _ _ ⟨rfl, [], ys, rfl, rfl, rfl⟩⟩
  · subst e h3
    have : rs = [] := by cases rs with
      | nil => rfl
      | cons _ _ => simp at h2
    subst this
    have h1' : ys = zs := by simpa using h1
    subst h1'
    refine ⟨trivial, ?_⟩
    (repeat' walk_at "vs1")
    exact hN _ _ rfl ⟨_, resort_perm hl.nd hp, by simpa [resort, Function.comp_def] using hs, rfl, rfl⟩
  · subst e h3
    cases rs with
    | nil => cases h2
    | cons y rs =>
      simp only [List.map_cons, List.cons.injEq] at h2
      obtain ⟨rfl, rfl⟩ := h2
      obtain ⟨x, hx⟩ := hsub y (by rw [h1]; simp)
      refine ⟨trivial, ?_⟩
      (repeat' walk_at "vs1")
      refine i_ix datV datV (z := .int x) (by show valD (latK l) (.inr y) = _; rw [val_lat, hx]; rfl) ?_
      (repeat' walk_at "vs1")
      refine ⟨.str y, .inr y, rfl, rfl, by simp [latK, resort]; have := congrArg List.length h1; simp at this; omega, ?_⟩
      refine ih _ _ ⟨rfl, zs ++ [y], rs, by rw [h1]; simp, rfl, ?_⟩
      rw [putD_new]
      · simp [latK, resort, hx]
      · simp only [latK, resort, List.map_map, List.mem_map, not_exists, not_and, Function.comp]
        intro q hq e
        cases e
        rw [h1, List.nodup_append] at hnd
        exact hnd.2.2 _ hq _ (List.mem_cons_self ..) rfl
/-! Book.__eq__, has, late -/
def okNm (l : Lat) : Prop := ∀ p ∈ l, nameS p.1 = true
abbrev LL := Lat × Lat
def beArgs (CB : Addr) (p : LL) : List A := [.v (bookD CB p.1), .v (bookD CB p.2)]
def spBookEq (CB : Addr) : ASp := spI (beArgs CB) (fun p => (p.1.map (·.1)).Nodup) (fun p => .rt (.v (.bl (deqK (latK p.1) (latK p.2))))) (beArgs CB)
theorem pl_lat {l : Lat} : ∀ p ∈ latK l, PlD 20 p.2 := fun p hp => by
  obtain ⟨q, _, rfl⟩ := List.mem_map.mp hp
  exact pl_int
theorem lat_keys (l : Lat) (h : (l.map (·.1)).Nodup) : ((latK l).map (·.1)).Nodup := by
  have e : (latK l).map (·.1) = (l.map (·.1)).map Sum.inr := by simp [latK]
  rw [e]
  exact List.Pairwise.map Sum.inr (fun a b hab e => hab (by cases e; rfl)) h
theorem rd_Book_eq (cl : ClsI K CB) (hk : PySem.W.kitOne K (.ref CB) (.ref CB) = some true) : ∀ xs, (spBookEq CB).pre xs → as_Book___eq__ K CB (endsOf [0, 1] (spBookEq CB) xs) (startA 2 xs) := rd_I (fun i j _ _ h => by
    simp only [beArgs, List.cons.injEq, A.v.injEq, and_true] at h
    exact Prod.ext (bookD_inj h.1) (bookD_inj h.2)) fun p hp DA hR hN hX => by
  obtain ⟨l, m⟩ := p
  show as_Book___eq__ K CB _ [some (.v (bookD CB l)), some (.v (bookD CB m))]
  unfold as_Book___eq__ bookD
  (repeat' walk_at "vs1")
  refine i_eqDic datV datV pl_lat pl_lat (lat_keys l hp) ?_
  (repeat' walk_at "vs1")
  exact hR _ _ rfl rfl
abbrev LS := Lat × Str
def hsArgs (CB : Addr) (p : LS) : List A := [.v (bookD CB p.1), .v (.str p.2)]
theorem hs_inj {P : LS → Prop} : ∀ i j, P i → P j → hsArgs CB i = hsArgs CB j → i = j := fun i j _ _ h => by
  simp only [hsArgs, List.cons.injEq, A.v.injEq, D.str.injEq, and_true] at h
  exact Prod.ext (bookD_inj h.1) h.2
def hasB (l : Lat) (s : Str) : Bool := nameS s && (lGet l s).isSome
def spHas (CB : Addr) : ASp := spI (hsArgs CB) (fun p => p.2.length ≤ 100000) (fun p => .rt (.v (.bl (hasB p.1 p.2)))) (hsArgs CB)
theorem k_has {l : Lat} {s : Str} (h : s.length ≤ 100000) (k : Q (.v (.bl (hasB l s))) ρ) : callA (spHas CB) [.v (bookD CB l), .v (.str s)] EA ρ Q := i_callI (l, s) rfl h rfl k
theorem rd_Book_has : ∀ xs, (spHas CB).pre xs → as_Book_has CB spIsName (endsOf [0, 1] (spHas CB) xs) (startA 2 xs) := rd_I hs_inj fun p hp DA hR hN hX => by
  obtain ⟨l, s⟩ := p
  have hp' : s.length ≤ 100000 := hp
  show as_Book_has CB _ _ [some (.v (bookD CB l)), some (.v (.str s))]
  unfold as_Book_has
  (repeat' first|((with_reducible apply k_is_name);(first|assumption|rfl))|walk_at "vs1")
  · refine hR _ _ rfl ?_
    simp [hasB, hif, val_lat]
  · refine hR _ _ rfl ?_
    simp only [Bool.not_eq_true] at hif
    simp [hasB, hif]
def spLate (CB : Addr) : ASp := spI (hsArgs CB) (fun p => hasB p.1 p.2 = true) (fun p => .rt (.v (.int ((lGet p.1 p.2).getD 0)))) (hsArgs CB)
theorem hasB_get {l : Lat} {s : Str} (h : hasB l s = true) : nameS s = true ∧ ∃ x, lGet l s = some x := by
  simp only [hasB, Bool.and_eq_true] at h
  exact ⟨h.1, Option.isSome_iff_exists.mp h.2⟩
theorem has_nm {l : Lat} {s : Str} (hn : okNm l) (h : (lGet l s).isSome = true) : hasB l s = true := by
  obtain ⟨x, hx⟩ := Option.isSome_iff_exists.mp h
  simp only [hasB, Bool.and_eq_true]
  exact ⟨hn _ (lGet_mem hx), h⟩
theorem k_late {l : Lat} {s : Str} {x : Int} (h : hasB l s = true) (hx : lGet l s = some x) (k : Q (.v (.int x)) ρ) : callA (spLate CB) [.v (bookD CB l), .v (.str s)] EA ρ Q := i_callI (l, s) rfl h (by simp only [hx, Option.getD_some]) k
theorem rd_Book_late : ∀ xs, (spLate CB).pre xs → as_Book_late CB CN (spHas CB) (endsOf [0, 1] (spLate CB) xs) (startA 2 xs) := rd_I hs_inj fun p hp DA hR hN hX => by
  obtain ⟨l, s⟩ := p
  have hp' : hasB l s = true := hp
  obtain ⟨hn, x, hx⟩ := hasB_get hp'
  have hsl := nameS_ok hn
  show as_Book_late CB CN _ _ [some (.v (bookD CB l)), some (.v (.str s))]
  unfold as_Book_late rs_Book_late_2
  (repeat' first|((with_reducible apply k_has);(first|assumption|rfl))|walk_at "vs1")
  · rw [hp'] at hif
    cases hif
  · refine i_ix datV datV (z := .int x) (by show valD (latK l) (.inr s) = _; rw [val_lat, hx]; rfl) ?_
    (repeat' walk_at "vs1")
    exact hR _ _ rfl (by simp only [hx, Option.getD_some])
/-! entries -/
def isIdD : D → Bool
  | .int i => decide (0 ≤ i)
  | _ => false
def spIsId : ASp := spI oneI (fun _ => True) (fun i => .rt (.v (.bl (decide (0 ≤ i))))) oneI
theorem k_is_id {i : Int} (k : Q (.v (.bl (decide (0 ≤ i)))) ρ) : callA spIsId [.v (.int i)] EA ρ Q := i_callI i rfl trivial rfl k
theorem rd_is_id : ∀ xs, spIsId.pre xs → as_is_id (spIsInt CB) (endsOf [0] spIsId xs) (startA 1 xs) := rd_I oneI_inj fun x hx DA hR hN hX => by
  show as_is_id _ _ [some (.v (.int x))]
  unfold as_is_id
  (repeat' first|((with_reducible apply k_is_integer);(first|assumption|rfl))|walk_at "vs1")
  exact hR _ _ rfl rfl
def okE : Ent → Prop
  | .row _ s k _ _ _ => s.length ≤ 100000 ∧ k.length ≤ 100000
  | _ => True
/-- an entry, or some other thing -/
inductive EO where
  | e (x : Ent)
  | o (d : D)
def EO.d : EO → D
  | .e x => x.d
  | .o d => d
def OddO (CB : Addr) : D → Prop
  | .tup ds => ds.length < 3
  | .obj C _ => C = CB
  | .ty _ => False
  | _ => True
def okEO (CB : Addr) : EO → Prop
  | .e x => okE x
  | .o d => OddO CB d
def EO.ok : EO → Bool
  | .e x => x.ok
  | .o _ => false
theorem EO.inj {a b : EO} (ha : okEO CB a) (hb : okEO CB b) (h : a.d = b.d) : a = b := by
  have key : ∀ (x : Ent) (d : D), OddO CB d → x.d ≠ d := fun x d hd e => by
    subst e
    cases x <;> simp [Ent.d, OddO] at hd
  cases a <;> cases b
  · rw [Ent.inj h]
  · exact absurd h (key _ _ hb)
  · exact absurd h.symm (key _ _ ha)
  · exact congrArg EO.o h
def oneE (e : EO) : List A := [.v e.d]
theorem oneE_inj : ∀ i j, okEO CB i → okEO CB j → oneE i = oneE j → i = j := fun i j hi hj h => by
  simp only [oneE, List.cons.injEq, A.v.injEq, and_true] at h
  exact EO.inj hi hj h
def spIsEntry (CB : Addr) : ASp := spI oneE (okEO CB) (fun e => .rt (.v (.bl e.ok))) oneE
theorem k_is_entry {e : EO} (h : okEO CB e) (k : Q (.v (.bl e.ok)) ρ) : callA (spIsEntry CB) [.v e.d] EA ρ Q := i_callI e rfl h rfl k
theorem k_ints3 {ys : List D} {a b c : Int} (e : ys = [.int a, .int b, .int c]) (k : Q (.v (.bl true)) ρ) : callA spAreInts [.v (.tup ys)] EA ρ Q := by
  subst e
  exact k_are_integers (by simp) (by simp [tyN]) k
theorem k_ints1 {ys : List D} {a : Int} (e : ys = [.int a]) (k : Q (.v (.bl true)) ρ) : callA spAreInts [.v (.tup ys)] EA ρ Q := by
  subst e
  exact k_are_integers (by simp) (by simp [tyN]) k
theorem ent_neg {i : Int} {b : Bool} (h : (!decide (0 ≤ i)) = true) : RX.rt (.v (.bl (decide (0 ≤ i) && b))) = RX.rt (.v (.bl false)) := by
  cases e : decide (0 ≤ i) with
  | true => rw [e] at h; cases h
  | false => rfl
theorem rd_is_entry (ci : ClsI K CB) (kt : PySem.W.kitOne K (.ref CB) (.type "tuple") = some false) : ∀ xs, (spIsEntry CB).pre xs → as_is_entry K spIsId spIsName spAreInts (endsOf [0] (spIsEntry CB) xs) (startA 1 xs) := rd_I oneE_inj fun e he DA hR hN hX => by
  show as_is_entry K _ _ _ _ [some (.v e.d)]
  unfold as_is_entry rs_is_entry_2 rs_is_entry_3 rs_is_entry_4 rs_is_entry_5
  cases e with
  | o d =>
    simp only [EO.d]
    cases d with
    | obj C fs =>
      have e : C = CB := he
      subst e
      have hi : isiR K (.obj C fs) [.type "tuple"] false := isi_ownT ci kt
      refine i_seq (i_if (i_tor (i_tnot (i_test (i_un (i_val rfl (i_isi datV hi (i_isB datV ?_))))))))
      (repeat' walk_at "vs1")
      exact hR _ _ rfl rfl
    | ty n => exact he.elim
    | tup ds =>
      have hl : ds.length < 3 := he
      have hd : decide ((ds.length : Int) < 3) = true := decide_eq_true (by omega)
      (repeat' walk_at "vs1")
      exact hR _ _ rfl rfl
    | _ =>
      (repeat' walk_at "vs1")
      exact hR _ _ rfl rfl
  | e x =>
    cases x with
    | row i s k m a t =>
      obtain ⟨h1, h2⟩ := he
      simp only [EO.d, Ent.d]
      (repeat' first|((with_reducible apply k_is_id))|((with_reducible apply k_is_name);(first|assumption|rfl))|((with_reducible apply k_ints3);rfl)|((with_reducible apply k_ints1);rfl)|walk_at "vs1")
      all_goals (refine hR _ _ rfl ?_; simp only [EO.ok, Ent.ok]; first | (simp_all; done) | exact ent_neg hif)
    | fix i m a t =>
      simp only [EO.d, Ent.d]
      (repeat' first|((with_reducible apply k_is_id))|((with_reducible apply k_is_name);(first|assumption|rfl))|((with_reducible apply k_ints3);rfl)|((with_reducible apply k_ints1);rfl)|walk_at "vs1")
      all_goals (refine hR _ _ rfl ?_; simp only [EO.ok, Ent.ok]; first | (simp_all; done) | exact ent_neg hif)
    | gone i t =>
      simp only [EO.d, Ent.d]
      (repeat' first|((with_reducible apply k_is_id))|((with_reducible apply k_is_name);(first|assumption|rfl))|((with_reducible apply k_ints3);rfl)|((with_reducible apply k_ints1);rfl)|walk_at "vs1")
      all_goals (refine hR _ _ rfl ?_; simp only [EO.ok, Ent.ok]; first | (simp_all; done) | exact ent_neg hif)
/-! is_good -/
def lastD : Option Int → D
  | none => .non
  | some t => .int t
theorem lastD_inj {a b : Option Int} (h : lastD a = lastD b) : a = b := by
  cases a <;> cases b <;> simp [lastD] at h ⊢
  exact h
structure IG where
  l : Lat
  st : Sts
  last : Option Int
  e : EO
def igArgs (CB : Addr) (i : IG) : List A := [.v (bookD CB i.l), .dic (stsK i.st), .v (lastD i.last), .v i.e.d]
def igOk (CB : Addr) (i : IG) : Prop := okNm i.l ∧ StOk (lGet i.l) i.st ∧ okEO CB i.e
def goodX (g : Str → Option Int) (st : Sts) (last : Option Int) : EO → Bool
  | .e x => good g st last x
  | .o _ => false
def spIsGood (CB : Addr) : ASp := spI (igArgs CB) (igOk CB) (fun i => .rt (.v (.bl (goodX (lGet i.l) i.st i.last i.e)))) (igArgs CB)
theorem good_4 {DA : AEnds} {l : Lat} {st : Sts} {last : Option Int} {e : Ent} {L : D} (hn : okNm l) (hst : StOk (lGet l) st) (he : okE e) (hok : e.ok = true) (hl : lateOk last e.t = true)
    (hR : ∀ b o5 o6, good (lGet l) st last e = b → DA.rt (.v (.bl b)) [some (.v (bookD CB l)), some (.dic (stsK st)), some (.v L), some (.v e.d), some (.v (.int e.t)), o5, o6]) :
    rs_is_good_4 CB (spIsEntry CB) spInTime (spHas CB) (spLate CB) DA [some (.v (bookD CB l)), some (.dic (stsK st)), some (.v L), some (.v e.d), some (.v (.int e.t)), none, none] := by
  unfold rs_is_good_4 rs_is_good_5 rs_is_good_6 rs_is_good_7 rs_is_good_8 rs_is_good_9
  have old : ∀ i, (∃ o, sGet st i = some (some o)) ∨ (valD (stsK st) (.inl i)).getD .non = .non ∧ ∀ t k, openO (lGet l) st i t k = false := by
    intro i
    rw [val_sts]
    cases h : sGet st i with
    | none => exact .inr ⟨rfl, fun t k => by unfold openO; rw [h]⟩
    | some o => cases o with
      | none => exact .inr ⟨rfl, fun t k => by unfold openO; rw [h]⟩
      | some o => exact .inl ⟨o, rfl⟩
  have lat : ∀ i o, sGet st i = some (some o) → ∃ x, hasB l o.s = true ∧ lGet l o.s = some x := by
    intro i o h
    obtain ⟨x, hx⟩ := Option.isSome_iff_exists.mp (hst i o h)
    exact ⟨x, has_nm hn (hst i o h), hx⟩
  cases e with
  | row i s k m a t =>
    simp only [Ent.d, Ent.t] at hR hl ⊢
    have hs : s.length ≤ 100000 := he.1
    (repeat' first|((with_reducible apply k_has);(first|assumption|rfl))|((with_reducible apply k_in_time))|walk_at "vs1")
    · obtain ⟨hnm, x, hx⟩ := hasB_get hif
      refine k_late hif hx ?_
      (repeat' first|((with_reducible apply k_in_time))|walk_at "vs1")
      refine hR _ _ _ ?_
      rename_i hif1
      rw [val_sts] at hif1
      simp only [good, hok, hl, Ent.t, hx]
      cases hh : sGet st i <;> simp_all
    · refine hR _ _ _ ?_
      have hn' : lGet l s = none := by
        cases hx : lGet l s with
        | none => rfl
        | some x => exact absurd (has_nm hn (by rw [hx]; rfl)) hif
      simp [good, hn']
    · refine hR _ _ _ ?_
      rw [val_sts] at hif
      cases hh : sGet st i <;> simp_all [good]
  | fix i m a t =>
    simp only [Ent.d, Ent.t] at hR hl ⊢
    rcases old i with ⟨o, ho⟩ | ⟨ho, hop⟩
    · have e1 : (valD (stsK st) (.inl i)).getD .non = o.d := by rw [val_sts, ho]; rfl
      obtain ⟨x, hx1, hx⟩ := lat i o ho
      simp only [Sta.d] at e1
      (repeat' walk_at "vs1")
      refine k_late hx1 hx ?_
      (repeat' first|((with_reducible apply k_in_time))|walk_at "vs1")
      · refine hR _ _ _ ?_
        simp only [good, openO, ho, hx]
        simp at hif
        simp [hif]
      · refine hR _ _ _ ?_
        simp only [good, openO, ho, hx, hok, hl, Ent.t]
        simp at hif
        have hd : decide (o.m + x < t) = false := decide_eq_false (by omega)
        simp [hd]
    · (repeat' walk_at "vs1")
      refine hR _ _ _ ?_
      simp only [good, hop, Bool.and_false]
  | gone i t =>
    simp only [Ent.d, Ent.t] at hR hl ⊢
    rcases old i with ⟨o, ho⟩ | ⟨ho, hop⟩
    · have e1 : (valD (stsK st) (.inl i)).getD .non = o.d := by rw [val_sts, ho]; rfl
      obtain ⟨x, hx1, hx⟩ := lat i o ho
      simp only [Sta.d] at e1
      (repeat' walk_at "vs1")
      refine k_late hx1 hx ?_
      (repeat' first|((with_reducible apply k_in_time))|walk_at "vs1")
      · refine hR _ _ _ ?_
        simp only [good, openO, ho, hx]
        simp at hif
        simp [hif]
      · refine hR _ _ _ ?_
        simp only [good, openO, ho, hx, hok, hl, Ent.t]
        simp at hif
        have hd : decide (o.m + x < t) = false := decide_eq_false (by omega)
        simp [hd]
    · (repeat' walk_at "vs1")
      refine hR _ _ _ ?_
      simp only [good, hop, Bool.and_false]
theorem ent_last {e : Ent} : itD e.d (.int (-1)) = some (.int e.t) := by cases e <;> rfl
theorem rd_is_good : ∀ xs, (spIsGood CB).pre xs → as_is_good CB (spIsEntry CB) spInTime (spHas CB) (spLate CB) (endsOf [0, 1, 2, 3] (spIsGood CB) xs) (startA 7 xs) := rd_I (fun i j hi hj h => by
    obtain ⟨l1, s1, t1, e1⟩ := i
    obtain ⟨l2, s2, t2, e2⟩ := j
    simp only [igArgs, List.cons.injEq, A.v.injEq, A.dic.injEq, and_true] at h
    obtain ⟨h1, h2, h3, h4⟩ := h
    have q : e1 = e2 := EO.inj hi.2.2 hj.2.2 h4
    rw [bookD_inj h1, stsK_inj h2, lastD_inj h3, q]) fun i hi DA hR hN hX => by
  obtain ⟨l, st, last, e⟩ := i
  obtain ⟨hn, hst, he⟩ := hi
  simp only at hn hst he
  show as_is_good CB _ _ _ _ _ [some (.v (bookD CB l)), some (.dic (stsK st)), some (.v (lastD last)), some (.v e.d), none, none, none]
  unfold as_is_good rs_is_good_2 rs_is_good_3
  cases e with
  | o d =>
    (repeat' walk_at "vs1")
    refine k_is_entry he ?_
    simp only [EO.ok]
    (repeat' walk_at "vs1")
    exact hR _ _ rfl rfl
  | e e =>
  refine i_seq (i_if (i_tnot (i_test (i_call0 ?_))))
  (repeat' walk_at "vs1")
  refine k_is_entry he ?_
  simp only [EO.ok, EO.d]
  have he : okE e := he
  (repeat' walk_at "vs1")
  · refine hR _ _ rfl ?_
    have hok : e.ok = false := by simpa using hif
    simp [goodX, good, hok]
  have hok : e.ok = true := by simpa using hif
  refine i_ix datV datV ent_last ?_
  have tail : lateOk last e.t = true → rs_is_good_4 CB (spIsEntry CB) spInTime (spHas CB) (spLate CB) DA [some (.v (bookD CB l)), some (.dic (stsK st)), some (.v (lastD last)), some (.v e.d), some (.v (.int e.t)), none, none] := fun hl =>
    good_4 hn hst he hok hl fun b o5 o6 q => hR _ _ rfl (by rw [← q]; rfl)
  cases last with
  | none =>
    simp only [lastD] at tail ⊢
    (repeat' walk_at "vs1")
    exact tail rfl
  | some t0 =>
    simp only [lastD] at tail ⊢
    (repeat' walk_at "vs1")
    · refine hR _ _ rfl ?_
      simp at hif
      simp [goodX, good, lateOk, hif]
    · refine tail ?_
      simp at hif
      simp [lateOk, hif]
theorem k_is_good {l : Lat} {st : Sts} {last : Option Int} {e : EO} {i : Nat} (h1 : okNm l) (h2 : StOk (lGet l) st) (h3 : okEO CB e) (hi : ρ[i]? = some (some (.dic (stsK st)))) (k : Q (.v (.bl (goodX (lGet l) st last e))) ρ) : callA (spIsGood CB) [.v (bookD CB l), .loc i, .v (lastD last), .v e.d] EA ρ Q := by
  refine i_callI (ρ' := ρ.set i none) ⟨l, st, last, e⟩ (by simp [pass, hi, igArgs]) ⟨h1, h2, h3⟩ rfl ?_
  show Q _ ((ρ.set i none).set i (some (.dic (stsK st))))
  have hl : i < ρ.length := by
    rcases Nat.lt_or_ge i ρ.length with h | h
    · exact h
    · rw [List.getElem?_eq_none h] at hi; cases hi
  have e2 : (ρ.set i none).set i (some (.dic (stsK st))) = ρ := by
    rw [List.set_set]
    rw [List.getElem?_eq_getElem hl] at hi
    have := Option.some.inj hi
    rw [← this, List.set_getElem_self]
  rw [e2]
  exact k
end
end Law

set_option Elab.async false
set_option linter.all false
set_option maxRecDepth 100000
set_option maxHeartbeats 1000000
namespace Law
open PySem PySem.Spec PyProof.Rows L2 Vs
set_option hygiene false in
local macro_rules | `(tactic| walk_at "vs1") => `(tactic| (first|((with_reducible first|apply i_seq|apply i_next|apply i_expr|apply i_ret|apply i_retN|apply i_if|apply i_break|apply i_cont|apply i_set|apply i_putX|apply i_for|apply i_retv|apply i_retl|apply i_retd|apply i_reto|apply i_setv|apply i_setl|apply i_setd|apply i_seto|apply i_usev|apply i_usel|apply i_used|apply i_useo|apply i_uses0|apply i_uses1|apply i_c|apply i_op|apply i_un|apply i_test|apply i_tand|apply i_tor|apply i_tnot|apply i_and|apply i_or|apply i_not|apply i_ifx|apply i_chain|apply i_chnK|apply i_nil|apply i_cons|apply i_tup|apply i_lst|apply i_dict0|apply i_cb|apply i_frz|apply i_addi|apply i_adds|apply i_addt|apply i_addl|apply i_raise|apply i_forget|apply i_lc|apply i_dc|apply i_agName|apply i_yes|apply i_aiSeqV|apply i_append|apply i_meth0|apply i_make0|apply i_slice|apply i_aoNone|apply i_aoSome|apply i_agCons|apply i_agNil|apply i_asFld|apply i_get1|apply i_call0))|((with_reducible apply i_putK);rfl;(first|exact datV|exact datIv rfl|exact datL|exact datIl rfl|exact datD|exact datId rfl|exact datO|exact datIo rfl);(first|assumption|rfl))|((with_reducible first|apply i_reti|apply i_val|apply i_ref|apply i_appK|apply i_agTup);rfl)|((with_reducible first|apply i_isB|apply i_neg|apply i_int|apply i_isL|apply i_isI|apply i_isDc);(first|exact datV|exact datIv rfl|exact datL|exact datIl rfl|exact datD|exact datId rfl|exact datO|exact datIo rfl))|((with_reducible apply i_ix);(first|exact datV|exact datIv rfl|exact datL|exact datIl rfl|exact datD|exact datId rfl|exact datO|exact datIo rfl);(first|exact datV|exact datIv rfl|exact datL|exact datIl rfl|exact datD|exact datId rfl|exact datO|exact datIo rfl);(first|assumption|rfl))|((with_reducible first|apply i_plus|apply i_sub|apply i_lt|apply i_le|apply i_gt|apply i_ge|apply i_mul|apply i_mod|apply i_pow|apply i_div|apply i_eq|apply i_ne|apply i_is|apply i_isnot|apply i_max|apply i_min);(first|exact datV|exact datIv rfl|exact datL|exact datIl rfl|exact datD|exact datId rfl|exact datO|exact datIo rfl);(first|exact datV|exact datIv rfl|exact datL|exact datIl rfl|exact datD|exact datId rfl|exact datO|exact datIo rfl))|((with_reducible apply i_isi);(first|exact datV|exact datIv rfl|exact datL|exact datIl rfl|exact datD|exact datId rfl|exact datO|exact datIo rfl);(first|exact isi1 (by first|assumption|rfl) (by decide)|exact isi_lt (by first|assumption|rfl)|exact isi_own (by assumption) (by assumption)))|((with_reducible apply i_fldV);rfl;rfl)|((with_reducible first|apply i_len|apply i_list);(first|exact datV|exact datIv rfl|exact datL|exact datIl rfl|exact datD|exact datId rfl|exact datO|exact datIo rfl);(first|assumption|rfl))|((with_reducible apply i_objK);(first|exact datV|exact datIv rfl|exact datL|exact datIl rfl|exact datD|exact datId rfl|exact datO|exact datIo rfl);rfl)|((with_reducible apply i_fldK);rfl;(first|exact fs_nil|exact fs_one);exact Nat.le_of_ble_eq_true rfl)|((with_reducible apply i_getK);(first|exact datV|exact datIv rfl|exact datL|exact datIl rfl|exact datD|exact datId rfl|exact datO|exact datIo rfl);(first|exact datV|exact datIv rfl|exact datL|exact datIl rfl|exact datD|exact datId rfl|exact datO|exact datIo rfl);rfl;(first|assumption|rfl))|((with_reducible apply i_inD);(first|exact datV|exact datIv rfl|exact datL|exact datIl rfl|exact datD|exact datId rfl|exact datO|exact datIo rfl);(first|exact datV|exact datIv rfl|exact datL|exact datIl rfl|exact datD|exact datId rfl|exact datO|exact datIo rfl);rfl)|((with_reducible apply i_useiv);rfl)|((with_reducible apply i_useil);rfl)|((with_reducible apply i_useid);rfl)|((with_reducible apply i_tuplel);(first|exact datV|exact datIv rfl|exact datL|exact datIl rfl|exact datD|exact datId rfl|exact datO|exact datIo rfl))|((with_reducible apply i_tuplet);(first|exact datV|exact datIv rfl|exact datL|exact datIl rfl|exact datD|exact datId rfl|exact datO|exact datIo rfl))|((with_reducible apply i_slcT);(first|exact datV|exact datIv rfl|exact datL|exact datIl rfl|exact datD|exact datId rfl|exact datO|exact datIo rfl))|((with_reducible apply i_slcL);(first|exact datV|exact datIv rfl|exact datL|exact datIl rfl|exact datD|exact datId rfl|exact datO|exact datIo rfl))|((with_reducible apply i_ninD);(first|exact datV|exact datIv rfl|exact datL|exact datIl rfl|exact datD|exact datId rfl|exact datO|exact datIo rfl);(first|exact datV|exact datIv rfl|exact datL|exact datIl rfl|exact datD|exact datId rfl|exact datO|exact datIo rfl);rfl)|((with_reducible apply i_sz);exact Nat.le_of_ble_eq_true rfl)|exact pl_int|exact pl_str|exact pl_bl|exact pl_non|exact lenA_l|exact cpow_h (by unfold CPow; decide)|exact cmul_h (by unfold CMul; first|decide|omega)|((with_reducible first|apply lenA_h|apply plD_h);assumption)|(with_reducible first|apply i_itet|apply i_itef)|((with_reducible refine i_itepB ?_ ?_);(first|assumption|rfl))|((with_reducible refine i_itenB ?_ ?_);(first|assumption|rfl))|((with_reducible apply i_ite)<;>intro hif)))
section
variable {EA : AX} {ρ ρ' : AEnv} {Q : AK} {K : Fg} {CB CJ CN CBB CBE : Addr}
theorem set_back {i : Nat} {y : A} (hi : ρ[i]? = some (some y)) : (ρ.set i none).set i (some y) = ρ := by
  have hl : i < ρ.length := by
    rcases Nat.lt_or_ge i ρ.length with h | h
    · exact h
    · rw [List.getElem?_eq_none h] at hi; cases hi
  rw [List.set_set]
  rw [List.getElem?_eq_getElem hl] at hi
  rw [← Option.some.inj hi, List.set_getElem_self]
structure SE where
  st : Sts
  e : Ent
def seArgs (i : SE) : List A := [.dic (stsK i.st), .v i.e.d]
def spBehind : ASp := spI seArgs (fun i => FixOk i.st i.e) (fun i => .rt (.v (staD (behind i.st i.e)))) seArgs
theorem k_behind {st : Sts} {e : Ent} {i : Nat} (h : FixOk st e) (hi : ρ[i]? = some (some (.dic (stsK st)))) (k : Q (.v (staD (behind st e))) ρ) : callA spBehind [.loc i, .v e.d] EA ρ Q := by
  refine i_callI (ρ' := ρ.set i none) ⟨st, e⟩ (by simp [pass, hi, seArgs]) h rfl ?_
  show Q _ ((ρ.set i none).set i (some (.dic (stsK st))))
  rw [set_back hi]
  exact k
theorem rd_behind : ∀ xs, spBehind.pre xs → as_state_behind (endsOf [0, 1] spBehind xs) (startA 3 xs) := rd_I (fun i j _ _ h => by
    cases i; cases j
    simp only [seArgs, List.cons.injEq, A.v.injEq, A.dic.injEq, and_true] at h
    rw [stsK_inj h.1, Ent.inj h.2]) fun i hi DA hR hN hX => by
  obtain ⟨st, e⟩ := i
  simp only at hi
  show as_state_behind _ [some (.dic (stsK st)), some (.v e.d), none]
  unfold as_state_behind rs_state_behind_2 rs_state_behind_3
  cases e with
  | row i s k m a t =>
    simp only [Ent.d]
    (repeat' walk_at "vs1")
    exact hR _ _ rfl rfl
  | fix i m a t =>
    obtain ⟨o, ho⟩ := hi i m a t rfl
    simp only [Ent.d]
    have e1 : itD (.dic (stsK st)) (.int i) = some (.tup [.str o.s, .str o.k, .int o.m, .int o.a]) := by
      show valD (stsK st) (.inl i) = _
      rw [val_sts, ho]
      rfl
    (repeat' walk_at "vs1")
    refine hR _ _ rfl ?_
    simp only [behind, ho]
    rfl
  | gone i t =>
    simp only [Ent.d]
    (repeat' walk_at "vs1")
    exact hR _ _ rfl rfl
theorem ent_id {e : Ent} : itD e.d (.int 1) = some (.int e.i) := by cases e <;> rfl
theorem put_st {st : Sts} {e : Ent} {o : Option Sta} : putX (.dic (stsK st)) (.int e.i) (staD o) = some (.dic (stsK (sPut st e.i o))) := by
  show some (A.dic (putD (stsK st) (.inl e.i) (staD o))) = _
  rw [put_sts]
theorem stsK_len {st : Sts} : (stsK st).length = st.length := by simp [stsK]
theorem put_len (st : Sts) (i : Int) (o : Option Sta) : (sPut st i o).length ≤ st.length + 1 := by
  unfold sPut
  split <;> simp
/-! first_bad -/
def sqD (b : Bool) (es : List Ent) : D := if b then .lst (esD es) else .tup (esD es)
theorem sqD_inj {a b : Bool} {es fs : List Ent} (h : sqD a es = sqD b fs) : a = b ∧ es = fs := by
  cases a <;> cases b <;> simp [sqD] at h ⊢ <;> exact esD_inj h
structure FB where
  l : Lat
  b : Bool
  es : List Ent
def okEs (es : List Ent) : Prop := es.length ≤ 1000 ∧ ∀ e ∈ es, okE e
def natD : Option Nat → D
  | none => .non
  | some n => .int n
def eoD (es : List EO) : List D := es.map EO.d
theorem eoD_inj : ∀ {es fs : List EO}, (∀ e ∈ es, okEO CB e) → (∀ e ∈ fs, okEO CB e) → eoD es = eoD fs → es = fs
  | [], [], _, _, _ => rfl
  | [], _ :: _, _, _, h => by simp [eoD] at h
  | _ :: _, [], _, _, h => by simp [eoD] at h
  | x :: xs, y :: ys, h1, h2, h => by
    simp only [eoD, List.map_cons, List.cons.injEq] at h
    rw [EO.inj (h1 x (List.mem_cons_self ..)) (h2 y (List.mem_cons_self ..)) h.1, eoD_inj (fun e he => h1 e (List.mem_cons_of_mem _ he)) (fun e he => h2 e (List.mem_cons_of_mem _ he)) h.2]
def sqX (b : Bool) (es : List EO) : D := if b then .lst (eoD es) else .tup (eoD es)
structure FX where
  l : Lat
  b : Bool
  es : List EO
def fbArgs (CB : Addr) (i : FX) : List A := [.v (bookD CB i.l), .v (sqX i.b i.es)]
def okFX (CB : Addr) (i : FX) : Prop := okNm i.l ∧ i.es.length ≤ 1000 ∧ ∀ e ∈ i.es, okEO CB e
def fbX (g : Str → Option Int) : Sts → Option Int → List EO → Nat → Option Nat
  | _, _, [], _ => none
  | st, last, .e e :: es, n => if good g st last e = true then fbX g (after st e) (some e.t) es (n + 1) else some n
  | _, _, .o _ :: _, n => some n
theorem fbX_ents {g : Str → Option Int} : ∀ (es : List Ent) (st : Sts) (last : Option Int) (n : Nat), fbX g st last (es.map EO.e) n = fbad g st last es n
  | [], _, _, _ => rfl
  | e :: es, st, last, n => by
    simp only [List.map_cons, fbX, fbad]
    rw [fbX_ents es]
theorem fbX_odd {g : Str → Option Int} {d : D} : ∀ (es : List Ent) (st : Sts) (last : Option Int) (n : Nat), goods g st last es = true → fbX g st last (es.map EO.e ++ [.o d]) n = some (n + es.length)
  | [], _, _, _, _ => rfl
  | e :: es, st, last, n, h => by
    simp only [goods, Bool.and_eq_true] at h
    have := fbX_odd (d := d) es (after st e) (some e.t) (n + 1) h.2
    simp only [List.map_cons, List.cons_append, fbX, h.1, if_true, this, List.length_cons]
    congr 1
    omega
def spFirstBad (CB : Addr) : ASp := spI (fbArgs CB) (okFX CB) (fun i => .rt (.v (natD (fbX (lGet i.l) [] none i.es 0)))) (fbArgs CB)
theorem k_first_badX {l : Lat} {es : List EO} {d : D} {b : Bool} (hd : d = sqX b es) (h1 : okFX CB ⟨l, b, es⟩) (k : Q (.v (natD (fbX (lGet l) [] none es 0))) ρ) : callA (spFirstBad CB) [.v (bookD CB l), .v d] EA ρ Q := by
  subst hd
  exact i_callI ⟨l, b, es⟩ rfl h1 rfl k
theorem sqD_X {b : Bool} {es : List Ent} : sqD b es = sqX b (es.map EO.e) := by
  have : esD es = eoD (es.map EO.e) := by
    simp only [esD, eoD, List.map_map]
    rfl
  simp only [sqD, sqX, this]
theorem okEs_X {l : Lat} {b : Bool} {es : List Ent} (h1 : okNm l) (h2 : okEs es) : okFX CB ⟨l, b, es.map EO.e⟩ := ⟨h1, by simpa using h2.1, fun e he => by
  obtain ⟨x, hx, rfl⟩ := List.mem_map.mp he
  exact h2.2 x hx⟩
theorem k_first_bad {l : Lat} {es : List Ent} {d : D} {b : Bool} (hd : d = sqD b es) (h1 : okNm l) (h2 : okEs es) (k : Q (.v (natD (fbad (lGet l) [] none es 0))) ρ) : callA (spFirstBad CB) [.v (bookD CB l), .v d] EA ρ Q :=
  k_first_badX (hd.trans sqD_X) (okEs_X h1 h2) (by rw [fbX_ents]; exact k)
theorem rd_first_bad : ∀ xs, (spFirstBad CB).pre xs → as_first_bad (spIsGood CB) spBehind (endsOf [0, 1] (spFirstBad CB) xs) (startA 6 xs) := rd_I (fun i j hi hj h => by
    obtain ⟨l, b, es⟩ := i
    obtain ⟨m, c, fs⟩ := j
    simp only [fbArgs, List.cons.injEq, A.v.injEq, and_true] at h
    have e1 := bookD_inj h.1
    have e2 : b = c ∧ es = fs := by
      have h2 := h.2
      cases b <;> cases c <;> simp [sqX] at h2 ⊢ <;> exact eoD_inj hi.2.2 hj.2.2 h2
    rw [e1, e2.1, e2.2]) fun i hi DA hR hN hX => by
  obtain ⟨l, b, es⟩ := i
  obtain ⟨hn, hl, he⟩ := hi
  simp only at hn hl he hR
  show as_first_bad _ _ _ [some (.v (bookD CB l)), some (.v (sqX b es)), none, none, none, none]
  unfold as_first_bad rs_first_bad_2 rs_first_bad_3 rs_first_bad_4
  (repeat' walk_at "vs1")
  refine ⟨sqX b es, eoD es, rfl, by cases b <;> simp [sqX], ?_⟩
  refine for_rec (fun xs ρ => ∃ (n : Nat) (fs : List EO) (st : Sts) (last : Option Int) (o4 o5 : Option A), xs = ((eoD fs).zipIdx n).map (fun p => D.tup [.int (p.2 : Nat), p.1]) ∧ (∀ e ∈ fs, okEO CB e) ∧ StOk (lGet l) st ∧ st.length ≤ n ∧ n + fs.length ≤ 1000 ∧ fbX (lGet l) [] none es 0 = fbX (lGet l) st last fs n ∧ ρ = [some (.v (bookD CB l)), some (.v (sqX b es)), some (.dic (stsK st)), some (.v (lastD last)), o4, o5]) ?_ ?_ _ _ ⟨0, es, [], none, none, none, rfl, he, stOk_nil, by simp, by omega, rfl, rfl⟩
  · rintro ρ ⟨n, fs, st, last, o4, o5, e1, _, hs, _, _, hf, rfl⟩
    have : fs = [] := by cases fs with
      | nil => rfl
      | cons _ _ => simp [eoD] at e1
    subst this
    refine ⟨rfl, ?_⟩
    (repeat' walk_at "vs1")
    exact hR _ _ rfl (by rw [hf]; rfl)
  · rintro x xs ρ ⟨n, fs, st, last, o4, o5, e1, hfe, hs, hsl, hnl, hf, rfl⟩ ih
    cases fs with
    | nil => simp [eoD] at e1
    | cons e fs =>
      simp only [eoD, List.map_cons, List.zipIdx_cons, List.cons.injEq] at e1
      obtain ⟨rfl, rfl⟩ := e1
      have hee := hfe e (List.mem_cons_self ..)
      refine ⟨rfl, ?_⟩
      unfold bd_first_bad_1
      (repeat' walk_at "vs1")
      refine k_is_good hn hs hee rfl ?_
      cases e with
      | o d =>
        simp only [goodX]
        (repeat' walk_at "vs1")
        exact hR _ _ rfl (by rw [hf]; rfl)
      | e e =>
      simp only [goodX, EO.d]
      (repeat' walk_at "vs1")
      · refine hR _ _ rfl ?_
        have hg : good (lGet l) st last e = false := by simpa using hif
        rw [hf, fbX, if_neg (by rw [hg]; decide)]
        rfl
      · have hg : good (lGet l) st last e = true := by simpa using hif
        have hid : itD e.d (.int 1) = some (.int e.i) := ent_id
        have hla : itD e.d (.int (-1)) = some (.int e.t) := ent_last
        have hpu : putX (.dic (stsK st)) (.int e.i) (staD (behind st e)) = some (.dic (stsK (after st e))) := put_st
        have hln : lenA (.dic (stsK st)) ≤ 100000 := by
          show (stsK st).length ≤ 100000
          rw [stsK_len]
          simp at hnl
          omega
        refine k_behind (good_fix hg) rfl ?_
        (repeat' walk_at "vs1")
        refine ih _ ⟨n + 1, fs, after st e, some e.t, _, _, rfl, fun x hx => hfe x (List.mem_cons_of_mem _ hx), hs.after hg, ?_, ?_, ?_, rfl⟩
        · have := put_len st e.i (behind st e)
          show (sPut st e.i (behind st e)).length ≤ n + 1
          omega
        · simp at hnl
          omega
        · rw [hf, fbX, if_pos hg]
theorem run_len : ∀ (es : List Ent) (st : Sts), (runE st es).length ≤ st.length + es.length
  | [], st => by simp [runE]
  | e :: es, st => by
    have h1 := run_len es (after st e)
    have h2 := put_len st e.i (behind st e)
    simp only [runE, List.foldl_cons, List.length_cons] at h1 ⊢
    unfold after at h1 ⊢
    omega
end
end Law

set_option Elab.async false
set_option linter.all false
set_option maxRecDepth 100000
set_option maxHeartbeats 1000000
namespace Law
open PySem PySem.Spec PyProof.Rows L2 Vs
set_option hygiene false in
local macro_rules | `(tactic| walk_at "vs1") => `(tactic| (first|((with_reducible first|apply i_seq|apply i_next|apply i_expr|apply i_ret|apply i_retN|apply i_if|apply i_break|apply i_cont|apply i_set|apply i_putX|apply i_for|apply i_retv|apply i_retl|apply i_retd|apply i_reto|apply i_setv|apply i_setl|apply i_setd|apply i_seto|apply i_usev|apply i_usel|apply i_used|apply i_useo|apply i_uses0|apply i_uses1|apply i_c|apply i_op|apply i_un|apply i_test|apply i_tand|apply i_tor|apply i_tnot|apply i_and|apply i_or|apply i_not|apply i_ifx|apply i_chain|apply i_chnK|apply i_nil|apply i_cons|apply i_tup|apply i_lst|apply i_dict0|apply i_cb|apply i_frz|apply i_addi|apply i_adds|apply i_addt|apply i_addl|apply i_raise|apply i_forget|apply i_lc|apply i_dc|apply i_agName|apply i_yes|apply i_aiSeqV|apply i_append|apply i_meth0|apply i_make0|apply i_slice|apply i_aoNone|apply i_aoSome|apply i_agCons|apply i_agNil|apply i_asFld|apply i_get1|apply i_call0))|((with_reducible apply i_putK);rfl;(first|exact datV|exact datIv rfl|exact datL|exact datIl rfl|exact datD|exact datId rfl|exact datO|exact datIo rfl);(first|assumption|rfl))|((with_reducible first|apply i_reti|apply i_val|apply i_ref|apply i_appK|apply i_agTup);rfl)|((with_reducible first|apply i_isB|apply i_neg|apply i_int|apply i_isL|apply i_isI|apply i_isDc);(first|exact datV|exact datIv rfl|exact datL|exact datIl rfl|exact datD|exact datId rfl|exact datO|exact datIo rfl))|((with_reducible apply i_ix);(first|exact datV|exact datIv rfl|exact datL|exact datIl rfl|exact datD|exact datId rfl|exact datO|exact datIo rfl);(first|exact datV|exact datIv rfl|exact datL|exact datIl rfl|exact datD|exact datId rfl|exact datO|exact datIo rfl);(first|assumption|rfl))|((with_reducible first|apply i_plus|apply i_sub|apply i_lt|apply i_le|apply i_gt|apply i_ge|apply i_mul|apply i_mod|apply i_pow|apply i_div|apply i_eq|apply i_ne|apply i_is|apply i_isnot|apply i_max|apply i_min);(first|exact datV|exact datIv rfl|exact datL|exact datIl rfl|exact datD|exact datId rfl|exact datO|exact datIo rfl);(first|exact datV|exact datIv rfl|exact datL|exact datIl rfl|exact datD|exact datId rfl|exact datO|exact datIo rfl))|((with_reducible apply i_isi);(first|exact datV|exact datIv rfl|exact datL|exact datIl rfl|exact datD|exact datId rfl|exact datO|exact datIo rfl);(first|exact isi1 (by first|assumption|rfl) (by decide)|exact isi_lt (by first|assumption|rfl)|exact isi_own (by assumption) (by assumption)))|((with_reducible apply i_fldV);rfl;rfl)|((with_reducible first|apply i_len|apply i_list);(first|exact datV|exact datIv rfl|exact datL|exact datIl rfl|exact datD|exact datId rfl|exact datO|exact datIo rfl);(first|assumption|rfl))|((with_reducible apply i_objK);(first|exact datV|exact datIv rfl|exact datL|exact datIl rfl|exact datD|exact datId rfl|exact datO|exact datIo rfl);rfl)|((with_reducible apply i_fldK);rfl;(first|exact fs_nil|exact fs_one);exact Nat.le_of_ble_eq_true rfl)|((with_reducible apply i_getK);(first|exact datV|exact datIv rfl|exact datL|exact datIl rfl|exact datD|exact datId rfl|exact datO|exact datIo rfl);(first|exact datV|exact datIv rfl|exact datL|exact datIl rfl|exact datD|exact datId rfl|exact datO|exact datIo rfl);rfl;(first|assumption|rfl))|((with_reducible apply i_inD);(first|exact datV|exact datIv rfl|exact datL|exact datIl rfl|exact datD|exact datId rfl|exact datO|exact datIo rfl);(first|exact datV|exact datIv rfl|exact datL|exact datIl rfl|exact datD|exact datId rfl|exact datO|exact datIo rfl);rfl)|((with_reducible apply i_useiv);rfl)|((with_reducible apply i_useil);rfl)|((with_reducible apply i_useid);rfl)|((with_reducible apply i_tuplel);(first|exact datV|exact datIv rfl|exact datL|exact datIl rfl|exact datD|exact datId rfl|exact datO|exact datIo rfl))|((with_reducible apply i_tuplet);(first|exact datV|exact datIv rfl|exact datL|exact datIl rfl|exact datD|exact datId rfl|exact datO|exact datIo rfl))|((with_reducible apply i_slcT);(first|exact datV|exact datIv rfl|exact datL|exact datIl rfl|exact datD|exact datId rfl|exact datO|exact datIo rfl))|((with_reducible apply i_slcL);(first|exact datV|exact datIv rfl|exact datL|exact datIl rfl|exact datD|exact datId rfl|exact datO|exact datIo rfl))|((with_reducible apply i_ninD);(first|exact datV|exact datIv rfl|exact datL|exact datIl rfl|exact datD|exact datId rfl|exact datO|exact datIo rfl);(first|exact datV|exact datIv rfl|exact datL|exact datIl rfl|exact datD|exact datId rfl|exact datO|exact datIo rfl);rfl)|((with_reducible apply i_sz);exact Nat.le_of_ble_eq_true rfl)|exact pl_int|exact pl_str|exact pl_bl|exact pl_non|exact lenA_l|exact cpow_h (by unfold CPow; decide)|exact cmul_h (by unfold CMul; first|decide|omega)|((with_reducible first|apply lenA_h|apply plD_h);assumption)|(with_reducible first|apply i_itet|apply i_itef)|((with_reducible refine i_itepB ?_ ?_);(first|assumption|rfl))|((with_reducible refine i_itenB ?_ ?_);(first|assumption|rfl))|((with_reducible apply i_ite)<;>intro hif)))
section
variable {EA : AX} {ρ ρ' : AEnv} {Q : AK} {K : Fg} {CB CJ CN CBB CBE : Addr}
def jF (CB : Addr) (l : Lat) (es : List Ent) : List (Str × A) := [("_book", .v (bookD CB l)), ("_entries", .v (.tup (esD es)))]
def jD (CJ CB : Addr) (l : Lat) (es : List Ent) : D := .obj CJ [("_book", bookD CB l), ("_entries", .tup (esD es))]
theorem jD_inj {l m : Lat} {es fs : List Ent} (h : jD CJ CB l es = jD CJ CB m fs) : l = m ∧ es = fs := by
  simp only [jD, D.obj.injEq, List.cons.injEq, Prod.mk.injEq, D.tup.injEq, true_and, and_true] at h
  exact ⟨bookD_inj h.1, esD_inj h.2⟩
/-- a journal's entries -/
structure JOk (l : Lat) (es : List Ent) : Prop where
  nm : okNm l
  ok : okEs es
  le : es.length ≤ 400
  gd : goods (lGet l) [] none es = true
theorem JOk.fb {l : Lat} {es : List Ent} (h : JOk l es) : fbad (lGet l) [] none es 0 = none := (fbad_goods es [] none 0).mpr h.gd
theorem JOk.fix {l : Lat} {es : List Ent} (h : JOk l es) : FixOks [] es := goods_fix h.gd
def jiArgs (CJ CB : Addr) (i : FB) : List A := [.obj CJ [], .v (bookD CB i.l), .v (sqD i.b i.es)]
def jiOut (CJ CB : Addr) (i : FB) : List A := [.obj CJ (jF CB i.l i.es), .v (bookD CB i.l), .v (sqD i.b i.es)]
def spJInit (CJ CB : Addr) : ASp := spI (jiArgs CJ CB) (fun i => JOk i.l i.es) (fun _ => .rt (.v .non)) (jiOut CJ CB)
theorem k_mkJ {l : Lat} {es : List Ent} {b : Bool} {d : D} (hd : d = sqD b es) (h : JOk l es) (k : Q (.obj CJ (jF CB l es)) ρ) : mkSp CJ (spJInit CJ CB) [.v (bookD CB l), .v d] EA ρ Q := by
  subst hd
  exact i_mkI ⟨l, b, es⟩ rfl rfl h rfl rfl k
theorem k_first_good {l : Lat} {es : List Ent} {d : D} {b : Bool} (hd : d = sqD b es) (h : JOk l es) (k : Q (.v .non) ρ) : callA (spFirstBad CB) [.v (bookD CB l), .v d] EA ρ Q := by
  refine k_first_bad hd h.nm h.ok ?_
  rw [h.fb]
  exact k
theorem rd_JInit (cl : ClsI K CB) (hk : PySem.W.kitOne K (.ref CB) (.ref CB) = some true) : ∀ xs, (spJInit CJ CB).pre xs → as_Journal___init__ K CJ CBB CBE CB spIsRow (spFirstBad CB) (endsOf [0, 1, 2] (spJInit CJ CB) xs) (startA 4 xs) := rd_I (fun i j _ _ h => by
    cases i; cases j
    simp only [jiArgs, List.cons.injEq, A.v.injEq, and_true, true_and] at h
    obtain ⟨rfl, rfl⟩ := sqD_inj h.2
    rw [bookD_inj h.1]) fun i hi DA hR hN hX => by
  obtain ⟨l, b, es⟩ := i
  simp only at hi
  show as_Journal___init__ K CJ CBB CBE CB _ _ _ [some (.obj CJ []), some (.v (bookD CB l)), some (.v (sqD b es)), none]
  unfold as_Journal___init__ rs_Journal___init___2 rs_Journal___init___3 rs_Journal___init___4 rs_Journal___init___5 rs_Journal___init___6
  have hle := hi.le
  have h4 : decide ((400 : Int) < ((esD es).length : Nat)) = false := decide_eq_false (by simp [esD]; omega)
  cases b with
  | true =>
    simp only [sqD, if_true]
    (repeat' first|((with_reducible apply k_is_row);rfl)|walk_at "vs1")
    refine k_first_good (b := true) rfl hi ?_
    (repeat' walk_at "vs1")
    exact hN _ rfl rfl
  | false =>
    simp only [sqD, if_false]
    (repeat' first|((with_reducible apply k_is_row);rfl)|walk_at "vs1")
    refine k_first_good (b := false) rfl hi ?_
    (repeat' walk_at "vs1")
    exact hN _ rfl rfl
structure JE where
  l : Lat
  es : List Ent
def jeArgs (CJ CB : Addr) (i : JE) : List A := [.v (jD CJ CB i.l i.es)]
theorem je_inj {P : JE → Prop} : ∀ i j, P i → P j → jeArgs CJ CB i = jeArgs CJ CB j → i = j := fun i j _ _ h => by
  cases i; cases j
  simp only [jeArgs, List.cons.injEq, A.v.injEq, and_true] at h
  obtain ⟨rfl, rfl⟩ := jD_inj h
  rfl
theorem at_last {es : List Ent} {e : Ent} : itD (.tup (esD (es ++ [e]))) (.int (-1)) = some e.d := by
  show atI (esD (es ++ [e])) (-1) = _
  have e1 : (esD (es ++ [e])).length = es.length + 1 := by simp [esD]
  have e2 : ixN (esD (es ++ [e])).length (-1) = some es.length := by
    unfold ixN
    rw [e1, if_neg (by omega), if_pos (by omega)]
    congr 1
    omega
  unfold atI
  rw [e2]
  simp [esD]
theorem es_rev (es : List Ent) : es = [] ∨ ∃ fs e, es = fs ++ [e] := by
  rcases List.eq_nil_or_concat es with h | ⟨fs, e, h⟩
  · exact .inl h
  · exact .inr ⟨fs, e, by simpa using h⟩
def lastT (es : List Ent) : Int := (lastE none es).getD 0
theorem lastE_app {es : List Ent} {e : Ent} {x : Option Int} : lastE x (es ++ [e]) = some e.t := by simp [lastE]
/-! then -/
structure TH where
  l : Lat
  es : List Ent
  e : EO
def thArgs (CJ CB : Addr) (i : TH) : List A := [.v (jD CJ CB i.l i.es), .v i.e.d]
structure THOk (CB : Addr) (i : TH) : Prop where
  j : JOk i.l i.es
  e : okEO CB i.e
  le : i.es.length + 1 ≤ 400
def thE : EO → List Ent
  | .e x => [x]
  | .o _ => []
def thGood (i : TH) : Bool := goodX (lGet i.l) (runE [] i.es) (lastE none i.es) i.e
def thR (CJ CB CBE : Addr) (i : TH) : RX := if thGood i = true then .rt (.obj CJ (jF CB i.l (i.es ++ thE i.e))) else .xc CBE [("at", .int i.es.length)]
def spThen (CJ CB CBE : Addr) : ASp := spI (thArgs CJ CB) (THOk CB) (thR CJ CB CBE) (thArgs CJ CB)
theorem k_then {l : Lat} {es : List Ent} {e : Ent} (h : THOk CB ⟨l, es, .e e⟩) (hg : good (lGet l) (runE [] es) (lastE none es) e = true) (k : Q (.obj CJ (jF CB l (es ++ [e]))) ρ) : callA (spThen CJ CB CBE) [.v (jD CJ CB l es), .v e.d] EA ρ Q := i_callI ⟨l, es, .e e⟩ rfl h (if_pos hg) k
theorem k_thenX {l : Lat} {es : List Ent} {e : EO} (h : THOk CB ⟨l, es, e⟩) (hg : goodX (lGet l) (runE [] es) (lastE none es) e = false) (k : EA CBE [("at", .int es.length)] ρ) : callA (spThen CJ CB CBE) [.v (jD CJ CB l es), .v e.d] EA ρ Q := i_callX ⟨l, es, e⟩ rfl h (if_neg (by show ¬goodX _ _ _ _ = true; rw [hg]; exact Bool.false_ne_true)) k
theorem th_inj : ∀ i j, THOk CB i → THOk CB j → thArgs CJ CB i = thArgs CJ CB j → i = j := fun i j hi hj h => by
  obtain ⟨l, es, e⟩ := i
  obtain ⟨m, fs, f⟩ := j
  simp only [thArgs, List.cons.injEq, A.v.injEq, and_true] at h
  obtain ⟨rfl, rfl⟩ := jD_inj h.1
  have q : e = f := EO.inj hi.e hj.e h.2
  rw [q]
theorem jok_app {l : Lat} {es : List Ent} {e : Ent} (h : THOk CB ⟨l, es, .e e⟩) (hg : good (lGet l) (runE [] es) (lastE none es) e = true) : JOk l (es ++ [e]) where
  nm := h.j.nm
  ok := ⟨by have := h.le; simp at this ⊢; omega, fun x hx => by
    rcases List.mem_append.mp hx with hx | hx
    · exact h.j.ok.2 x hx
    · have : x = e := by simpa using hx
      subst this
      exact h.e⟩
  le := by have := h.le; simp at this ⊢; omega
  gd := by
    rw [goods_app, h.j.gd]
    simp [goods, hg]
theorem rd_then : ∀ xs, (spThen CJ CB CBE).pre xs → as_Journal_then CJ CBE (spFirstBad CB) (spJInit CJ CB) (endsOf [0, 1] (spThen CJ CB CBE) xs) (startA 3 xs) := rd_I th_inj fun i hi DA hR hN hX => by
  obtain ⟨l, es, e⟩ := i
  show as_Journal_then CJ CBE _ _ _ [some (.v (jD CJ CB l es)), some (.v e.d), none]
  unfold as_Journal_then rs_Journal_then_2 rs_Journal_then_3
  have hle : es.length + 1 ≤ 400 := hi.le
  have hd : D.tup (esD es ++ [e.d]) = sqX false (es.map EO.e ++ [e]) := by
    simp only [sqX, eoD, esD, List.map_append, List.map_map]
    rfl
  have h4 : decide ((400 : Int) < ((esD es ++ [e.d]).length : Nat)) = false := decide_eq_false (by simp [esD]; omega)
  have hok : okFX CB ⟨l, false, es.map EO.e ++ [e]⟩ := ⟨hi.j.nm, by simp; omega, fun x hx => by
    rcases List.mem_append.mp hx with hx | hx
    · obtain ⟨y, hy, rfl⟩ := List.mem_map.mp hx
      exact hi.j.ok.2 y hy
    · have : x = e := by simpa using hx
      subst this
      exact hi.e⟩
  cases hg : goodX (lGet l) (runE [] es) (lastE none es) e with
  | true =>
    cases e with
    | o d => cases hg
    | e e =>
      have fbe : fbX (lGet l) [] none (es.map EO.e ++ [.e e]) 0 = none := by
        have e1 : es.map EO.e ++ [.e e] = (es ++ [e]).map EO.e := by simp
        rw [e1, fbX_ents, fbad_app es [] none 0 hi.j.gd]
        exact if_pos hg
      have hd2 : D.tup (esD es ++ [e.d]) = sqD false (es ++ [e]) := by simp [sqD, esD]
      simp only [EO.d] at hd h4 ⊢
      (repeat' walk_at "vs1")
      · simp [esD]; omega
      · (repeat' walk_at "vs1")
        refine k_first_badX hd hok ?_
        rw [fbe]
        simp only [natD]
        (repeat' walk_at "vs1")
        refine k_mkJ hd2 (jok_app hi hg) ?_
        (repeat' walk_at "vs1")
        exact hR _ _ rfl (if_pos hg)
  | false =>
    have fbe : ∃ n, fbX (lGet l) [] none (es.map EO.e ++ [e]) 0 = some n := by
      cases e with
      | o d => exact ⟨_, fbX_odd es [] none 0 hi.j.gd⟩
      | e e =>
        have e1 : es.map EO.e ++ [.e e] = (es ++ [e]).map EO.e := by simp
        rw [e1, fbX_ents, fbad_app es [] none 0 hi.j.gd]
        refine ⟨_, if_neg ?_⟩
        show ¬good _ _ _ _ = true
        have hg' : good (lGet l) (runE [] es) (lastE none es) e = false := hg
        rw [hg']
        exact Bool.false_ne_true
    obtain ⟨n, fbe⟩ := fbe
    (repeat' walk_at "vs1")
    · simp [esD]; omega
    · (repeat' walk_at "vs1")
      refine k_first_badX hd hok ?_
      rw [fbe]
      simp only [natD]
      (repeat' walk_at "vs1")
      refine hX _ _ _ rfl ((if_neg (by show ¬goodX _ _ _ _ = true; rw [hg]; exact Bool.false_ne_true)).trans ?_)
      simp [esD]
/-! heard -/
structure HE where
  l : Lat
  es : List Ent
  h : D
def heArgs (CJ CB : Addr) (i : HE) : List A := [.v (jD CJ CB i.l i.es), .v i.h]
def byT (h : Int) (es : List Ent) : List Ent := es.filter fun e => decide (e.t ≤ h)
def heOk (CB : Addr) (i : HE) : Prop := i.es.length ≤ 1000 ∧ (∀ h, i.h = .int h → JOk i.l (byT h i.es)) ∧ okI CB i.h
def heR (CJ CB CM : Addr) (i : HE) : RX := match i.h with
  | .int h => .rt (.obj CJ (jF CB i.l (byT h i.es)))
  | d => .xc CM [("value", d)]
def spHeard (CJ CB CM : Addr) : ASp := spI (heArgs CJ CB) (heOk CB) (heR CJ CB CM) (heArgs CJ CB)
theorem k_heard {CM : Addr} {l : Lat} {es : List Ent} {h : Int} (h1 : es.length ≤ 1000) (h2 : JOk l (byT h es)) (k : Q (.obj CJ (jF CB l (byT h es))) ρ) : callA (spHeard CJ CB CM) [.v (jD CJ CB l es), .v (.int h)] EA ρ Q := i_callI ⟨l, es, .int h⟩ rfl ⟨h1, fun h' e => by cases e; exact h2, .inl rfl⟩ rfl k
theorem k_heardX {CM : Addr} {l : Lat} {es : List Ent} {d : D} (h1 : es.length ≤ 1000) (h2 : isIntD d = false) (h3 : okI CB d) (k : EA CM [("value", d)] ρ) : callA (spHeard CJ CB CM) [.v (jD CJ CB l es), .v d] EA ρ Q := i_callX ⟨l, es, d⟩ rfl ⟨h1, (fun h' e => by
    have e' : d = .int h' := e
    rw [e'] at h2
    cases h2), h3⟩ (by cases d <;> first | rfl | cases h2) k
theorem rd_heard {CM : Addr} : ∀ xs, (spHeard CJ CB CM).pre xs → as_Journal_heard CJ (spCheckMoment CB CM) (spJInit CJ CB) (endsOf [0, 1] (spHeard CJ CB CM) xs) (startA 3 xs) := rd_I (fun i j _ _ h => by
    cases i; cases j
    simp only [heArgs, List.cons.injEq, A.v.injEq, and_true] at h
    obtain ⟨rfl, rfl⟩ := jD_inj h.1
    rw [h.2]) fun i hi DA hR hN hX => by
  obtain ⟨l, es, d⟩ := i
  obtain ⟨h1, h2, h3⟩ := hi
  simp only at h1 h2 h3
  show as_Journal_heard CJ _ _ _ [some (.v (jD CJ CB l es)), some (.v d), none]
  unfold as_Journal_heard rs_Journal_heard_2
  cases hd : isIntD d with
  | false =>
    (repeat' walk_at "vs1")
    refine k_check_momentX h3 hd ?_
    refine hX _ _ _ rfl ?_
    cases d <;> first | rfl | cases hd
  | true =>
    cases d with
    | int h =>
      have h2 := h2 h rfl
      (repeat' first|((with_reducible apply k_check_moment))|walk_at "vs1")
      refine ⟨esD es, rfl, none1 rfl, lc_filt (fun d => match itD d (.int (-1)) with
        | some (.int t) => decide (t ≤ h)
        | _ => false) id trivial (by simp [esD]; omega) (fun x hx R N hR' hN' => ?_) ?_⟩
      · obtain ⟨e, _, rfl⟩ := List.mem_map.mp hx
        have e1 : itD e.d (.int (-1)) = some (.int e.t) := ent_last
        (repeat' walk_at "vs1")
        · exact hR' _ rfl (by simp only [e1]; exact hif)
        · exact hN' _ rfl (by simp only [e1]; simpa using hif)
      · rw [List.map_id]
        have e2 : D.lst ((esD es).filter fun d => match itD d (.int (-1)) with
            | some (.int t) => decide (t ≤ h)
            | _ => false) = sqD true (byT h es) := by
          simp only [sqD, byT, esD, if_true, List.filter_map, Function.comp_def, ent_last]
        (repeat' walk_at "vs1")
        refine k_mkJ e2 h2 ?_
        (repeat' walk_at "vs1")
        exact hR _ _ rfl rfl
    | _ => cases hd
/-! the property entries -/
def spEntriesP (CJ CB : Addr) : ASp := spI (jeArgs CJ CB) (fun _ => True) (fun i => .rt (.v (.tup (esD i.es)))) (jeArgs CJ CB)
theorem k_entriesP {l : Lat} {es : List Ent} (k : Q (.v (.tup (esD es))) ρ) : callA (spEntriesP CJ CB) [.v (jD CJ CB l es)] EA ρ Q := i_callI ⟨l, es⟩ rfl trivial rfl k
theorem i_propJ {ao : AE} {sp : ASp} (k : ao EA ρ fun o ρ1 => (∃ fs, dat o ρ1 = some (.obj CJ fs)) ∧ callA sp [o] noX ρ1 Q) : aProp CJ sp ao EA ρ Q := k
theorem rd_entriesP : ∀ xs, (spEntriesP CJ CB).pre xs → as_Journal_entries CJ (endsOf [0] (spEntriesP CJ CB) xs) (startA 1 xs) := rd_I je_inj fun i hi DA hR hN hX => by
  obtain ⟨l, es⟩ := i
  show as_Journal_entries CJ _ [some (.v (jD CJ CB l es))]
  unfold as_Journal_entries
  (repeat' walk_at "vs1")
  exact hR _ _ rfl rfl
end
end Law

set_option Elab.async false
set_option linter.all false
set_option maxRecDepth 100000
set_option maxHeartbeats 1000000
namespace Law
open PySem PySem.Spec PyProof.Rows L2 Vs
set_option hygiene false in
local macro_rules | `(tactic| walk_at "vs1") => `(tactic| (first|((with_reducible first|apply i_seq|apply i_next|apply i_expr|apply i_ret|apply i_retN|apply i_if|apply i_break|apply i_cont|apply i_set|apply i_putX|apply i_for|apply i_retv|apply i_retl|apply i_retd|apply i_reto|apply i_setv|apply i_setl|apply i_setd|apply i_seto|apply i_usev|apply i_usel|apply i_used|apply i_useo|apply i_uses0|apply i_uses1|apply i_c|apply i_op|apply i_un|apply i_test|apply i_tand|apply i_tor|apply i_tnot|apply i_and|apply i_or|apply i_not|apply i_ifx|apply i_chain|apply i_chnK|apply i_nil|apply i_cons|apply i_tup|apply i_lst|apply i_dict0|apply i_cb|apply i_frz|apply i_addi|apply i_adds|apply i_addt|apply i_addl|apply i_raise|apply i_forget|apply i_lc|apply i_dc|apply i_agName|apply i_yes|apply i_aiSeqV|apply i_append|apply i_meth0|apply i_make0|apply i_slice|apply i_aoNone|apply i_aoSome|apply i_agCons|apply i_agNil|apply i_asFld|apply i_get1|apply i_call0))|((with_reducible apply i_putK);rfl;(first|exact datV|exact datIv rfl|exact datL|exact datIl rfl|exact datD|exact datId rfl|exact datO|exact datIo rfl);(first|assumption|rfl))|((with_reducible first|apply i_reti|apply i_val|apply i_ref|apply i_appK|apply i_agTup);rfl)|((with_reducible first|apply i_isB|apply i_neg|apply i_int|apply i_isL|apply i_isI|apply i_isDc);(first|exact datV|exact datIv rfl|exact datL|exact datIl rfl|exact datD|exact datId rfl|exact datO|exact datIo rfl))|((with_reducible apply i_ix);(first|exact datV|exact datIv rfl|exact datL|exact datIl rfl|exact datD|exact datId rfl|exact datO|exact datIo rfl);(first|exact datV|exact datIv rfl|exact datL|exact datIl rfl|exact datD|exact datId rfl|exact datO|exact datIo rfl);(first|assumption|rfl))|((with_reducible first|apply i_plus|apply i_sub|apply i_lt|apply i_le|apply i_gt|apply i_ge|apply i_mul|apply i_mod|apply i_pow|apply i_div|apply i_eq|apply i_ne|apply i_is|apply i_isnot|apply i_max|apply i_min);(first|exact datV|exact datIv rfl|exact datL|exact datIl rfl|exact datD|exact datId rfl|exact datO|exact datIo rfl);(first|exact datV|exact datIv rfl|exact datL|exact datIl rfl|exact datD|exact datId rfl|exact datO|exact datIo rfl))|((with_reducible apply i_isi);(first|exact datV|exact datIv rfl|exact datL|exact datIl rfl|exact datD|exact datId rfl|exact datO|exact datIo rfl);(first|exact isi1 (by first|assumption|rfl) (by decide)|exact isi_lt (by first|assumption|rfl)|exact isi_own (by assumption) (by assumption)))|((with_reducible apply i_fldV);rfl;rfl)|((with_reducible first|apply i_len|apply i_list);(first|exact datV|exact datIv rfl|exact datL|exact datIl rfl|exact datD|exact datId rfl|exact datO|exact datIo rfl);(first|assumption|rfl))|((with_reducible apply i_objK);(first|exact datV|exact datIv rfl|exact datL|exact datIl rfl|exact datD|exact datId rfl|exact datO|exact datIo rfl);rfl)|((with_reducible apply i_fldK);rfl;(first|exact fs_nil|exact fs_one);exact Nat.le_of_ble_eq_true rfl)|((with_reducible apply i_getK);(first|exact datV|exact datIv rfl|exact datL|exact datIl rfl|exact datD|exact datId rfl|exact datO|exact datIo rfl);(first|exact datV|exact datIv rfl|exact datL|exact datIl rfl|exact datD|exact datId rfl|exact datO|exact datIo rfl);rfl;(first|assumption|rfl))|((with_reducible apply i_inD);(first|exact datV|exact datIv rfl|exact datL|exact datIl rfl|exact datD|exact datId rfl|exact datO|exact datIo rfl);(first|exact datV|exact datIv rfl|exact datL|exact datIl rfl|exact datD|exact datId rfl|exact datO|exact datIo rfl);rfl)|((with_reducible apply i_useiv);rfl)|((with_reducible apply i_useil);rfl)|((with_reducible apply i_useid);rfl)|((with_reducible apply i_tuplel);(first|exact datV|exact datIv rfl|exact datL|exact datIl rfl|exact datD|exact datId rfl|exact datO|exact datIo rfl))|((with_reducible apply i_tuplet);(first|exact datV|exact datIv rfl|exact datL|exact datIl rfl|exact datD|exact datId rfl|exact datO|exact datIo rfl))|((with_reducible apply i_slcT);(first|exact datV|exact datIv rfl|exact datL|exact datIl rfl|exact datD|exact datId rfl|exact datO|exact datIo rfl))|((with_reducible apply i_slcL);(first|exact datV|exact datIv rfl|exact datL|exact datIl rfl|exact datD|exact datId rfl|exact datO|exact datIo rfl))|((with_reducible apply i_ninD);(first|exact datV|exact datIv rfl|exact datL|exact datIl rfl|exact datD|exact datId rfl|exact datO|exact datIo rfl);(first|exact datV|exact datIv rfl|exact datL|exact datIl rfl|exact datD|exact datId rfl|exact datO|exact datIo rfl);rfl)|((with_reducible apply i_sz);exact Nat.le_of_ble_eq_true rfl)|exact pl_int|exact pl_str|exact pl_bl|exact pl_non|exact lenA_l|exact cpow_h (by unfold CPow; decide)|exact cmul_h (by unfold CMul; first|decide|omega)|((with_reducible first|apply lenA_h|apply plD_h);assumption)|(with_reducible first|apply i_itet|apply i_itef)|((with_reducible refine i_itepB ?_ ?_);(first|assumption|rfl))|((with_reducible refine i_itenB ?_ ?_);(first|assumption|rfl))|((with_reducible apply i_ite)<;>intro hif)))
section
variable {EA : AX} {ρ ρ' : AEnv} {Q : AK} {K : Fg} {CB CJ CN CBB CBE : Addr} {DA : AEnds}
theorem cpow_h {i j : Int} (h : CPow i j) : CPow i j := h
theorem cmul_h {i j : Int} (h : CMul i j) : CMul i j := h
theorem i_seqM {a b : AS} (M : AEnv → Prop) (h1 : ∀ k : AEnv → Prop, (∀ ρ, M ρ → k ρ) → a { DA with nx := k } ρ) (h2 : ∀ ρ, M ρ → b DA ρ) : asSeq a b DA ρ := h1 (b DA) h2
/-! the pool -/
def poolA (ns : List Int) (a b c e : Int) : A := .lst [.lst (ns.map .int), .int a, .int b, .int c, .int e]
def isPool (x : A) : Prop := ∃ (ns : List Int) (a b c e : Int), x = poolA ns a b c e ∧ 0 ≤ a ∧ 0 ≤ b
def intsV (ns : List Int) : List A := [.v (.lst (ns.map .int))]
theorem ints_inj {a b : List Int} (h : a.map D.int = b.map D.int) : a = b := map_inj (fun _ _ e => by cases e; rfl) h
def spPool : ASp := spR intsV (fun _ => True) (fun ns r xs' => isPool r ∧ xs' = intsV ns) (fun _ _ _ _ => False)
theorem rd_pool : ∀ xs, spPool.pre xs → as__law_pool (endsOf [0] spPool xs) (startA 1 xs) := rd_P (fun i j _ _ h => by
    simp only [intsV, List.cons.injEq, A.v.injEq, D.lst.injEq, and_true] at h
    exact ints_inj h) fun ns _ DA hR hN hX => by
  show as__law_pool _ [some (.v (.lst (ns.map .int)))]
  unfold as__law_pool
  (repeat' walk_at "vs1")
  exact hR _ _ _ rfl ⟨⟨ns, 0, 0, 0, 1, rfl, by decide, by decide⟩, rfl⟩
theorem k_pool {ns : List Int} (k : ∀ p, isPool p → Q p ρ) : callA spPool [.v (.lst (ns.map .int))] EA ρ Q := i_callR ns rfl trivial (fun r ys' ⟨h1, h2⟩ _ => by subst h2; exact k r h1) (fun _ _ _ h => h.elim)
/-! draws -/
structure DW where
  p : A
  m : Int
def dwArgs (i : DW) : List A := [i.p, .v (.int i.m)]
structure DWOk (i : DW) : Prop where
  p : isPool i.p
  lo : 0 < i.m
  hi : i.m.natAbs < 2 ^ 200
def spDraw : ASp := spR dwArgs DWOk (fun i r xs' => ∃ z p', r = .v (.int z) ∧ 0 ≤ z ∧ z < i.m ∧ isPool p' ∧ xs' = [p', .v (.int i.m)]) (fun _ _ _ _ => False)
theorem isPool_loc {p : A} (h : isPool p) : isLoc p = false := by
  obtain ⟨ns, a, b, c, e, rfl, _⟩ := h
  rfl
theorem pass2 {i : Nat} {p x : A} (hp : ρ[i]? = some (some p)) (hx : isLoc x = false) : pass [.loc i, x] ρ = some ([p, x], ρ.set i none) := by
  simp only [pass, hp]
  cases x <;> first | rfl | cases hx
theorem set2 {i : Nat} {x y : Option A} : (ρ.set i x).set i y = ρ.set i y := List.set_set ..
theorem k_draw {i : Nat} {p : A} {m : Int} (hp : ρ[i]? = some (some p)) (h : isPool p) (h0 : 0 < m) (h1 : m.natAbs < 2 ^ 200) (k : ∀ z p', 0 ≤ z → z < m → isPool p' → Q (.v (.int z)) (ρ.set i (some p'))) : callA spDraw [.loc i, .v (.int m)] EA ρ Q := by
  refine i_callR (ρ' := ρ.set i none) ⟨p, m⟩ (pass2 hp rfl) ⟨h, h0, h1⟩ (fun r ys' q _ => ?_) (fun _ _ _ h => h.elim)
  obtain ⟨z, p', rfl, hz0, hz1, hp', rfl⟩ := q
  show Q _ ((ρ.set i none).set i (some p'))
  rw [set2]
  exact k z p' hz0 hz1 hp'
theorem cdivw {i j : Int} (h : 0 < j) (h2 : j.natAbs < 2 ^ 200) : CDivW i j := wide_div (b := 200) h h2 (by decide) (by decide)
theorem at_ints {ns : List Int} {a : Int} (h0 : 0 ≤ a) (h1 : a < ns.length) : ∃ z, itD (.lst (ns.map .int)) (.int a) = some (.int z) := by
  refine ⟨ns[a.toNat]'(by omega), ?_⟩
  have e : a = ((a.toNat : Nat) : Int) := by omega
  have h := at_nat (xs := ns.map D.int) (k := a.toNat) (by simp; omega)
  rw [← e] at h
  show atI _ a = _
  rw [h, List.getElem?_map, List.getElem?_eq_getElem (by omega)]
  rfl
section
variable {ns : List Int} {a b c e m : Int} {o2 o3 o4 : Option A}
theorem draw_4 (hR : ∀ z p' o2 o3 o4, 0 ≤ z → z < m → isPool p' → DA.rt (.v (.int z)) [some p', some (.v (.int m)), o2, o3, o4]) (ha : 0 ≤ a) (hb : 0 ≤ b) (hm : 0 < m) (hm2 : m.natAbs < 2 ^ 200) : rs__law_draw_4 DA [some (poolA ns a b c e), some (.v (.int m)), o2, o3, o4] := by
  unfold rs__law_draw_4 rs__law_draw_5 rs__law_draw_6 rs__law_draw_7 rs__law_draw_8 poolA
  (repeat' walk_at "vs1")
  all_goals (first | assumption | exact cdivw (by decide) (by decide) | decide | (unfold CMul; omega) | (unfold CPow; decide) | skip)
  exact hR _ _ _ _ _ (Int.emod_nonneg _ (by omega)) (Int.emod_lt_of_pos _ hm) ⟨ns, a, b, c, _, rfl, ha, hb⟩
theorem draw_3 (hR : ∀ z p' o2 o3 o4, 0 ≤ z → z < m → isPool p' → DA.rt (.v (.int z)) [some p', some (.v (.int m)), o2, o3, o4]) (ha : 0 ≤ a) (hb : 0 ≤ b) (hm : 0 < m) (hm2 : m.natAbs < 2 ^ 200) : rs__law_draw_3 DA [some (poolA ns a b c e), some (.v (.int m)), o2, o3, o4] := by
  unfold rs__law_draw_3 poolA
  (repeat' walk_at "vs1")
  · assumption
  · exact cdivw hm hm2
  · exact hR _ _ _ _ _ (Int.emod_nonneg _ (by omega)) (Int.emod_lt_of_pos _ hm) ⟨ns, a, b / m, c, e, rfl, ha, Int.ediv_nonneg hb (by omega)⟩
  · exact draw_4 hR ha hb hm hm2
theorem rd_draw : ∀ xs, spDraw.pre xs → as__law_draw (endsOf [0, 1] spDraw xs) (startA 5 xs) := rd_P (fun i j _ _ h => by
    cases i; cases j
    simp only [dwArgs, List.cons.injEq, A.v.injEq, D.int.injEq, and_true] at h
    rw [h.1, h.2]) fun i hi DA hR hN hX => by
  obtain ⟨p, m⟩ := i
  obtain ⟨⟨ns, a, b, c, e, h1, ha, hb⟩, hm, hm2⟩ := hi
  simp only at h1 hm hm2
  subst h1
  have hR' : ∀ z p' o2 o3 o4, 0 ≤ z → z < m → isPool p' → DA.rt (.v (.int z)) [some p', some (.v (.int m)), o2, o3, o4] := fun z p' o2 o3 o4 h0 h1 h2 => hR _ _ _ (by simp [fin, dwArgs]) ⟨z, p', rfl, h0, h1, h2, rfl⟩
  show as__law_draw _ [some (poolA ns a b c e), some (.v (.int m)), none, none, none]
  unfold as__law_draw rs__law_draw_2
  have go : ∀ {o : Option A}, rs__law_draw_3 DA [some (poolA ns a b (c + 1) e), some (.v (.int m)), o, none, none] := draw_3 hR' ha hb hm hm2
  unfold poolA
  (repeat' walk_at "vs1")
  · obtain ⟨z, hz⟩ := at_ints (ns := ns) ha (by simpa using hif)
    refine i_ix datV datV hz ?_
    (repeat' walk_at "vs1")
    all_goals (first | assumption | exact cdivw (by decide) (by decide) | decide | (unfold CMul; omega) | (unfold CPow; decide) | skip)
    · have h4 : (10 : Int) ^ Int.toNat 18 ≤ z := of_decide_eq_true hif
      have h5 : (0 : Int) ≤ z := Int.le_trans (by decide) h4
      exact draw_3 (ns := ns) (a := a + 1) (b := z) (c := c + 1) (e := e) hR' (by omega) h5 hm hm2
    · exact draw_3 (ns := ns) (a := a + 1) (b := b) (c := c + 1) hR' (by omega) hb hm hm2
  · exact go
  · exact go
end
/-! amounts -/
def oneA (p : A) : List A := [p]
theorem oneA_inj {P : A → Prop} : ∀ i j, P i → P j → oneA i = oneA j → i = j := fun i j _ _ h => by
  simp only [oneA, List.cons.injEq, and_true] at h
  exact h
def spAmount : ASp := spR oneA isPool (fun p r xs' => ∃ z p', r = .v (.int z) ∧ isPool p' ∧ xs' = [p']) (fun _ _ _ _ => False)
theorem k_amount {i : Nat} {p : A} (hp : ρ[i]? = some (some p)) (h : isPool p) (k : ∀ z p', isPool p' → Q (.v (.int z)) (ρ.set i (some p'))) : callA spAmount [.loc i] EA ρ Q := by
  refine i_callR (ρ' := ρ.set i none) p (by simp only [pass, hp, oneA]) h (fun r ys' q _ => ?_) (fun _ _ _ h => h.elim)
  obtain ⟨z, p', rfl, hp', rfl⟩ := q
  show Q _ ((ρ.set i none).set i (some p'))
  rw [set2]
  exact k z p' hp'
theorem rd_amount : ∀ xs, spAmount.pre xs → as__law_amount spDraw (endsOf [0] spAmount xs) (startA 1 xs) := rd_P oneA_inj fun p hp DA hR hN hX => by
  show as__law_amount _ _ [some p]
  unfold as__law_amount rs__law_amount_2
  (repeat' first|((with_reducible apply k_draw);rfl;assumption;(first|assumption|decide|omega);(first|assumption|decide|omega);intro zz pp hz0 hz1 hpp)|walk_at "vs1")
  all_goals exact hR _ _ _ rfl ⟨_, _, rfl, by assumption, rfl⟩
theorem rd_begin : ∀ xs, spAmount.pre xs → as__law_begin spDraw (endsOf [0] spAmount xs) (startA 1 xs) := rd_P oneA_inj fun p hp DA hR hN hX => by
  show as__law_begin _ _ [some p]
  unfold as__law_begin rs__law_begin_2
  (repeat' first|((with_reducible apply k_draw);rfl;assumption;(first|assumption|decide|omega);(first|assumption|decide|omega);intro zz pp hz0 hz1 hpp)|walk_at "vs1")
  all_goals exact hR _ _ _ rfl ⟨_, _, rfl, by assumption, rfl⟩
/-! names -/
theorem it_lets {z : Int} (h0 : 0 ≤ z) (h1 : z < 26) : ∃ c, c ∈ lets.cps.toList ∧ itD (.str (Str.ofString "abcdefghijklmnopqrstuvwxyz")) (.int z) = some (.str ⟨#[c]⟩) := by
  have e : z = ((z.toNat : Nat) : Int) := by omega
  have hl : lets.cps.toList.length = 26 := by decide
  refine ⟨lets.cps.toList[z.toNat]'(by omega), List.getElem_mem _, ?_⟩
  have h := at_nat (xs := lets.cps.toList) (k := z.toNat) (by omega)
  rw [← e, List.getElem?_eq_getElem (by omega)] at h
  have e3 : itD (.str lets) (.int z) = if lets.length ≤ 100000 then (atI lets.cps.toList z).map (fun ch => .str ⟨#[ch]⟩) else none := rfl
  show itD (.str lets) (.int z) = _
  rw [e3, if_pos (by decide), h]
  rfl
def partS (x : Str) : Prop := ∀ c ∈ x.cps.toList, c ∈ lets.cps.toList
theorem nameS_iff {x : Str} : nameS x = true ↔ 1 ≤ x.length ∧ x.length ≤ 8 ∧ partS x := by
  simp only [nameS, partS, Bool.and_eq_true, decide_eq_true_eq, List.all_eq_true, and_assoc]
theorem str_app {x : Str} {c : Nat} : (x ++ (⟨#[c]⟩ : Str)).cps.toList = x.cps.toList ++ [c] := by
  show (x.cps ++ #[c]).toList = _
  simp
theorem part0 : partS (Str.ofString "") := fun c hc => by
  have e : (Str.ofString "").cps.toList = [] := by decide
  rw [e] at hc
  cases hc
theorem len0 : (Str.ofString "").length = 0 := by decide
theorem str_len {x : Str} : x.length = x.cps.toList.length := by simp [Str.length]
def strsD (ns : List Str) : List D := ns.map .str
theorem strs_inj {a b : List Str} (h : strsD a = strsD b) : a = b := map_inj (fun _ _ e => by cases e; rfl) h
theorem pl_strs (ns : List Str) : ∀ z ∈ strsD ns, PlD 20 z := fun z hz => by
  obtain ⟨n, _, rfl⟩ := List.mem_map.mp hz
  exact pl_str
structure NMOk (i : DW) : Prop where
  p : isPool i.p
  lo : 0 ≤ i.m
  hi : i.m ≤ 1000
def spNames : ASp := spR dwArgs NMOk (fun i r xs' => ∃ (ns : List Str) (p' : A), r = .lst (strsD ns) ∧ (ns.length : Int) = i.m ∧ (∀ n ∈ ns, nameS n = true) ∧ isPool p' ∧ xs' = [p', .v (.int i.m)]) (fun _ _ _ _ => False)
theorem k_names {i : Nat} {p : A} {m : Int} (hp : ρ[i]? = some (some p)) (h : isPool p) (h0 : 0 ≤ m) (h1 : m ≤ 1000) (k : ∀ (ns : List Str) p', (ns.length : Int) = m → (∀ n ∈ ns, nameS n = true) → isPool p' → Q (.lst (strsD ns)) (ρ.set i (some p'))) : callA spNames [.loc i, .v (.int m)] EA ρ Q := by
  refine i_callR (ρ' := ρ.set i none) ⟨p, m⟩ (pass2 hp rfl) ⟨h, h0, h1⟩ (fun r ys' q _ => ?_) (fun _ _ _ h => h.elim)
  obtain ⟨ns, p', rfl, h1, h2, hp', rfl⟩ := q
  show Q _ ((ρ.set i none).set i (some p'))
  rw [set2]
  exact k ns p' h1 h2 hp'
theorem rd_names : ∀ xs, spNames.pre xs → as__law_names spDraw (endsOf [0, 1] spNames xs) (startA 9 xs) := rd_P (fun i j _ _ h => by
    cases i; cases j
    simp only [dwArgs, List.cons.injEq, A.v.injEq, D.int.injEq, and_true] at h
    rw [h.1, h.2]) fun i hi DA hR hN hX => by
  obtain ⟨p, m⟩ := i
  obtain ⟨hp, h0, h1⟩ := hi
  simp only at hp h0 h1 hR
  show as__law_names _ _ [some p, some (.v (.int m)), none, none, none, none, none, none, none]
  unfold as__law_names rs__law_names_2 rs__law_names_3 rs__law_names_4
  (repeat' walk_at "vs1")
  refine i_rng1 ?_
  (repeat' walk_at "vs1")
  refine ⟨_, m, rfl, rfl, by omega, by omega, ?_⟩
  refine for_rec (fun xs ρ => ∃ (p : A) (ns : List Str) (L : List D) (o4 o5 o6 o7 o8 : Option A), isPool p ∧ L = strsD ns ∧ (∀ n ∈ ns, nameS n = true) ∧ (ns.length : Int) + xs.length = m ∧ ρ = [some p, some (.v (.int m)), some (.v (.str (Str.ofString "abcdefghijklmnopqrstuvwxyz"))), some (.lst L), o4, o5, o6, o7, o8]) ?_ ?_ _ _ ⟨p, [], [], none, none, none, none, none, hp, rfl, (fun _ h => nomatch h), by simp [intsD]; omega, rfl⟩
  · rintro ρ ⟨p, ns, L, o4, o5, o6, o7, o8, hp, rfl, hn, hl, rfl⟩
    refine ⟨trivial, ?_⟩
    (repeat' walk_at "vs1")
    exact hR _ _ _ rfl ⟨ns, p, rfl, by simpa using hl, hn, hp, rfl⟩
  · rintro x xs ρ ⟨p, ns, L, o4, o5, o6, o7, o8, hp, rfl, hn, hl, rfl⟩ ih
    refine ⟨trivial, ?_⟩
    unfold bd__law_names_3
    refine i_agName (i_seq (i_set (i_c (i_setv ?_))))
    with_reducible refine i_seqM (fun ρ => ∃ (p : A) (n : Int) (o4 : Option A), isPool p ∧ 1 ≤ n ∧ n ≤ 8 ∧ ρ = [some p, some (.v (.int m)), some (.v (.str (Str.ofString "abcdefghijklmnopqrstuvwxyz"))), some (.lst (strsD ns)), o4, some (.v (.int n)), o6, o7, o8]) (fun k hk => ?_) ?_
    · (repeat' first|((with_reducible apply k_draw);rfl;assumption;(first|assumption|decide|omega);(first|assumption|decide|omega);intro zz pp hz0 hz1 hpp)|walk_at "vs1")
      · exact hk _ ⟨_, _, _, by assumption, by omega, by omega, rfl⟩
      · exact hk _ ⟨_, _, _, by assumption, by omega, by omega, rfl⟩
    · rintro ρ ⟨p, n, o4, hp, hn1, hn2, rfl⟩
      (repeat' walk_at "vs1")
      refine i_rng1 ?_
      (repeat' walk_at "vs1")
      refine ⟨_, n, rfl, rfl, by omega, by omega, ?_⟩
      refine for_rec (fun ys ρ => ∃ (p : A) (y : Str) (o7 : Option A), isPool p ∧ partS y ∧ (y.length : Int) + ys.length = n ∧ ρ = [some p, some (.v (.int m)), some (.v (.str (Str.ofString "abcdefghijklmnopqrstuvwxyz"))), some (.lst (strsD ns)), o4, some (.v (.int n)), some (.v (.str y)), o7, o8]) ?_ ?_ _ _ ⟨p, "", _, hp, part0, by rw [len0]; simp [intsD]; omega, rfl⟩
      · rintro ρ ⟨p, y, o7, hp, hy, hyl, rfl⟩
        refine ⟨trivial, ?_⟩
        have hyn : nameS y = true := nameS_iff.mpr ⟨by simp at hyl; omega, by simp at hyl; omega, hy⟩
        (repeat' walk_at "vs1")
        refine ⟨chrs lets, rfl, ?_⟩
        refine for_rec (fun ys ρ => ∃ (p : A) (y : Str) (o8 : Option A), isPool p ∧ nameS y = true ∧ (∀ z ∈ ys, ∃ c ∈ lets.cps.toList, z = .str ⟨#[c]⟩) ∧ ρ = [some p, some (.v (.int m)), some (.v (.str (Str.ofString "abcdefghijklmnopqrstuvwxyz"))), some (.lst (strsD ns)), o4, some (.v (.int n)), some (.v (.str y)), o7, o8]) ?_ ?_ _ _ ⟨p, y, o8, hp, hyn, fun z hz => by obtain ⟨c, hc, rfl⟩ := List.mem_map.mp hz; exact ⟨c, hc, rfl⟩, rfl⟩
        · rintro ρ ⟨p, y, o8, hp, hyn, _, rfl⟩
          refine ⟨trivial, ?_⟩
          (repeat' walk_at "vs1")
          · simp only [strsD, List.length_map]; omega
          · refine ih _ ⟨p, ns ++ [y], _, _, _, _, _, _, hp, by simp [strsD], fun z hz => ?_, by simp at hl ⊢; omega, rfl⟩
            rcases List.mem_append.mp hz with hz | hz
            · exact hn z hz
            · have : z = y := by simpa using hz
              rw [this]; exact hyn
        · rintro z ys ρ ⟨p, y, o8, hp, hyn, hz, rfl⟩ ih2
          obtain ⟨c, hc, rfl⟩ := hz z (List.mem_cons_self ..)
          have hcn : nameS ⟨#[c]⟩ = true := nameS_iff.mpr ⟨by simp [Str.length], by simp [Str.length], fun d hd => by
            have : d = c := by simpa using hd
            rw [this]; exact hc⟩
          refine ⟨trivial, ?_⟩
          unfold bd__law_names_2
          (repeat' walk_at "vs1")
          refine i_inL datV (datIl rfl) pl_str (pl_strs ns) ?_
          (repeat' walk_at "vs1")
          · refine i_ninL datV (datIl rfl) pl_str (pl_strs ns) ?_
            (repeat' walk_at "vs1")
            · exact ih2 _ ⟨p, _, _, hp, hcn, fun w hw => hz w (List.mem_cons_of_mem _ hw), rfl⟩
            · exact ih2 _ ⟨p, _, _, hp, hyn, fun w hw => hz w (List.mem_cons_of_mem _ hw), rfl⟩
          · exact ih2 _ ⟨p, _, _, hp, hyn, fun w hw => hz w (List.mem_cons_of_mem _ hw), rfl⟩
      · rintro z ys ρ ⟨p, y, o7, hp, hy, hyl, rfl⟩ ih2
        refine ⟨trivial, ?_⟩
        unfold bd__law_names_1
        (repeat' first|((with_reducible apply k_draw);rfl;assumption;(first|assumption|decide|omega);(first|assumption|decide|omega);intro zz pp hz0 hz1 hpp)|walk_at "vs1")
        obtain ⟨c, hc, hi⟩ := it_lets hz0 hz1
        refine i_ix datV datV hi ?_
        (repeat' walk_at "vs1")
        · show y.length + 1 ≤ 100000
          simp at hyl
          omega
        · refine ih2 _ ⟨_, _, _, hpp, fun d hd => ?_, ?_, rfl⟩
          · rw [str_app] at hd
            rcases List.mem_append.mp hd with hd | hd
            · exact hy d hd
            · have : d = c := by simpa using hd
              rw [this]; exact hc
          · have : (y ++ (⟨#[c]⟩ : Str)).length = y.length + 1 := by rw [str_len, str_app, str_len]; simp
            rw [this]
            simp at hyl ⊢
            omega
end
end Law

set_option Elab.async false
set_option linter.all false
set_option maxRecDepth 100000
set_option maxHeartbeats 1000000
namespace Law
open PySem PySem.Spec PyProof.Rows L2 Vs
set_option hygiene false in
local macro_rules | `(tactic| walk_at "vs1") => `(tactic| (first|((with_reducible first|apply i_seq|apply i_next|apply i_expr|apply i_ret|apply i_retN|apply i_if|apply i_break|apply i_cont|apply i_set|apply i_putX|apply i_for|apply i_retv|apply i_retl|apply i_retd|apply i_reto|apply i_setv|apply i_setl|apply i_setd|apply i_seto|apply i_usev|apply i_usel|apply i_used|apply i_useo|apply i_uses0|apply i_uses1|apply i_c|apply i_op|apply i_un|apply i_test|apply i_tand|apply i_tor|apply i_tnot|apply i_and|apply i_or|apply i_not|apply i_ifx|apply i_chain|apply i_chnK|apply i_nil|apply i_cons|apply i_tup|apply i_lst|apply i_dict0|apply i_cb|apply i_frz|apply i_addi|apply i_adds|apply i_addt|apply i_addl|apply i_raise|apply i_forget|apply i_lc|apply i_dc|apply i_agName|apply i_yes|apply i_aiSeqV|apply i_append|apply i_meth0|apply i_make0|apply i_slice|apply i_aoNone|apply i_aoSome|apply i_agCons|apply i_agNil|apply i_asFld|apply i_get1|apply i_call0))|((with_reducible apply i_putK);rfl;(first|exact datV|exact datIv rfl|exact datL|exact datIl rfl|exact datD|exact datId rfl|exact datO|exact datIo rfl);(first|assumption|rfl))|((with_reducible first|apply i_reti|apply i_val|apply i_ref|apply i_appK|apply i_agTup);rfl)|((with_reducible first|apply i_isB|apply i_neg|apply i_int|apply i_isL|apply i_isI|apply i_isDc);(first|exact datV|exact datIv rfl|exact datL|exact datIl rfl|exact datD|exact datId rfl|exact datO|exact datIo rfl))|((with_reducible apply i_ix);(first|exact datV|exact datIv rfl|exact datL|exact datIl rfl|exact datD|exact datId rfl|exact datO|exact datIo rfl);(first|exact datV|exact datIv rfl|exact datL|exact datIl rfl|exact datD|exact datId rfl|exact datO|exact datIo rfl);(first|assumption|rfl))|((with_reducible first|apply i_plus|apply i_sub|apply i_lt|apply i_le|apply i_gt|apply i_ge|apply i_mul|apply i_mod|apply i_pow|apply i_div|apply i_eq|apply i_ne|apply i_is|apply i_isnot|apply i_max|apply i_min);(first|exact datV|exact datIv rfl|exact datL|exact datIl rfl|exact datD|exact datId rfl|exact datO|exact datIo rfl);(first|exact datV|exact datIv rfl|exact datL|exact datIl rfl|exact datD|exact datId rfl|exact datO|exact datIo rfl))|((with_reducible apply i_isi);(first|exact datV|exact datIv rfl|exact datL|exact datIl rfl|exact datD|exact datId rfl|exact datO|exact datIo rfl);(first|exact isi1 (by first|assumption|rfl) (by decide)|exact isi_lt (by first|assumption|rfl)|exact isi_own (by assumption) (by assumption)))|((with_reducible apply i_fldV);rfl;rfl)|((with_reducible first|apply i_len|apply i_list);(first|exact datV|exact datIv rfl|exact datL|exact datIl rfl|exact datD|exact datId rfl|exact datO|exact datIo rfl);(first|assumption|rfl))|((with_reducible apply i_objK);(first|exact datV|exact datIv rfl|exact datL|exact datIl rfl|exact datD|exact datId rfl|exact datO|exact datIo rfl);rfl)|((with_reducible apply i_fldK);rfl;(first|exact fs_nil|exact fs_one);exact Nat.le_of_ble_eq_true rfl)|((with_reducible apply i_getK);(first|exact datV|exact datIv rfl|exact datL|exact datIl rfl|exact datD|exact datId rfl|exact datO|exact datIo rfl);(first|exact datV|exact datIv rfl|exact datL|exact datIl rfl|exact datD|exact datId rfl|exact datO|exact datIo rfl);rfl;(first|assumption|rfl))|((with_reducible apply i_inD);(first|exact datV|exact datIv rfl|exact datL|exact datIl rfl|exact datD|exact datId rfl|exact datO|exact datIo rfl);(first|exact datV|exact datIv rfl|exact datL|exact datIl rfl|exact datD|exact datId rfl|exact datO|exact datIo rfl);rfl)|((with_reducible apply i_useiv);rfl)|((with_reducible apply i_useil);rfl)|((with_reducible apply i_useid);rfl)|((with_reducible apply i_tuplel);(first|exact datV|exact datIv rfl|exact datL|exact datIl rfl|exact datD|exact datId rfl|exact datO|exact datIo rfl))|((with_reducible apply i_tuplet);(first|exact datV|exact datIv rfl|exact datL|exact datIl rfl|exact datD|exact datId rfl|exact datO|exact datIo rfl))|((with_reducible apply i_slcT);(first|exact datV|exact datIv rfl|exact datL|exact datIl rfl|exact datD|exact datId rfl|exact datO|exact datIo rfl))|((with_reducible apply i_slcL);(first|exact datV|exact datIv rfl|exact datL|exact datIl rfl|exact datD|exact datId rfl|exact datO|exact datIo rfl))|((with_reducible apply i_ninD);(first|exact datV|exact datIv rfl|exact datL|exact datIl rfl|exact datD|exact datId rfl|exact datO|exact datIo rfl);(first|exact datV|exact datIv rfl|exact datL|exact datIl rfl|exact datD|exact datId rfl|exact datO|exact datIo rfl);rfl)|((with_reducible apply i_sz);exact Nat.le_of_ble_eq_true rfl)|exact pl_int|exact pl_str|exact pl_bl|exact pl_non|exact lenA_l|exact cpow_h (by unfold CPow; decide)|exact cmul_h (by unfold CMul; first|decide|omega)|((with_reducible first|apply lenA_h|apply plD_h);assumption)|(with_reducible first|apply i_itet|apply i_itef)|((with_reducible refine i_itepB ?_ ?_);(first|assumption|rfl))|((with_reducible refine i_itenB ?_ ?_);(first|assumption|rfl))|((with_reducible apply i_ite)<;>intro hif)))
set_option hygiene false in
local macro_rules | `(tactic| walk_at "vs2") => `(tactic| (first|((with_reducible first|apply i_expr|apply i_ret|apply i_retN|apply i_break|apply i_cont|apply i_set|apply i_putX|apply i_retv|apply i_retl|apply i_retd|apply i_reto|apply i_setv|apply i_setl|apply i_setd|apply i_seto|apply i_usev|apply i_usel|apply i_used|apply i_useo|apply i_uses0|apply i_uses1|apply i_c|apply i_op|apply i_un|apply i_test|apply i_tand|apply i_tor|apply i_tnot|apply i_and|apply i_or|apply i_not|apply i_ifx|apply i_chain|apply i_chnK|apply i_nil|apply i_cons|apply i_tup|apply i_lst|apply i_dict0|apply i_cb|apply i_frz|apply i_addi|apply i_adds|apply i_addt|apply i_addl|apply i_raise|apply i_forget|apply i_lc|apply i_dc|apply i_agName|apply i_yes|apply i_aiSeqV|apply i_append|apply i_meth0|apply i_make0|apply i_slice|apply i_aoNone|apply i_aoSome|apply i_agCons|apply i_agNil|apply i_asFld|apply i_get1|apply i_call0))|((with_reducible apply i_putK);rfl;(first|exact datV|exact datIv rfl|exact datL|exact datIl rfl|exact datD|exact datId rfl|exact datO|exact datIo rfl);(first|assumption|rfl))|((with_reducible first|apply i_reti|apply i_val|apply i_ref|apply i_appK|apply i_agTup);rfl)|((with_reducible first|apply i_isB|apply i_neg|apply i_int|apply i_isL|apply i_isI|apply i_isDc);(first|exact datV|exact datIv rfl|exact datL|exact datIl rfl|exact datD|exact datId rfl|exact datO|exact datIo rfl))|((with_reducible apply i_ix);(first|exact datV|exact datIv rfl|exact datL|exact datIl rfl|exact datD|exact datId rfl|exact datO|exact datIo rfl);(first|exact datV|exact datIv rfl|exact datL|exact datIl rfl|exact datD|exact datId rfl|exact datO|exact datIo rfl);(first|assumption|rfl))|((with_reducible first|apply i_plus|apply i_sub|apply i_lt|apply i_le|apply i_gt|apply i_ge|apply i_mul|apply i_mod|apply i_pow|apply i_div|apply i_eq|apply i_ne|apply i_is|apply i_isnot|apply i_max|apply i_min);(first|exact datV|exact datIv rfl|exact datL|exact datIl rfl|exact datD|exact datId rfl|exact datO|exact datIo rfl);(first|exact datV|exact datIv rfl|exact datL|exact datIl rfl|exact datD|exact datId rfl|exact datO|exact datIo rfl))|((with_reducible apply i_isi);(first|exact datV|exact datIv rfl|exact datL|exact datIl rfl|exact datD|exact datId rfl|exact datO|exact datIo rfl);(first|exact isi1 (by first|assumption|rfl) (by decide)|exact isi_lt (by first|assumption|rfl)|exact isi_own (by assumption) (by assumption)))|((with_reducible apply i_fldV);rfl;rfl)|((with_reducible first|apply i_len|apply i_list);(first|exact datV|exact datIv rfl|exact datL|exact datIl rfl|exact datD|exact datId rfl|exact datO|exact datIo rfl);(first|assumption|rfl))|((with_reducible apply i_objK);(first|exact datV|exact datIv rfl|exact datL|exact datIl rfl|exact datD|exact datId rfl|exact datO|exact datIo rfl);rfl)|((with_reducible apply i_fldK);rfl;(first|exact fs_nil|exact fs_one);exact Nat.le_of_ble_eq_true rfl)|((with_reducible apply i_getK);(first|exact datV|exact datIv rfl|exact datL|exact datIl rfl|exact datD|exact datId rfl|exact datO|exact datIo rfl);(first|exact datV|exact datIv rfl|exact datL|exact datIl rfl|exact datD|exact datId rfl|exact datO|exact datIo rfl);rfl;(first|assumption|rfl))|((with_reducible apply i_inD);(first|exact datV|exact datIv rfl|exact datL|exact datIl rfl|exact datD|exact datId rfl|exact datO|exact datIo rfl);(first|exact datV|exact datIv rfl|exact datL|exact datIl rfl|exact datD|exact datId rfl|exact datO|exact datIo rfl);rfl)|((with_reducible apply i_useiv);rfl)|((with_reducible apply i_useil);rfl)|((with_reducible apply i_useid);rfl)|((with_reducible apply i_tuplel);(first|exact datV|exact datIv rfl|exact datL|exact datIl rfl|exact datD|exact datId rfl|exact datO|exact datIo rfl))|((with_reducible apply i_tuplet);(first|exact datV|exact datIv rfl|exact datL|exact datIl rfl|exact datD|exact datId rfl|exact datO|exact datIo rfl))|((with_reducible apply i_slcT);(first|exact datV|exact datIv rfl|exact datL|exact datIl rfl|exact datD|exact datId rfl|exact datO|exact datIo rfl))|((with_reducible apply i_slcL);(first|exact datV|exact datIv rfl|exact datL|exact datIl rfl|exact datD|exact datId rfl|exact datO|exact datIo rfl))|((with_reducible apply i_ninD);(first|exact datV|exact datIv rfl|exact datL|exact datIl rfl|exact datD|exact datId rfl|exact datO|exact datIo rfl);(first|exact datV|exact datIv rfl|exact datL|exact datIl rfl|exact datD|exact datId rfl|exact datO|exact datIo rfl);rfl)|((with_reducible apply i_sz);exact Nat.le_of_ble_eq_true rfl)|exact pl_int|exact pl_str|exact pl_bl|exact pl_non|exact lenA_l|exact cpow_h (by unfold CPow; decide)|exact cmul_h (by unfold CMul; first|decide|omega)|((with_reducible first|apply lenA_h|apply plD_h);assumption)|(with_reducible first|apply i_itet|apply i_itef)|((with_reducible refine i_itepB ?_ ?_);(first|assumption|rfl))|((with_reducible refine i_itenB ?_ ?_);(first|assumption|rfl))|((with_reducible apply i_ite)<;>intro hif)))
section
variable {EA : AX} {ρ ρ' : AEnv} {Q : AK} {K : Fg} {CB CJ CN CBB CBE : Addr} {DA : AEnds}
theorem at_map {α : Type} {xs : List α} {f : α → D} {z : Int} (h0 : 0 ≤ z) (h1 : z < xs.length) : ∃ x ∈ xs, itD (.lst (xs.map f)) (.int z) = some (f x) := by
  refine ⟨xs[z.toNat]'(by omega), List.getElem_mem _, ?_⟩
  have e : z = ((z.toNat : Nat) : Int) := by omega
  have h := at_nat (xs := xs.map f) (k := z.toNat) (by simp; omega)
  rw [← e] at h
  show atI _ z = _
  rw [h, List.getElem?_map, List.getElem?_eq_getElem (by omega)]
  rfl
/-! lates -/
def lPut (l : Lat) (s : Str) (x : Int) : Lat := if (l.any fun p => decide (p.1 = s)) = true then l.map (fun p => if p.1 = s then (p.1, x) else p) else l ++ [(s, x)]
theorem put_lat (l : Lat) (s : Str) (x : Int) : putX (.dic (latK l)) (.str s) (.int x) = some (.dic (latK (lPut l s x))) := by
  show some (A.dic (putD (latK l) (.inr s) (.int x))) = _
  congr 2
  unfold putD lPut latK
  simp only [List.any_map, Function.comp_def, Sum.inr.injEq]
  split
  · simp only [List.map_map, Function.comp_def, Sum.inr.injEq]
    refine List.map_congr_left fun p _ => ?_
    split <;> simp
  · simp
/-- lates so far -/
structure LatP (l : Lat) : Prop where
  nm : ∀ p ∈ l, nameS p.1 = true
  z : ∀ p ∈ l, 0 ≤ p.2 ∧ p.2 ≤ 1000000
  nd : (l.map (·.1)).Nodup
theorem lPut_keys (l : Lat) (s : Str) (x : Int) : (lPut l s x).map (·.1) = if s ∈ l.map (·.1) then l.map (·.1) else l.map (·.1) ++ [s] := by
  unfold lPut
  by_cases h : s ∈ l.map (·.1)
  · rw [if_pos, if_pos h, List.map_map]
    · refine List.map_congr_left fun p _ => ?_
      simp only [Function.comp]
      split <;> rfl
    · obtain ⟨p, hp, e⟩ := List.mem_map.mp h
      exact List.any_eq_true.mpr ⟨p, hp, decide_eq_true e⟩
  · rw [if_neg, if_neg h]
    · simp
    · intro z
      obtain ⟨p, hp, e⟩ := List.any_eq_true.mp z
      exact h (List.mem_map.mpr ⟨p, hp, of_decide_eq_true e⟩)
theorem lPut_mem {l : Lat} {s : Str} {x : Int} {p : Str × Int} (h : p ∈ lPut l s x) : p ∈ l ∨ p = (s, x) := by
  unfold lPut at h
  split at h
  · obtain ⟨q, hq, rfl⟩ := List.mem_map.mp h
    split
    · rename_i e
      exact .inr (by rw [e])
    · exact .inl hq
  · rcases List.mem_append.mp h with h | h
    · exact .inl h
    · exact .inr (by simpa using h)
theorem lPut_len (l : Lat) (s : Str) (x : Int) : l.length ≤ (lPut l s x).length ∧ 1 ≤ (lPut l s x).length ∧ (lPut l s x).length ≤ l.length + 1 := by
  have h := congrArg List.length (lPut_keys l s x)
  rw [List.length_map] at h
  split at h
  · rename_i hm
    obtain ⟨p, hp, _⟩ := List.mem_map.mp hm
    have : 0 < l.length := List.length_pos_of_mem hp
    rw [List.length_map] at h
    omega
  · simp at h
    omega
theorem LatP.put {l : Lat} {s : Str} {x : Int} (h : LatP l) (hs : nameS s = true) (h0 : 0 ≤ x) (h1 : x ≤ 1000000) : LatP (lPut l s x) where
  nm := fun p hp => (lPut_mem hp).elim (h.nm p) fun e => by rw [e]; exact hs
  z := fun p hp => (lPut_mem hp).elim (h.z p) fun e => by rw [e]; exact ⟨h0, h1⟩
  nd := by
    rw [lPut_keys]
    split
    · exact h.nd
    · rename_i hn
      rw [List.nodup_append]
      refine ⟨h.nd, by simp, fun a ha b hb => ?_⟩
      have : b = s := by simpa using hb
      subst this
      exact fun e => hn (e ▸ ha)
def spLates : ASp := spR oneA isPool (fun p r xs' => ∃ (l : Lat) (p' : A), r = .dic (latK l) ∧ LatOk l ∧ isPool p' ∧ xs' = [p']) (fun _ _ _ _ => False)
theorem k_lates {i : Nat} {p : A} (hp : ρ[i]? = some (some p)) (h : isPool p) (k : ∀ l p', LatOk l → isPool p' → Q (.dic (latK l)) (ρ.set i (some p'))) : callA spLates [.loc i] EA ρ Q := by
  refine i_callR (ρ' := ρ.set i none) p (by simp only [pass, hp, oneA]) h (fun r ys' q _ => ?_) (fun _ _ _ h => h.elim)
  obtain ⟨l, p', rfl, hl, hp', rfl⟩ := q
  show Q _ ((ρ.set i none).set i (some p'))
  rw [set2]
  exact k l p' hl hp'
theorem rd_lates : ∀ xs, spLates.pre xs → as__law_lates spDraw spNames (endsOf [0] spLates xs) (startA 5 xs) := rd_P oneA_inj fun p hp DA hR hN hX => by
  show as__law_lates _ _ _ [some p, none, none, none, none]
  unfold as__law_lates rs__law_lates_2 rs__law_lates_3 rs__law_lates_4 rs__law_lates_5
  refine i_seq ?_
  (repeat' first|((with_reducible apply k_draw);rfl;assumption;(first|assumption|decide|omega);(first|assumption|decide|omega);intro zz pp hz0 hz1 hpp)|walk_at "vs2")
  with_reducible refine i_seqM (fun ρ => ∃ (p : A) (n : Int), isPool p ∧ 1 ≤ n ∧ n ≤ 8 ∧ ρ = [some p, some (.v (.int n)), none, none, none]) (fun k hk => ?_) ?_
  · (repeat' first|((with_reducible apply k_draw);rfl;assumption;(first|assumption|decide|omega);(first|assumption|decide|omega);intro zz pp hz0 hz1 hpp)|walk_at "vs1")
    · exact hk _ ⟨_, _, by assumption, by omega, by omega, rfl⟩
    · exact hk _ ⟨_, _, by assumption, by omega, by omega, rfl⟩
  rintro ρ ⟨p, n, hp, hn1, hn2, rfl⟩
  (repeat' walk_at "vs1")
  refine k_names rfl hp (by omega) (by omega) fun ns p hl hns hp => ?_
  (repeat' walk_at "vs1")
  refine ⟨strsD ns, rfl, ?_⟩
  refine for_rec (fun xs ρ => ∃ (p : A) (l : Lat) (ms : List Str) (o3 o4 : Option A), isPool p ∧ xs = strsD ms ∧ (∀ n ∈ ms, nameS n = true) ∧ LatP l ∧ l.length + ms.length ≤ 8 ∧ (1 ≤ l.length + ms.length) ∧ ρ = [some p, some (.v (.int n)), some (.dic (latK l)), o3, o4]) ?_ ?_ _ _ ⟨p, [], ns, _, _, hp, rfl, hns, ⟨(fun _ h => nomatch h), (fun _ h => nomatch h), List.nodup_nil⟩, by simp; omega, by simp; omega, rfl⟩
  · rintro ρ ⟨p, l, ms, o3, o4, hp, e, _, hl, h8, h1, rfl⟩
    have : ms = [] := by cases ms with
      | nil => rfl
      | cons _ _ => simp [strsD] at e
    subst this
    refine ⟨trivial, ?_⟩
    (repeat' walk_at "vs1")
    exact hR _ _ _ rfl ⟨l, p, rfl, ⟨by simpa using h1, by simpa using h8, hl.nm, hl.z, hl.nd⟩, hp, rfl⟩
  · rintro x xs ρ ⟨p, l, ms, o3, o4, hp, e, hms, hl, h8, h1, rfl⟩ ih
    cases ms with
    | nil => simp [strsD] at e
    | cons y ms =>
      simp only [strsD, List.map_cons, List.cons.injEq] at e
      obtain ⟨rfl, rfl⟩ := e
      refine ⟨trivial, ?_⟩
      unfold bd__law_lates_1
      have hln : lenA (.dic (latK l)) ≤ 100000 := by
        show (latK l).length ≤ 100000
        simp [latK] at h8 ⊢
        omega
      (repeat' walk_at "vs1")
      refine k_draw rfl hp (by decide) (by decide) fun z0 p0 a0 b0 hp0 => ?_
      (repeat' walk_at "vs1")
      refine k_draw rfl hp0 (by decide) (by decide) fun z1 p1 a1 b1 hp1 => ?_
      (repeat' walk_at "vs1")
      refine k_draw rfl hp1 (by decide) (by decide) fun z2 p2 a2 b2 hp2 => ?_
      (repeat' walk_at "vs1")
      refine k_draw rfl hp2 (by decide) (by decide) fun z3 p3 a3 b3 hp3 => ?_
      (repeat' walk_at "vs1")
      obtain ⟨v, hv, hi⟩ := at_map (xs := [0, z1, z2, z3]) (f := D.int) (z := z0) a0 (by simpa using b0)
      refine i_ix datL datV hi ?_
      have hb : 0 ≤ v ∧ v ≤ 1000000 := by
        have b3' : z3 < 1000001 := b3
        simp at hv
        rcases hv with rfl | rfl | rfl | rfl <;> omega
      have hpu := put_lat l y v
      (repeat' walk_at "vs1")
      have := lPut_len l y v
      exact ih _ ⟨p3, lPut l y v, ms, _, _, hp3, rfl, fun n hn => hms n (List.mem_cons_of_mem _ hn), hl.put (hms y (List.mem_cons_self ..)) hb.1 hb.2, by simp at h8 ⊢; omega, by simp at h1 ⊢; omega, rfl⟩
/-! put -/
def spPut : ASp := spI seArgs (fun i => FixOk i.st i.e ∧ i.st.length ≤ 1000) (fun _ => .rt (.v .non)) (fun i => [.dic (stsK (after i.st i.e)), .v i.e.d])
theorem k_put {st : Sts} {e : Ent} {i : Nat} (h : FixOk st e) (h2 : st.length ≤ 1000) (hi : ρ[i]? = some (some (.dic (stsK st)))) (k : Q (.v .non) (ρ.set i (some (.dic (stsK (after st e)))))) : callA spPut [.loc i, .v e.d] EA ρ Q := by
  refine i_callI (ρ' := ρ.set i none) ⟨st, e⟩ (by simp [pass, hi, seArgs]) ⟨h, h2⟩ rfl ?_
  show Q _ ((ρ.set i none).set i (some (.dic (stsK (after st e)))))
  rw [set2]
  exact k
theorem rd_put : ∀ xs, spPut.pre xs → as__law_put (endsOf [0, 1] spPut xs) (startA 3 xs) := rd_I (fun i j _ _ h => by
    cases i; cases j
    simp only [seArgs, List.cons.injEq, A.v.injEq, A.dic.injEq, and_true] at h
    rw [stsK_inj h.1, Ent.inj h.2]) fun i hi DA hR hN hX => by
  obtain ⟨st, e⟩ := i
  obtain ⟨hi, hl⟩ := hi
  simp only at hi hl
  show as__law_put _ [some (.dic (stsK st)), some (.v e.d), none]
  unfold as__law_put
  have hln : lenA (.dic (stsK st)) ≤ 100000 := by
    show (stsK st).length ≤ 100000
    rw [stsK_len]
    omega
  cases e with
  | row i s k m a t =>
    have hpu : putX (.dic (stsK st)) (.int i) (.tup [.str s, .str k, .int m, .int a]) = some (.dic (stsK (after st (.row i s k m a t)))) := put_st (e := .row i s k m a t) (o := some ⟨s, k, m, a⟩)
    simp only [Ent.d]
    (repeat' walk_at "vs1")
    exact hN _ rfl rfl
  | fix i m a t =>
    obtain ⟨o, ho⟩ := hi i m a t rfl
    have hpu : putX (.dic (stsK st)) (.int i) (.tup [.str o.s, .str o.k, .int m, .int a]) = some (.dic (stsK (after st (.fix i m a t)))) := by
      have := put_st (st := st) (e := .fix i m a t) (o := some ⟨o.s, o.k, m, a⟩)
      unfold after behind
      simp only [ho]
      exact this
    simp only [Ent.d]
    have e1 : itD (.dic (stsK st)) (.int i) = some (.tup [.str o.s, .str o.k, .int o.m, .int o.a]) := by
      show valD (stsK st) (.inl i) = _
      rw [val_sts, ho]
      rfl
    (repeat' walk_at "vs1")
    exact hN _ rfl rfl
  | gone i t =>
    have hpu : putX (.dic (stsK st)) (.int i) .non = some (.dic (stsK (after st (.gone i t)))) := put_st (e := .gone i t) (o := none)
    simp only [Ent.d]
    (repeat' walk_at "vs1")
    exact hN _ rfl rfl
/-! entry -/
structure EN where
  p : A
  l : Lat
  ks : List Str
  st : Sts
  n : Int
  t : Int
def enArgs (i : EN) : List A := [i.p, .v (.dic (latK i.l)), .v (.lst (strsD i.ks)), .dic (stsK i.st), .v (.int i.n), .v (.int i.t)]
structure KsOk (ks : List Str) : Prop where
  lo : 1 ≤ ks.length
  hi : ks.length ≤ 1000
  nm : ∀ n ∈ ks, nameS n = true
structure ENOk (i : EN) : Prop where
  p : isPool i.p
  l : LatOk i.l
  k : KsOk i.ks
  nd : (i.st.map (·.1)).Nodup
  ok : StOk (lGet i.l) i.st
  id : ∀ j, sGet i.st j ≠ none → 0 ≤ j
  le : i.st.length ≤ 1000
  n0 : 0 ≤ i.n
  fr : sGet i.st i.n = none
structure ENPo (i : EN) (e : Ent) : Prop where
  g : good (lGet i.l) i.st (some i.t) e = true
  t : e.t = i.t
  o : okE e
  i : e.i = i.n ∨ sGet i.st e.i ≠ none
def spEntry : ASp := spR enArgs ENOk (fun i r xs' => ∃ (e : Ent) (p' : A), r = .v e.d ∧ ENPo i e ∧ isPool p' ∧ xs' = [p', .v (.dic (latK i.l)), .v (.lst (strsD i.ks)), .dic (stsK i.st), .v (.int i.n), .v (.int i.t)]) (fun _ _ _ _ => False)
theorem lateOk_self {t : Int} : lateOk (some t) t = true := by simp [lateOk]
def OpenI (l : Lat) (st : Sts) (t i : Int) : Prop := ∃ o x, sGet st i = some (some o) ∧ lGet l o.s = some x ∧ t ≤ o.m + x
theorem OpenI.openO {l : Lat} {st : Sts} {t i : Int} {f : Int → Bool} (h : OpenI l st t i) (hf : ∀ o x, sGet st i = some (some o) → lGet l o.s = some x → f x = true) : openO (lGet l) st i t f = true := by
  obtain ⟨o, x, h1, h2, h3⟩ := h
  unfold Law.openO
  rw [h1]
  simp only [h2]
  rw [decide_eq_false (by omega), hf o x h1 h2]
  rfl
theorem rd_entry : ∀ xs, spEntry.pre xs → as__law_entry spDraw spAmount (endsOf [0, 1, 2, 3, 4, 5] spEntry xs) (startA 11 xs) := rd_P (fun i j _ _ h => by
    cases i; cases j
    simp only [enArgs, List.cons.injEq, A.v.injEq, A.dic.injEq, D.dic.injEq, D.lst.injEq, D.int.injEq, and_true] at h
    obtain ⟨h1, h2, h3, h4, h5, h6⟩ := h
    rw [h1, latK_inj h2, strs_inj h3, stsK_inj h4, h5, h6]) fun i hi DA hR hN hX => by
  obtain ⟨p, l, ks, st, n, t⟩ := i
  obtain ⟨hp, hl, hk, hnd, hok, hid, hle, hn0, hfr⟩ := hi
  simp only at hp hl hk hnd hok hid hle hn0 hfr hR
  show as__law_entry _ _ _ [some p, some (.v (.dic (latK l))), some (.v (.lst (strsD ks))), some (.dic (stsK st)), some (.v (.int n)), some (.v (.int t)), none, none, none, none, none]
  unfold as__law_entry rs__law_entry_2 rs__law_entry_3 rs__law_entry_4 rs__law_entry_5 rs__law_entry_6 rs__law_entry_7
  (repeat' walk_at "vs1")
  refine ⟨_, rfl, ?_⟩
  have hit : (stsK st).map (fun p => keyOf p.1) = (st.map (·.1)).map D.int := by simp [stsK, keyOf]
  rw [hit]
  refine for_rec (fun xs ρ => ∃ (is op : List Int) (L : List D) (o7 : Option A), xs = is.map D.int ∧ (∀ i ∈ is, i ∈ st.map (·.1)) ∧ L = op.map D.int ∧ (∀ i ∈ op, OpenI l st t i) ∧ op.length + is.length ≤ 1000 ∧ ρ = [some p, some (.v (.dic (latK l))), some (.v (.lst (strsD ks))), some (.dic (stsK st)), some (.v (.int n)), some (.v (.int t)), some (.lst L), o7, none, none, none]) ?_ ?_ _ _ ⟨st.map (·.1), [], [], none, rfl, fun _ h => h, rfl, (fun _ h => nomatch h), by simpa using hle, rfl⟩
  · rintro ρ ⟨is, op, L, o7, _, _, rfl, hop, hol, rfl⟩
    refine ⟨trivial, ?_⟩
    have fin : ∀ e p' o6 o7 o8 o9 o10, ENPo ⟨p, l, ks, st, n, t⟩ e → isPool p' → DA.rt (.v e.d) [some p', some (.v (.dic (latK l))), some (.v (.lst (strsD ks))), some (.dic (stsK st)), some (.v (.int n)), some (.v (.int t)), o6, o7, o8, o9, o10] := fun e p' o6 o7 o8 o9 o10 h1 h2 => hR _ _ _ rfl ⟨e, p', rfl, h1, h2, rfl⟩
    (repeat' walk_at "vs1")
    refine k_draw rfl hp (by decide) (by decide) fun z0 p0 a0 b0 hp0 => ?_
    have hl1 : lenD (.dic (latK l)) = some l.length := by simp [lenD, latK]
    have hl2 : lenD (.lst (strsD ks)) = some ks.length := by simp [lenD, strsD]
    have hli : itemsD (.dic (latK l)) = some (l.map fun p => D.str p.1) := by simp [itemsD, latK, keyOf]
    have q1 := hl.lo
    have q2 := hl.hi
    have q3 := hk.lo
    have q4 := hk.hi
    (repeat' walk_at "vs1")
    iterate 2
      focus
        refine k_draw rfl hp0 (by omega) (by omega) fun z1 p1 a1 b1 hp1 => ?_
        obtain ⟨⟨s, x⟩, hs, hi⟩ := at_map (xs := l) (f := fun p => D.str p.1) a1 b1
        simp only at hi
        have hx := hl.z _ hs
        have hsn := hl.nm _ hs
        have hg : lGet l s = some x := mem_lGet hl.nd hs
        have hlx : itD (.dic (latK l)) (.str s) = some (.int x) := by
          show valD (latK l) (.inr s) = _
          rw [val_lat, hg]
          rfl
        simp only at hx hsn
        (repeat' walk_at "vs1")
        refine k_draw rfl hp1 (by omega) (by omega) fun z2 p2 a2 b2 hp2 => ?_
        (repeat' walk_at "vs1")
        refine k_draw rfl hp2 (by omega) (by omega) fun z3 p3 a3 b3 hp3 => ?_
        obtain ⟨k, hkk, hik⟩ := at_map (xs := ks) (f := D.str) a3 b3
        have hkn := hk.nm k hkk
        have hik' : itD (.lst (strsD ks)) (.int z3) = some (.str k) := hik
        (repeat' walk_at "vs1")
        refine k_amount rfl hp3 fun am p4 hp4 => ?_
        (repeat' walk_at "vs1")
        refine fin (.row n s k (t - z2) am t) p4 _ _ _ _ _ ⟨?_, rfl, ⟨nameS_ok hsn, nameS_ok hkn⟩, .inl rfl⟩ hp4
        have hin : inT (t - z2) t x = true := inT_iff.mpr ⟨by omega, by omega⟩
        simp only [good, Ent.ok, Ent.t, lateOk_self, hfr, hg, hin, hsn, hkn, decide_eq_true hn0]
        rfl
    · have hop0 : 0 < op.length := by
        rw [deq_int, decide_eq_true_eq] at hif
        simp at hif
        have : op.length ≠ 0 := fun z => hif (List.eq_nil_of_length_eq_zero z)
        omega
      refine k_draw rfl hp0 (by simp; omega) (by simp; omega) fun z1 p1 a1 b1 hp1 => ?_
      obtain ⟨j, hj, hi⟩ := at_map (xs := op) (f := D.int) a1 (by simpa using b1)
      have hoj := hop j hj
      obtain ⟨o, x, ho, hx, hom⟩ := hoj
      have hj0 : 0 ≤ j := hid j (by rw [ho]; simp)
      have hjn : sGet st j ≠ none := by rw [ho]; simp
      have hso : itD (.dic (stsK st)) (.int j) = some (.tup [.str o.s, .str o.k, .int o.m, .int o.a]) := by
        show valD (stsK st) (.inl j) = _
        rw [val_sts, ho]
        rfl
      have hlx : itD (.dic (latK l)) (.str o.s) = some (.int x) := by
        show valD (latK l) (.inr o.s) = _
        rw [val_lat, hx]
        rfl
      have hxb := hl.z _ (lGet_mem hx)
      simp only at hxb
      (repeat' walk_at "vs1")
      · refine k_draw rfl hp1 (by omega) (by omega) fun z2 p2 a2 b2 hp2 => ?_
        (repeat' walk_at "vs1")
        refine k_amount rfl hp2 fun am p4 hp4 => ?_
        (repeat' walk_at "vs1")
        refine fin (.fix j (t - z2) am t) p4 _ _ _ _ _ ⟨?_, rfl, trivial, .inr hjn⟩ hp4
        have hin : inT (t - z2) t x = true := inT_iff.mpr ⟨by omega, by omega⟩
        have hoo := OpenI.openO (f := fun x => inT (t - z2) t x) ⟨o, x, ho, hx, hom⟩ fun o' x' h1 h2 => by
          rw [ho] at h1
          cases h1
          rw [hx] at h2
          cases h2
          exact hin
        simp only [good, Ent.ok, Ent.t, lateOk_self, hoo, decide_eq_true hj0]
        rfl
      · refine fin (.gone j t) p1 _ _ _ _ _ ⟨?_, rfl, trivial, .inr hjn⟩ hp1
        have hoo := OpenI.openO (f := fun _ => true) ⟨o, x, ho, hx, hom⟩ fun _ _ _ _ => rfl
        simp only [good, Ent.ok, Ent.t, lateOk_self, hoo, decide_eq_true hj0]
        rfl
  · rintro y xs ρ ⟨is, op, L, o7, e, his, rfl, hop, hol, rfl⟩ ih
    cases is with
    | nil => cases e
    | cons j is =>
      simp only [List.map_cons, List.cons.injEq] at e
      obtain ⟨rfl, rfl⟩ := e
      refine ⟨trivial, ?_⟩
      have hjm := his j (List.mem_cons_self ..)
      unfold bd__law_entry_1
      cases hg : sGet st j with
      | none => exact absurd hjm ((get_none_iff st j).mp hg)
      | some o =>
        have hso : itD (.dic (stsK st)) (.int j) = some (staD o) := by
          show valD (stsK st) (.inl j) = _
          rw [val_sts, hg]
          rfl
        cases o with
        | none =>
          simp only [staD] at hso
          (repeat' walk_at "vs1")
          exact ih _ ⟨is, op, _, _, rfl, fun i hi => his i (List.mem_cons_of_mem _ hi), rfl, hop, by simp at hol; omega, rfl⟩
        | some o =>
          simp only [staD, Sta.d] at hso
          obtain ⟨x, hx⟩ := Option.isSome_iff_exists.mp (hok j o hg)
          have hlx : itD (.dic (latK l)) (.str o.s) = some (.int x) := by
            show valD (latK l) (.inr o.s) = _
            rw [val_lat, hx]
            rfl
          (repeat' walk_at "vs1")
          · simp at hol ⊢; omega
          · refine ih _ ⟨is, op ++ [j], _, _, rfl, fun i hi => his i (List.mem_cons_of_mem _ hi), by simp, fun i hi => ?_, by simp at hol ⊢; omega, rfl⟩
            rcases List.mem_append.mp hi with hi | hi
            · exact hop i hi
            · have : i = j := by simpa using hi
              subst this
              exact ⟨o, x, hg, hx, of_decide_eq_true hif⟩
          · exact ih _ ⟨is, op, _, _, rfl, fun i hi => his i (List.mem_cons_of_mem _ hi), rfl, hop, by simp at hol; omega, rfl⟩
end
end Law

set_option Elab.async false
set_option linter.all false
set_option maxRecDepth 100000
set_option maxHeartbeats 1000000
namespace Law
open PySem PySem.Spec PyProof.Rows L2 Vs
set_option hygiene false in
local macro_rules | `(tactic| walk_at "vs1") => `(tactic| (first|((with_reducible first|apply i_seq|apply i_next|apply i_expr|apply i_ret|apply i_retN|apply i_if|apply i_break|apply i_cont|apply i_set|apply i_putX|apply i_for|apply i_retv|apply i_retl|apply i_retd|apply i_reto|apply i_setv|apply i_setl|apply i_setd|apply i_seto|apply i_usev|apply i_usel|apply i_used|apply i_useo|apply i_uses0|apply i_uses1|apply i_c|apply i_op|apply i_un|apply i_test|apply i_tand|apply i_tor|apply i_tnot|apply i_and|apply i_or|apply i_not|apply i_ifx|apply i_chain|apply i_chnK|apply i_nil|apply i_cons|apply i_tup|apply i_lst|apply i_dict0|apply i_cb|apply i_frz|apply i_addi|apply i_adds|apply i_addt|apply i_addl|apply i_raise|apply i_forget|apply i_lc|apply i_dc|apply i_agName|apply i_yes|apply i_aiSeqV|apply i_append|apply i_meth0|apply i_make0|apply i_slice|apply i_aoNone|apply i_aoSome|apply i_agCons|apply i_agNil|apply i_asFld|apply i_get1|apply i_call0))|((with_reducible apply i_putK);rfl;(first|exact datV|exact datIv rfl|exact datL|exact datIl rfl|exact datD|exact datId rfl|exact datO|exact datIo rfl);(first|assumption|rfl))|((with_reducible first|apply i_reti|apply i_val|apply i_ref|apply i_appK|apply i_agTup);rfl)|((with_reducible first|apply i_isB|apply i_neg|apply i_int|apply i_isL|apply i_isI|apply i_isDc);(first|exact datV|exact datIv rfl|exact datL|exact datIl rfl|exact datD|exact datId rfl|exact datO|exact datIo rfl))|((with_reducible apply i_ix);(first|exact datV|exact datIv rfl|exact datL|exact datIl rfl|exact datD|exact datId rfl|exact datO|exact datIo rfl);(first|exact datV|exact datIv rfl|exact datL|exact datIl rfl|exact datD|exact datId rfl|exact datO|exact datIo rfl);(first|assumption|rfl))|((with_reducible first|apply i_plus|apply i_sub|apply i_lt|apply i_le|apply i_gt|apply i_ge|apply i_mul|apply i_mod|apply i_pow|apply i_div|apply i_eq|apply i_ne|apply i_is|apply i_isnot|apply i_max|apply i_min);(first|exact datV|exact datIv rfl|exact datL|exact datIl rfl|exact datD|exact datId rfl|exact datO|exact datIo rfl);(first|exact datV|exact datIv rfl|exact datL|exact datIl rfl|exact datD|exact datId rfl|exact datO|exact datIo rfl))|((with_reducible apply i_isi);(first|exact datV|exact datIv rfl|exact datL|exact datIl rfl|exact datD|exact datId rfl|exact datO|exact datIo rfl);(first|exact isi1 (by first|assumption|rfl) (by decide)|exact isi_lt (by first|assumption|rfl)|exact isi_own (by assumption) (by assumption)))|((with_reducible apply i_fldV);rfl;rfl)|((with_reducible first|apply i_len|apply i_list);(first|exact datV|exact datIv rfl|exact datL|exact datIl rfl|exact datD|exact datId rfl|exact datO|exact datIo rfl);(first|assumption|rfl))|((with_reducible apply i_objK);(first|exact datV|exact datIv rfl|exact datL|exact datIl rfl|exact datD|exact datId rfl|exact datO|exact datIo rfl);rfl)|((with_reducible apply i_fldK);rfl;(first|exact fs_nil|exact fs_one);exact Nat.le_of_ble_eq_true rfl)|((with_reducible apply i_getK);(first|exact datV|exact datIv rfl|exact datL|exact datIl rfl|exact datD|exact datId rfl|exact datO|exact datIo rfl);(first|exact datV|exact datIv rfl|exact datL|exact datIl rfl|exact datD|exact datId rfl|exact datO|exact datIo rfl);rfl;(first|assumption|rfl))|((with_reducible apply i_inD);(first|exact datV|exact datIv rfl|exact datL|exact datIl rfl|exact datD|exact datId rfl|exact datO|exact datIo rfl);(first|exact datV|exact datIv rfl|exact datL|exact datIl rfl|exact datD|exact datId rfl|exact datO|exact datIo rfl);rfl)|((with_reducible apply i_useiv);rfl)|((with_reducible apply i_useil);rfl)|((with_reducible apply i_useid);rfl)|((with_reducible apply i_tuplel);(first|exact datV|exact datIv rfl|exact datL|exact datIl rfl|exact datD|exact datId rfl|exact datO|exact datIo rfl))|((with_reducible apply i_tuplet);(first|exact datV|exact datIv rfl|exact datL|exact datIl rfl|exact datD|exact datId rfl|exact datO|exact datIo rfl))|((with_reducible apply i_slcT);(first|exact datV|exact datIv rfl|exact datL|exact datIl rfl|exact datD|exact datId rfl|exact datO|exact datIo rfl))|((with_reducible apply i_slcL);(first|exact datV|exact datIv rfl|exact datL|exact datIl rfl|exact datD|exact datId rfl|exact datO|exact datIo rfl))|((with_reducible apply i_ninD);(first|exact datV|exact datIv rfl|exact datL|exact datIl rfl|exact datD|exact datId rfl|exact datO|exact datIo rfl);(first|exact datV|exact datIv rfl|exact datL|exact datIl rfl|exact datD|exact datId rfl|exact datO|exact datIo rfl);rfl)|((with_reducible apply i_sz);exact Nat.le_of_ble_eq_true rfl)|exact pl_int|exact pl_str|exact pl_bl|exact pl_non|exact lenA_l|exact cpow_h (by unfold CPow; decide)|exact cmul_h (by unfold CMul; first|decide|omega)|((with_reducible first|apply lenA_h|apply plD_h);assumption)|(with_reducible first|apply i_itet|apply i_itef)|((with_reducible refine i_itepB ?_ ?_);(first|assumption|rfl))|((with_reducible refine i_itenB ?_ ?_);(first|assumption|rfl))|((with_reducible apply i_ite)<;>intro hif)))
section
variable {EA : AX} {ρ ρ' : AEnv} {Q : AK} {K : Fg} {CB CJ CN CBB CBE : Addr} {DA : AEnds}
theorem intsD_cons {lo : Int} {n : Nat} : intsD lo (n + 1) = .int lo :: intsD (lo + 1) n := by
  unfold intsD
  rw [List.range_succ_eq_map, List.map_cons, List.map_map]
  congr 1
  · simp
  · refine List.map_congr_left fun i _ => ?_
    simp only [Function.comp]
    congr 1
    omega
theorem pass4 {i j : Nat} {p q a b c d : A} (hij : i ≠ j) (hp : ρ[i]? = some (some p)) (hq : ρ[j]? = some (some q)) (ha : isLoc a = false) (hb : isLoc b = false) (hc : isLoc c = false) (hd : isLoc d = false) : pass [.loc i, a, b, .loc j, c, d] ρ = some ([p, a, b, q, c, d], (ρ.set i none).set j none) := by
  have hq' : (ρ.set i none)[j]? = some (some q) := by rw [List.getElem?_set_ne hij]; exact hq
  cases a <;> cases b <;> cases c <;> cases d <;> first | (simp only [pass, hp, hq']; done) | (cases ha; done) | (cases hb; done) | (cases hc; done) | (cases hd; done)
theorem k_entry {i j : Nat} {p : A} {l : Lat} {ks : List Str} {st : Sts} {n t : Int} (hij : i ≠ j) (hp : ρ[i]? = some (some p)) (hq : ρ[j]? = some (some (.dic (stsK st)))) (h : ENOk ⟨p, l, ks, st, n, t⟩) (k : ∀ e p', ENPo ⟨p, l, ks, st, n, t⟩ e → isPool p' → Q (.v e.d) (ρ.set i (some p'))) : callA spEntry [.loc i, .v (.dic (latK l)), .v (.lst (strsD ks)), .loc j, .v (.int n), .v (.int t)] EA ρ Q := by
  refine i_callR (ρ' := (ρ.set i none).set j none) ⟨p, l, ks, st, n, t⟩ (pass4 hij hp hq rfl rfl rfl rfl) h (fun r ys' q _ => ?_) (fun _ _ _ h => h.elim)
  obtain ⟨e, p', rfl, he, hp', rfl⟩ := q
  show Q _ ((((ρ.set i none).set j none).set i (some p')).set j (some (.dic (stsK st))))
  have e1 : (((ρ.set i none).set j none).set i (some p')).set j (some (.dic (stsK st))) = ρ.set i (some p') := by
    have e0 : ((ρ.set i none).set j none).set i (some p') = (ρ.set i (some p')).set j none := by
      rw [List.set_comm none (some p') (Ne.symm hij), set2]
    rw [e0]
    exact set_back (by rw [List.getElem?_set_ne hij]; exact hq)
  rw [e1]
  exact k e p' he hp'
/-! entries -/
structure ES where
  p : A
  l : Lat
  ks : List Str
  st : Sts
  n : Int
  t : Int
  m : Nat
def esArgs (i : ES) : List A := [i.p, .v (.dic (latK i.l)), .v (.lst (strsD i.ks)), .dic (stsK i.st), .v (.int i.n), .v (.int i.t), .v (.int i.m)]
structure ESOk (i : ES) : Prop where
  p : isPool i.p
  l : LatOk i.l
  k : KsOk i.ks
  nd : (i.st.map (·.1)).Nodup
  ok : StOk (lGet i.l) i.st
  id : ∀ j, sGet i.st j ≠ none → 0 ≤ j ∧ j < i.n
  le : i.st.length + i.m ≤ 900
  n0 : 0 ≤ i.n
structure ESPo (i : ES) (es : List Ent) : Prop where
  g : goods (lGet i.l) i.st (some i.t) es = true
  len : es.length = i.m
  o : ∀ e ∈ es, okE e
  id : ∀ j, sGet (runE i.st es) j ≠ none → 0 ≤ j ∧ j < i.n + 3 * i.m
def spEntries : ASp := spR esArgs ESOk (fun i r xs' => ∃ (es : List Ent) (p' : A), r = .lst (esD es) ∧ ESPo i es ∧ isPool p' ∧ xs' = [p', .v (.dic (latK i.l)), .v (.lst (strsD i.ks)), .dic (stsK (runE i.st es)), .v (.int i.n), .v (.int i.t), .v (.int i.m)]) (fun _ _ _ _ => False)
theorem runE_app {st : Sts} {es : List Ent} {e : Ent} : runE st (es ++ [e]) = after (runE st es) e := by simp [runE]
theorem rd_entries : ∀ xs, spEntries.pre xs → as__law_entries spDraw spEntry spPut (endsOf [0, 1, 2, 3, 4, 6] spEntries xs) (startA 10 xs) := rd_P (fun i j _ _ h => by
    cases i; cases j
    simp only [esArgs, List.cons.injEq, A.v.injEq, A.dic.injEq, D.dic.injEq, D.lst.injEq, D.int.injEq, and_true] at h
    obtain ⟨h1, h2, h3, h4, h5, h6, h7⟩ := h
    rw [h1, latK_inj h2, strs_inj h3, stsK_inj h4, h5, h6]
    congr 1
    omega) fun i hi DA hR hN hX => by
  obtain ⟨p, l, ks, st, n, t, m⟩ := i
  obtain ⟨hp, hl, hk, hnd, hok, hid, hle, hn0⟩ := hi
  simp only at hp hl hk hnd hok hid hle hn0 hR
  show as__law_entries _ _ _ _ [some p, some (.v (.dic (latK l))), some (.v (.lst (strsD ks))), some (.dic (stsK st)), some (.v (.int n)), some (.v (.int t)), some (.v (.int m)), none, none, none]
  unfold as__law_entries rs__law_entries_2 rs__law_entries_3
  (repeat' walk_at "vs1")
  refine i_rng1 ?_
  (repeat' walk_at "vs1")
  refine ⟨_, (m : Int), rfl, rfl, by omega, by omega, ?_⟩
  rw [Int.toNat_natCast]
  refine for_rec (fun xs ρ => ∃ (p : A) (k r : Nat) (es : List Ent) (L : List D) (t' t2 : Int) (o8 o9 : Option A), isPool p ∧ xs = intsD k r ∧ k + r = m ∧ es.length = k ∧ L = esD es ∧ goods (lGet l) st (some t) es = true ∧ (∀ e ∈ es, okE e) ∧ lastE (some t) es = some t2 ∧ t2 ≤ t' ∧ ((runE st es).map (·.1)).Nodup ∧ StOk (lGet l) (runE st es) ∧ (∀ j, sGet (runE st es) j ≠ none → 0 ≤ j ∧ j < n + 3 * k) ∧ ρ = [some p, some (.v (.dic (latK l))), some (.v (.lst (strsD ks))), some (.dic (stsK (runE st es))), some (.v (.int n)), some (.v (.int t')), some (.v (.int m)), some (.lst L), o8, o9]) ?_ ?_ _ _ ⟨p, 0, m, [], [], t, t, none, none, hp, rfl, by omega, rfl, rfl, rfl, (fun _ h => nomatch h), rfl, Int.le_refl _, hnd, hok, by simpa [runE] using hid, rfl⟩
  · rintro ρ ⟨p, k, r, es, L, t', t2, o8, o9, hp, e1, hkr, hek, rfl, hg, ho, hla, ht, hnd, hok, hid, rfl⟩
    have hr0 : r = 0 := by
      have := congrArg List.length e1
      simp [intsD] at this
      omega
    refine ⟨trivial, ?_⟩
    (repeat' walk_at "vs1")
    exact hR _ _ _ rfl ⟨es, p, rfl, ⟨hg, by simp only; omega, ho, fun j hj => by have := hid j hj; simp only; omega⟩, hp, rfl⟩
  · rintro x xs ρ ⟨p, k, r, es, L, t', t2, o8, o9, hp, e1, hkr, hek, rfl, hg, ho, hla, ht, hnd, hok, hid, rfl⟩ ih
    cases r with
    | zero => simp [intsD] at e1
    | succ r =>
      rw [intsD_cons] at e1
      simp only [List.cons.injEq] at e1
      obtain ⟨rfl, rfl⟩ := e1
      refine ⟨trivial, ?_⟩
      unfold bd__law_entries_1
      have hrl := run_len es st
      (repeat' walk_at "vs1")
      refine k_draw rfl hp (by decide) (by decide) fun z0 p0 a0 b0 hp0 => ?_
      (repeat' walk_at "vs1")
      refine k_draw rfl hp0 (by decide) (by decide) fun z1 p1 a1 b1 hp1 => ?_
      obtain ⟨v, hv, hi⟩ := at_map (xs := [0, 0, 1, 1, 2, 3, 7, z0]) (f := D.int) (z := z1) a1 (by simpa using b1)
      have hv0 : 0 ≤ v := by
        simp at hv
        omega
      refine i_ix datL datV hi ?_
      (repeat' walk_at "vs1")
      refine k_draw rfl hp1 (by decide) (by decide) fun z2 p2 a2 b2 hp2 => ?_
      (repeat' walk_at "vs1")
      have hfr : sGet (runE st es) (n + 3 * (k : Int) + z2) = none := by
        cases h : sGet (runE st es) (n + 3 * (k : Int) + z2) with
        | none => rfl
        | some o =>
          have := hid _ (by rw [h]; simp)
          omega
      refine k_entry (by decide) rfl rfl ⟨hp2, hl, hk, hnd, hok, fun j hj => (hid j hj).1, by simp only; omega, by simp only; omega, hfr⟩ fun e p3 he hp3 => ?_
      have heg := he.g
      have het := he.t
      simp only at heg het
      (repeat' walk_at "vs1")
      refine k_put (good_fix heg) (by omega) rfl ?_
      (repeat' walk_at "vs1")
      · simp [esD]; omega
      · refine ih _ ⟨p3, k + 1, r, es ++ [e], esD es ++ [e.d], t' + v, e.t, some (.v (.int k)), some (.v e.d), hp3, ?_, by omega, by simp; omega, by simp [esD], ?_, ?_, lastE_app, by omega, ?_, ?_, ?_, ?_⟩
        · push_cast
          rfl
        · rw [goods_app, hg, hla]
          simp only [goods, Bool.and_true, Bool.true_and]
          refine good_weak heg ?_
          simp only [lateOk, Bool.not_eq_true', decide_eq_false_iff_not, Int.not_lt]
          omega
        · intro x hx
          rcases List.mem_append.mp hx with hx | hx
          · exact ho x hx
          · have : x = e := by simpa using hx
            rw [this]
            exact he.o
        · rw [runE_app]
          exact nodup_put hnd
        · rw [runE_app]
          exact hok.after heg
        · intro j hj
          rw [runE_app] at hj
          unfold after at hj
          rw [sGet_put] at hj
          split at hj
          · rename_i e2
            rcases he.i with h | h
            · simp only at h
              rw [← e2, h]
              push_cast
              omega
            · simp only at h
              have := hid _ h
              rw [← e2]
              push_cast
              omega
          · have := hid j hj
            push_cast
            omega
        · rw [runE_app]
          rfl
end
end Law

set_option Elab.async false
set_option linter.all false
set_option maxRecDepth 100000
set_option maxHeartbeats 1000000
namespace Law
open PySem PySem.Spec PyProof.Rows L2 Vs
set_option hygiene false in
local macro_rules | `(tactic| walk_at "vs1") => `(tactic| (first|((with_reducible first|apply i_seq|apply i_next|apply i_expr|apply i_ret|apply i_retN|apply i_if|apply i_break|apply i_cont|apply i_set|apply i_putX|apply i_for|apply i_retv|apply i_retl|apply i_retd|apply i_reto|apply i_setv|apply i_setl|apply i_setd|apply i_seto|apply i_usev|apply i_usel|apply i_used|apply i_useo|apply i_uses0|apply i_uses1|apply i_c|apply i_op|apply i_un|apply i_test|apply i_tand|apply i_tor|apply i_tnot|apply i_and|apply i_or|apply i_not|apply i_ifx|apply i_chain|apply i_chnK|apply i_nil|apply i_cons|apply i_tup|apply i_lst|apply i_dict0|apply i_cb|apply i_frz|apply i_addi|apply i_adds|apply i_addt|apply i_addl|apply i_raise|apply i_forget|apply i_lc|apply i_dc|apply i_agName|apply i_yes|apply i_aiSeqV|apply i_append|apply i_meth0|apply i_make0|apply i_slice|apply i_aoNone|apply i_aoSome|apply i_agCons|apply i_agNil|apply i_asFld|apply i_get1|apply i_call0))|((with_reducible apply i_putK);rfl;(first|exact datV|exact datIv rfl|exact datL|exact datIl rfl|exact datD|exact datId rfl|exact datO|exact datIo rfl);(first|assumption|rfl))|((with_reducible first|apply i_reti|apply i_val|apply i_ref|apply i_appK|apply i_agTup);rfl)|((with_reducible first|apply i_isB|apply i_neg|apply i_int|apply i_isL|apply i_isI|apply i_isDc);(first|exact datV|exact datIv rfl|exact datL|exact datIl rfl|exact datD|exact datId rfl|exact datO|exact datIo rfl))|((with_reducible apply i_ix);(first|exact datV|exact datIv rfl|exact datL|exact datIl rfl|exact datD|exact datId rfl|exact datO|exact datIo rfl);(first|exact datV|exact datIv rfl|exact datL|exact datIl rfl|exact datD|exact datId rfl|exact datO|exact datIo rfl);(first|assumption|rfl))|((with_reducible first|apply i_plus|apply i_sub|apply i_lt|apply i_le|apply i_gt|apply i_ge|apply i_mul|apply i_mod|apply i_pow|apply i_div|apply i_eq|apply i_ne|apply i_is|apply i_isnot|apply i_max|apply i_min);(first|exact datV|exact datIv rfl|exact datL|exact datIl rfl|exact datD|exact datId rfl|exact datO|exact datIo rfl);(first|exact datV|exact datIv rfl|exact datL|exact datIl rfl|exact datD|exact datId rfl|exact datO|exact datIo rfl))|((with_reducible apply i_isi);(first|exact datV|exact datIv rfl|exact datL|exact datIl rfl|exact datD|exact datId rfl|exact datO|exact datIo rfl);(first|exact isi1 (by first|assumption|rfl) (by decide)|exact isi_lt (by first|assumption|rfl)|exact isi_own (by assumption) (by assumption)))|((with_reducible apply i_fldV);rfl;rfl)|((with_reducible first|apply i_len|apply i_list);(first|exact datV|exact datIv rfl|exact datL|exact datIl rfl|exact datD|exact datId rfl|exact datO|exact datIo rfl);(first|assumption|rfl))|((with_reducible apply i_objK);(first|exact datV|exact datIv rfl|exact datL|exact datIl rfl|exact datD|exact datId rfl|exact datO|exact datIo rfl);rfl)|((with_reducible apply i_fldK);rfl;(first|exact fs_nil|exact fs_one);exact Nat.le_of_ble_eq_true rfl)|((with_reducible apply i_getK);(first|exact datV|exact datIv rfl|exact datL|exact datIl rfl|exact datD|exact datId rfl|exact datO|exact datIo rfl);(first|exact datV|exact datIv rfl|exact datL|exact datIl rfl|exact datD|exact datId rfl|exact datO|exact datIo rfl);rfl;(first|assumption|rfl))|((with_reducible apply i_inD);(first|exact datV|exact datIv rfl|exact datL|exact datIl rfl|exact datD|exact datId rfl|exact datO|exact datIo rfl);(first|exact datV|exact datIv rfl|exact datL|exact datIl rfl|exact datD|exact datId rfl|exact datO|exact datIo rfl);rfl)|((with_reducible apply i_useiv);rfl)|((with_reducible apply i_useil);rfl)|((with_reducible apply i_useid);rfl)|((with_reducible apply i_tuplel);(first|exact datV|exact datIv rfl|exact datL|exact datIl rfl|exact datD|exact datId rfl|exact datO|exact datIo rfl))|((with_reducible apply i_tuplet);(first|exact datV|exact datIv rfl|exact datL|exact datIl rfl|exact datD|exact datId rfl|exact datO|exact datIo rfl))|((with_reducible apply i_slcT);(first|exact datV|exact datIv rfl|exact datL|exact datIl rfl|exact datD|exact datId rfl|exact datO|exact datIo rfl))|((with_reducible apply i_slcL);(first|exact datV|exact datIv rfl|exact datL|exact datIl rfl|exact datD|exact datId rfl|exact datO|exact datIo rfl))|((with_reducible apply i_ninD);(first|exact datV|exact datIv rfl|exact datL|exact datIl rfl|exact datD|exact datId rfl|exact datO|exact datIo rfl);(first|exact datV|exact datIv rfl|exact datL|exact datIl rfl|exact datD|exact datId rfl|exact datO|exact datIo rfl);rfl)|((with_reducible apply i_sz);exact Nat.le_of_ble_eq_true rfl)|exact pl_int|exact pl_str|exact pl_bl|exact pl_non|exact lenA_l|exact cpow_h (by unfold CPow; decide)|exact cmul_h (by unfold CMul; first|decide|omega)|((with_reducible first|apply lenA_h|apply plD_h);assumption)|(with_reducible first|apply i_itet|apply i_itef)|((with_reducible refine i_itepB ?_ ?_);(first|assumption|rfl))|((with_reducible refine i_itenB ?_ ?_);(first|assumption|rfl))|((with_reducible apply i_ite)<;>intro hif)))
section
variable {EA : AX} {ρ ρ' : AEnv} {Q : AK} {K : Fg} {CB CJ CN CBB CBE CM : Addr} {DA : AEnds}
theorem i_useJ {l : Lat} {es : List Ent} {k : D → AEnv → Prop} (h : k (jD CJ CB l es) ρ) : useA (.obj CJ (jF CB l es)) ρ k := h
/-! _law_then, _law_heard -/
def told (es : List Ent) : D := .tup [.str ("told" : Str), .lst (esD es)]
def refd (d : D) : D := .tup [.str ("refused" : Str), d]
def ltD (i : TH) : D := if thGood i = true then told (i.es ++ thE i.e) else refd (.int i.es.length)
def spLThen (CJ CB : Addr) : ASp := spI (thArgs CJ CB) (THOk CB) (fun i => .rt (.v (ltD i))) (thArgs CJ CB)
theorem k_lthen {l : Lat} {es : List Ent} {e : Ent} (h : THOk CB ⟨l, es, .e e⟩) (hg : good (lGet l) (runE [] es) (lastE none es) e = true) (k : Q (.v (told (es ++ [e]))) ρ) : callA (spLThen CJ CB) [.v (jD CJ CB l es), .v e.d] EA ρ Q := i_callI ⟨l, es, .e e⟩ rfl h (congrArg (fun d => RX.rt (.v d)) (if_pos hg)) k
theorem k_lthenX {l : Lat} {es : List Ent} {e : EO} (h : THOk CB ⟨l, es, e⟩) (hg : goodX (lGet l) (runE [] es) (lastE none es) e = false) (k : Q (.v (refd (.int es.length))) ρ) : callA (spLThen CJ CB) [.v (jD CJ CB l es), .v e.d] EA ρ Q := i_callI ⟨l, es, e⟩ rfl h (congrArg (fun d => RX.rt (.v d)) (if_neg (by show ¬goodX _ _ _ _ = true; rw [hg]; exact Bool.false_ne_true))) k
theorem rd_lthen (hx : PySem.W.exmOne K (.ref CBE) (.ref CBE) = some true) : ∀ xs, (spLThen CJ CB).pre xs → as__law_then K CJ CBE (spThen CJ CB CBE) (spEntriesP CJ CB) (endsOf [0, 1] (spLThen CJ CB) xs) (startA 3 xs) := rd_I th_inj fun i hi DA hR hN hX => by
  obtain ⟨l, es, e⟩ := i
  show as__law_then K CJ CBE _ _ _ [some (.v (jD CJ CB l es)), some (.v e.d), none]
  unfold as__law_then asTry
  cases hg : goodX (lGet l) (runE [] es) (lastE none es) e with
  | true =>
    cases e with
    | o d => cases hg
    | e e =>
      simp only [EO.d]
      (repeat' walk_at "vs1")
      refine i_propJ ?_
      (repeat' walk_at "vs1")
      refine k_then hi hg ?_
      (repeat' first|((with_reducible apply i_useJ))|walk_at "vs1")
      refine ⟨⟨_, datV⟩, k_entriesP ?_⟩
      (repeat' walk_at "vs1")
      exact hR _ _ rfl (congrArg (fun d => RX.rt (.v d)) (if_pos hg))
  | false =>
    (repeat' walk_at "vs1")
    refine i_propJ ?_
    (repeat' walk_at "vs1")
    refine k_thenX hi hg ?_
    refine ⟨true, hx, fun _ => ⟨rfl, by simp, by simp, refd (.int es.length), rfl, hR _ _ rfl (congrArg (fun d => RX.rt (.v d)) (if_neg (by show ¬goodX _ _ _ _ = true; rw [hg]; exact Bool.false_ne_true)))⟩, fun z => nomatch z⟩
def lhD (i : HE) : D := match i.h with
  | .int h => told (byT h i.es)
  | d => refd d
def spLHeard (CJ CB : Addr) : ASp := spI (heArgs CJ CB) (heOk CB) (fun i => .rt (.v (lhD i))) (heArgs CJ CB)
theorem k_lheard {l : Lat} {es : List Ent} {h : Int} (h1 : es.length ≤ 1000) (h2 : JOk l (byT h es)) (k : Q (.v (told (byT h es))) ρ) : callA (spLHeard CJ CB) [.v (jD CJ CB l es), .v (.int h)] EA ρ Q := i_callI ⟨l, es, .int h⟩ rfl ⟨h1, fun h' e => by cases e; exact h2, .inl rfl⟩ rfl k
theorem k_lheardX {l : Lat} {es : List Ent} {d : D} (h1 : es.length ≤ 1000) (h2 : isIntD d = false) (h3 : okI CB d) (k : Q (.v (refd d)) ρ) : callA (spLHeard CJ CB) [.v (jD CJ CB l es), .v d] EA ρ Q := i_callI ⟨l, es, d⟩ rfl ⟨h1, (fun h' e => by
    have e' : d = .int h' := e
    rw [e'] at h2
    cases h2), h3⟩ (by cases d <;> first | rfl | cases h2) k
theorem rd_lheard (hx : PySem.W.exmOne K (.ref CM) (.ref CM) = some true) : ∀ xs, (spLHeard CJ CB).pre xs → as__law_heard K CJ CM (spHeard CJ CB CM) (spEntriesP CJ CB) (endsOf [0, 1] (spLHeard CJ CB) xs) (startA 3 xs) := rd_I (fun i j _ _ h => by
    cases i; cases j
    simp only [heArgs, List.cons.injEq, A.v.injEq, and_true] at h
    obtain ⟨rfl, rfl⟩ := jD_inj h.1
    rw [h.2]) fun i hi DA hR hN hX => by
  obtain ⟨l, es, d⟩ := i
  obtain ⟨h1, h2, h3⟩ := hi
  simp only at h1 h2 h3
  show as__law_heard K CJ CM _ _ _ [some (.v (jD CJ CB l es)), some (.v d), none]
  unfold as__law_heard asTry
  cases hd : isIntD d with
  | true =>
    cases d with
    | int h =>
      (repeat' walk_at "vs1")
      refine i_propJ ?_
      (repeat' walk_at "vs1")
      refine k_heard h1 (h2 h rfl) ?_
      (repeat' first|((with_reducible apply i_useJ))|walk_at "vs1")
      refine ⟨⟨_, datV⟩, k_entriesP ?_⟩
      (repeat' walk_at "vs1")
      exact hR _ _ rfl rfl
    | _ => cases hd
  | false =>
    (repeat' walk_at "vs1")
    refine i_propJ ?_
    (repeat' walk_at "vs1")
    refine k_heardX h1 hd h3 ?_
    exact ⟨true, hx, fun _ => ⟨rfl, by simp, by simp, refd d, rfl, hR _ _ rfl (by cases d <;> first | rfl | cases hd)⟩, fun z => nomatch z⟩
/-! _law_arrival -/
def oneEn (e : Ent) : List A := [.v e.d]
def spArr : ASp := spI oneEn (fun _ => True) (fun e => .rt (.v (.int e.t))) oneEn
theorem k_arr {e : Ent} (k : Q (.v (.int e.t)) ρ) : callA spArr [.v e.d] EA ρ Q := i_callI e rfl trivial rfl k
theorem rd_arr : ∀ xs, spArr.pre xs → as__law_arrival (endsOf [0] spArr xs) (startA 1 xs) := rd_I (fun i j _ _ h => by
    simp only [oneEn, List.cons.injEq, A.v.injEq, and_true] at h
    exact Ent.inj h) fun e _ DA hR hN hX => by
  show as__law_arrival _ [some (.v e.d)]
  unfold as__law_arrival
  cases e <;> simp only [Ent.d] <;> (repeat' walk_at "vs1") <;> exact hR _ _ rfl rfl
/-! _law_bad -/
structure BD where
  p : A
  l : Lat
  st : Sts
  n : Int
  t : Int
def bdArgs (i : BD) : List A := [i.p, .v (.dic (latK i.l)), .dic (stsK i.st), .v (.int i.n), .v (.int i.t)]
structure BDOk (i : BD) : Prop where
  p : isPool i.p
  l : LatOk i.l
  ok : StOk (lGet i.l) i.st
  nd : (i.st.map (·.1)).Nodup
  le : i.st.length ≤ 200
  fr : sGet i.st i.n = none
def BadE (l : Lat) (st : Sts) (t : Int) (e : Ent) : Prop := okE e ∧ ∀ last, last = some t → good (lGet l) st last e = false
def spBad : ASp := spR bdArgs BDOk (fun i r xs' => ∃ (bs : List Ent) (p' : A), r = .lst (esD bs) ∧ 1 ≤ bs.length ∧ bs.length ≤ 1000 ∧ (∀ e ∈ bs, BadE i.l i.st i.t e) ∧ isPool p' ∧ xs' = [p', .v (.dic (latK i.l)), .dic (stsK i.st), .v (.int i.n), .v (.int i.t)]) (fun _ _ _ _ => False)
theorem inT_false {m t l : Int} (h : ¬(m ≤ t ∧ t ≤ m + l)) : inT m t l = false := by
  cases e : inT m t l with
  | false => rfl
  | true => exact absurd (inT_iff.mp e) h
theorem openO_none {g : Str → Option Int} {st : Sts} {i t : Int} {f : Int → Bool} (h : ∀ o, sGet st i ≠ some (some o)) : openO g st i t f = false := by
  unfold openO
  split
  · rename_i o ho
    exact absurd ho (h o)
  · rfl
theorem openO_late {g : Str → Option Int} {st : Sts} {i t x : Int} {o : Sta} {f : Int → Bool} (h : sGet st i = some (some o)) (hg : g o.s = some x) (ht : o.m + x < t) : openO g st i t f = false := by
  unfold openO
  rw [h]
  simp only [hg, decide_eq_true ht]
  rfl
section
variable {l : Lat} {st : Sts} {n t x : Int} {s : Str}
theorem bad_rowT (m : Int) (a t' : Int) (hs : nameS s = true) (hg : lGet l s = some x) (h : ¬(m ≤ t' ∧ t' ≤ m + x)) (i : Int) : BadE l st t (.row i s ("a" : Str) m a t') := ⟨⟨nameS_ok hs, by decide⟩, fun last _ => by
  simp only [good, hg, inT_false h, Bool.and_false]⟩
theorem bad_rowL (m : Int) (a t' : Int) (hs : nameS s = true) (h : t' < t) (i : Int) : BadE l st t (.row i s ("a" : Str) m a t') := ⟨⟨nameS_ok hs, by decide⟩, fun last e => by
  subst e
  have hl : lateOk (some t) t' = false := by simp only [lateOk, decide_eq_true h]; rfl
  simp only [good, Ent.t, hl, Bool.false_and, Bool.and_false]⟩
theorem bad_rowI (m : Int) (a t' : Int) (hs : nameS s = true) (i : Int) (h : sGet st i ≠ none) : BadE l st t (.row i s ("a" : Str) m a t') := ⟨⟨nameS_ok hs, by decide⟩, fun last e => by
  cases q : sGet st i with
  | none => exact absurd q h
  | some o => simp only [good, q, Option.isNone_some, Bool.false_and, Bool.and_false]⟩
theorem bad_fixN (m a t' i : Int) (h : ∀ o, sGet st i ≠ some (some o)) : BadE l st t (.fix i m a t') := ⟨trivial, fun last e => by
  simp only [good, openO_none h, Bool.and_false]⟩
theorem bad_goneN (t' i : Int) (h : ∀ o, sGet st i ≠ some (some o)) : BadE l st t (.gone i t') := ⟨trivial, fun last e => by
  simp only [good, openO_none h, Bool.and_false]⟩
theorem bad_fixT {o : Sta} (m a t' i : Int) (h : sGet st i = some (some o)) (hg : lGet l o.s = some x) (ht : o.m + x < t') : BadE l st t (.fix i m a t') := ⟨trivial, fun last e => by
  simp only [good, openO_late h hg ht, Bool.and_false]⟩
theorem bad_goneT {o : Sta} (t' i : Int) (h : sGet st i = some (some o)) (hg : lGet l o.s = some x) (ht : o.m + x < t') : BadE l st t (.gone i t') := ⟨trivial, fun last e => by
  simp only [good, openO_late h hg ht, Bool.and_false]⟩
end
theorem pass5 {i j : Nat} {p q a b c : A} (hij : i ≠ j) (hp : ρ[i]? = some (some p)) (hq : ρ[j]? = some (some q)) (ha : isLoc a = false) (hb : isLoc b = false) (hc : isLoc c = false) : pass [.loc i, a, .loc j, b, c] ρ = some ([p, a, q, b, c], (ρ.set i none).set j none) := by
  have hq' : (ρ.set i none)[j]? = some (some q) := by rw [List.getElem?_set_ne hij]; exact hq
  cases a <;> cases b <;> cases c <;> first | (simp only [pass, hp, hq']; done) | (cases ha; done) | (cases hb; done) | (cases hc; done)
theorem k_bad {i j : Nat} {p : A} {l : Lat} {st : Sts} {n t : Int} (hij : i ≠ j) (hp : ρ[i]? = some (some p)) (hq : ρ[j]? = some (some (.dic (stsK st)))) (h : BDOk ⟨p, l, st, n, t⟩) (k : ∀ bs p', 1 ≤ bs.length → bs.length ≤ 1000 → (∀ e ∈ bs, BadE l st t e) → isPool p' → Q (.lst (esD bs)) (ρ.set i (some p'))) : callA spBad [.loc i, .v (.dic (latK l)), .loc j, .v (.int n), .v (.int t)] EA ρ Q := by
  refine i_callR (ρ' := (ρ.set i none).set j none) ⟨p, l, st, n, t⟩ (pass5 hij hp hq rfl rfl rfl) h (fun r ys' q _ => ?_) (fun _ _ _ h => h.elim)
  obtain ⟨bs, p', rfl, h1, h2, h3, hp', rfl⟩ := q
  show Q _ ((((ρ.set i none).set j none).set i (some p')).set j (some (.dic (stsK st))))
  have e0 : ((ρ.set i none).set j none).set i (some p') = (ρ.set i (some p')).set j none := by
    rw [List.set_comm none (some p') (Ne.symm hij), set2]
  rw [e0, set_back (by rw [List.getElem?_set_ne hij]; exact hq)]
  exact k bs p' h1 h2 h3 hp'
theorem rd_bad : ∀ xs, spBad.pre xs → as__law_bad spDraw (endsOf [0, 1, 2, 3, 4] spBad xs) (startA 10 xs) := rd_P (fun i j _ _ h => by
    cases i; cases j
    simp only [bdArgs, List.cons.injEq, A.v.injEq, A.dic.injEq, D.dic.injEq, D.int.injEq, and_true] at h
    obtain ⟨h1, h2, h3, h4, h5⟩ := h
    rw [h1, latK_inj h2, stsK_inj h3, h4, h5]) fun i hi DA hR hN hX => by
  obtain ⟨p, l, st, n, t⟩ := i
  obtain ⟨hp, hl, hok, hnd, hle, hfr⟩ := hi
  simp only at hp hl hok hnd hle hfr hR
  show as__law_bad _ _ [some p, some (.v (.dic (latK l))), some (.dic (stsK st)), some (.v (.int n)), some (.v (.int t)), none, none, none, none, none]
  unfold as__law_bad rs__law_bad_2 rs__law_bad_3 rs__law_bad_4 rs__law_bad_5 rs__law_bad_6
  have hl1 : lenD (.dic (latK l)) = some l.length := by simp [lenD, latK]
  have hli : itemsD (.dic (latK l)) = some (l.map fun p => D.str p.1) := by simp [itemsD, latK, keyOf]
  have q1 := hl.lo
  have q2 := hl.hi
  (repeat' walk_at "vs1")
  refine k_draw rfl hp (by omega) (by omega) fun z1 p1 a1 b1 hp1 => ?_
  obtain ⟨⟨s, x⟩, hs, hi⟩ := at_map (xs := l) (f := fun p => D.str p.1) a1 b1
  simp only at hi
  have hx := hl.z _ hs
  have hsn := hl.nm _ hs
  have hg : lGet l s = some x := mem_lGet hl.nd hs
  have hlx : itD (.dic (latK l)) (.str s) = some (.int x) := by
    show valD (latK l) (.inr s) = _
    rw [val_lat, hg]
    rfl
  simp only at hx hsn
  have hfn : ∀ o, sGet st n ≠ some (some o) := fun o => by rw [hfr]; exact fun z => nomatch z
  (repeat' walk_at "vs1")
  · exact Nat.le_of_ble_eq_true rfl
  (simp only [List.set_cons_zero, List.set_cons_succ])
  refine ⟨_, rfl, ?_⟩
  have hit : (stsK st).map (fun p => keyOf p.1) = (st.map (·.1)).map D.int := by simp [stsK, keyOf]
  rw [hit]
  refine for_rec (fun xs ρ => ∃ (is : List Int) (bs : List Ent) (L : List D) (o8 o9 : Option A), xs = is.map D.int ∧ (∀ i ∈ is, i ∈ st.map (·.1)) ∧ L = esD bs ∧ 1 ≤ bs.length ∧ bs.length + 3 * is.length ≤ 900 ∧ (∀ e ∈ bs, BadE l st t e) ∧ ρ = [some p1, some (.v (.dic (latK l))), some (.dic (stsK st)), some (.v (.int n)), some (.v (.int t)), some (.v (.str s)), some (.v (.int x)), some (.lst L), o8, o9]) ?_ ?_ _ _ ⟨st.map (·.1), [.row n s ("a" : Str) (t + 1) 0 t, .row n s ("a" : Str) (t - x - 1) 0 t, .fix n t 0 t, .gone n t, .row n s ("a" : Str) t 0 (t - 1)], _, _, _, rfl, fun _ h => h, rfl, by simp, by simp; omega, ?_, rfl⟩
  · rintro ρ ⟨is, bs, L, o8, o9, e, _, rfl, h1, h2, h3, rfl⟩
    refine ⟨trivial, ?_⟩
    (repeat' walk_at "vs1")
    exact hR _ _ _ rfl ⟨bs, p1, rfl, h1, by omega, h3, hp1, rfl⟩
  · rintro y xs ρ ⟨is, bs, L, o8, o9, e, his, rfl, h1, h2, h3, rfl⟩ ih
    cases is with
    | nil => cases e
    | cons j is =>
      simp only [List.map_cons, List.cons.injEq] at e
      obtain ⟨rfl, rfl⟩ := e
      have hjm := his j (List.mem_cons_self ..)
      have his' : ∀ i ∈ is, i ∈ st.map (·.1) := fun i hi => his i (List.mem_cons_of_mem _ hi)
      refine ⟨trivial, ?_⟩
      unfold bd__law_bad_1
      have hapl : (esD bs).length ≤ 100000 := by simp [esD] at h2 ⊢; omega
      cases hgj : sGet st j with
      | none => exact absurd hjm ((get_none_iff st j).mp hgj)
      | some o =>
        have hso : itD (.dic (stsK st)) (.int j) = some (staD o) := by
          show valD (stsK st) (.inl j) = _
          rw [val_sts, hgj]
          rfl
        have b1 : BadE l st t (.row j s ("a" : Str) t 0 t) := bad_rowI t 0 t hsn j (by rw [hgj]; simp)
        cases o with
        | none =>
          simp only [staD] at hso
          have hno : ∀ o, sGet st j ≠ some (some o) := fun o => by rw [hgj]; simp
          (repeat' walk_at "vs1")
          · exact hapl
          · simp [esD] at h2 ⊢; omega
          · (simp only [List.set_cons_zero, List.set_cons_succ])
            refine ih _ ⟨is, bs ++ [.row j s ("a" : Str) t 0 t, .fix j t 0 t, .gone j t], _, _, _, rfl, his', by simp [esD, Ent.d], by simp, by simp at h2 ⊢; omega, fun e he => ?_, rfl⟩
            rcases List.mem_append.mp he with he | he
            · exact h3 e he
            · simp at he
              rcases he with rfl | rfl | rfl
              · exact b1
              · exact bad_fixN _ _ _ _ hno
              · exact bad_goneN _ _ hno
        | some o =>
          simp only [staD, Sta.d] at hso
          obtain ⟨xo, hxo⟩ := Option.isSome_iff_exists.mp (hok j o hgj)
          have hlo : itD (.dic (latK l)) (.str o.s) = some (.int xo) := by
            show valD (latK l) (.inr o.s) = _
            rw [val_lat, hxo]
            rfl
          (repeat' walk_at "vs1")
          · exact hapl
          · simp [esD] at h2 ⊢; omega
          · (simp only [List.set_cons_zero, List.set_cons_succ])
            refine ih _ ⟨is, bs ++ [.row j s ("a" : Str) t 0 t, .fix j (o.m + xo + 1) 0 (o.m + xo + 1), .gone j (o.m + xo + 1)], _, _, _, rfl, his', by simp [esD, Ent.d], by simp, by simp at h2 ⊢; omega, fun e he => ?_, rfl⟩
            rcases List.mem_append.mp he with he | he
            · exact h3 e he
            · simp at he
              rcases he with rfl | rfl | rfl
              · exact b1
              · exact bad_fixT _ _ _ _ hgj hxo (by omega)
              · exact bad_goneT _ _ hgj hxo (by omega)
          · (simp only [List.set_cons_zero, List.set_cons_succ])
            refine ih _ ⟨is, bs ++ [.row j s ("a" : Str) t 0 t], _, _, _, rfl, his', by simp [esD, Ent.d], by simp, by simp at h2 ⊢; omega, fun e he => ?_, rfl⟩
            rcases List.mem_append.mp he with he | he
            · exact h3 e he
            · have : e = .row j s ("a" : Str) t 0 t := by simpa using he
              rw [this]
              exact b1
  · intro e he
    simp at he
    rcases he with rfl | rfl | rfl | rfl | rfl
    · exact bad_rowT _ _ _ hsn hg (by omega) _
    · exact bad_rowT _ _ _ hsn hg (by omega) _
    · exact bad_fixN _ _ _ _ hfn
    · exact bad_goneN _ _ hfn
    · exact bad_rowL _ _ _ hsn (by omega) _
/-! _law_at_the_end -/
structure AT' where
  st : Sts
  l : Lat
  t : Int
def atArgs (i : AT') : List A := [.dic (stsK i.st), .v (.dic (latK i.l)), .v (.int i.t)]
structure ATOk (i : AT') : Prop where
  l : LatOk i.l
  ok : StOk (lGet i.l) i.st
  id : ∀ j, sGet i.st j ≠ none → 0 ≤ j
  le : i.st.length ≤ 200
def GoodE (l : Lat) (st : Sts) (t : Int) (e : Ent) : Prop := okE e ∧ good (lGet l) st (some t) e = true
def spEnd : ASp := spR atArgs ATOk (fun i r xs' => ∃ (bs : List Ent), r = .lst (esD bs) ∧ bs.length ≤ 1000 ∧ (∀ e ∈ bs, GoodE i.l i.st i.t e) ∧ xs' = atArgs i) (fun _ _ _ _ => False)
theorem k_end {j : Nat} {l : Lat} {st : Sts} {t : Int} (hq : ρ[j]? = some (some (.dic (stsK st)))) (h : ATOk ⟨st, l, t⟩) (k : ∀ bs, bs.length ≤ 1000 → (∀ e ∈ bs, GoodE l st t e) → Q (.lst (esD bs)) ρ) : callA spEnd [.loc j, .v (.dic (latK l)), .v (.int t)] EA ρ Q := by
  refine i_callR (ρ' := ρ.set j none) ⟨st, l, t⟩ (by simp [pass, hq, atArgs]) h (fun r ys' q _ => ?_) (fun _ _ _ h => h.elim)
  obtain ⟨bs, rfl, h1, h2, rfl⟩ := q
  show Q _ ((ρ.set j none).set j (some (.dic (stsK st))))
  rw [set_back hq]
  exact k bs h1 h2
theorem late_le {t t' : Int} (h : t ≤ t') : lateOk (some t) t' = true := by
  simp only [lateOk, Bool.not_eq_true', decide_eq_false_iff_not, Int.not_lt]
  exact h
theorem good_fixE {l : Lat} {st : Sts} {t m a t' i x : Int} {o : Sta} (h : sGet st i = some (some o)) (hg : lGet l o.s = some x) (h0 : 0 ≤ i) (ht : t ≤ t') (h1 : t' ≤ o.m + x) (h2 : m ≤ t') (h3 : t' ≤ m + x) : GoodE l st t (.fix i m a t') := ⟨trivial, by
  have e1 : openO (lGet l) st i t' (fun l => inT m t' l) = true := by
    unfold openO
    rw [h]
    simp only [hg, decide_eq_false (show ¬o.m + x < t' by omega), inT_iff.mpr ⟨h2, h3⟩]
    rfl
  simp only [good, Ent.ok, Ent.t, late_le ht, e1, decide_eq_true h0]
  rfl⟩
theorem good_goneE {l : Lat} {st : Sts} {t t' i x : Int} {o : Sta} (h : sGet st i = some (some o)) (hg : lGet l o.s = some x) (h0 : 0 ≤ i) (ht : t ≤ t') (h1 : t' ≤ o.m + x) : GoodE l st t (.gone i t') := ⟨trivial, by
  have e1 : openO (lGet l) st i t' (fun _ => true) = true := by
    unfold openO
    rw [h]
    simp only [hg, decide_eq_false (show ¬o.m + x < t' by omega)]
    rfl
  simp only [good, Ent.ok, Ent.t, late_le ht, e1, decide_eq_true h0]
  rfl⟩
theorem rd_end : ∀ xs, spEnd.pre xs → as__law_at_the_end (endsOf [0, 1, 2] spEnd xs) (startA 6 xs) := rd_P (fun i j _ _ h => by
    cases i; cases j
    simp only [atArgs, List.cons.injEq, A.v.injEq, A.dic.injEq, D.dic.injEq, D.int.injEq, and_true] at h
    obtain ⟨h1, h2, h3⟩ := h
    rw [stsK_inj h1, latK_inj h2, h3]) fun i hi DA hR hN hX => by
  obtain ⟨st, l, t⟩ := i
  obtain ⟨hl, hok, hid, hle⟩ := hi
  simp only at hl hok hid hle hR
  show as__law_at_the_end _ [some (.dic (stsK st)), some (.v (.dic (latK l))), some (.v (.int t)), none, none, none]
  unfold as__law_at_the_end rs__law_at_the_end_2 rs__law_at_the_end_3
  (repeat' walk_at "vs1")
  (simp only [List.set_cons_zero, List.set_cons_succ])
  refine ⟨_, rfl, ?_⟩
  have hit : (stsK st).map (fun p => keyOf p.1) = (st.map (·.1)).map D.int := by simp [stsK, keyOf]
  rw [hit]
  refine for_rec (fun xs ρ => ∃ (is : List Int) (bs : List Ent) (L : List D) (o4 o5 : Option A), xs = is.map D.int ∧ (∀ i ∈ is, i ∈ st.map (·.1)) ∧ L = esD bs ∧ bs.length + 3 * is.length ≤ 900 ∧ (∀ e ∈ bs, GoodE l st t e) ∧ ρ = [some (.dic (stsK st)), some (.v (.dic (latK l))), some (.v (.int t)), some (.lst L), o4, o5]) ?_ ?_ _ _ ⟨st.map (·.1), [], _, _, _, rfl, fun _ h => h, rfl, by simp; omega, (fun _ h => nomatch h), rfl⟩
  · rintro ρ ⟨is, bs, L, o4, o5, e, _, rfl, h2, h3, rfl⟩
    refine ⟨trivial, ?_⟩
    (repeat' walk_at "vs1")
    exact hR _ _ _ rfl ⟨bs, rfl, by omega, h3, rfl⟩
  · rintro y xs ρ ⟨is, bs, L, o4, o5, e, his, rfl, h2, h3, rfl⟩ ih
    cases is with
    | nil => cases e
    | cons j is =>
      simp only [List.map_cons, List.cons.injEq] at e
      obtain ⟨rfl, rfl⟩ := e
      have hjm := his j (List.mem_cons_self ..)
      have his' : ∀ i ∈ is, i ∈ st.map (·.1) := fun i hi => his i (List.mem_cons_of_mem _ hi)
      have skip : ∀ o4 o5, forA (fun _ => True) (agName 4) bd__law_at_the_end_1 { DA with nx := asRet (aRef 3) DA } (is.map D.int) [some (.dic (stsK st)), some (.v (.dic (latK l))), some (.v (.int t)), some (.lst (esD bs)), o4, o5] := fun o4 o5 => ih _ ⟨is, bs, _, o4, o5, rfl, his', rfl, by simp at h2; omega, h3, rfl⟩
      refine ⟨trivial, ?_⟩
      unfold bd__law_at_the_end_1
      cases hgj : sGet st j with
      | none => exact absurd hjm ((get_none_iff st j).mp hgj)
      | some o =>
        have hj0 := hid j (by rw [hgj]; simp)
        have hso : itD (.dic (stsK st)) (.int j) = some (staD o) := by
          show valD (stsK st) (.inl j) = _
          rw [val_sts, hgj]
          rfl
        cases o with
        | none =>
          simp only [staD] at hso
          (repeat' walk_at "vs1")
          exact skip _ _
        | some o =>
          simp only [staD, Sta.d] at hso
          obtain ⟨xo, hxo⟩ := Option.isSome_iff_exists.mp (hok j o hgj)
          have hxb := hl.z _ (lGet_mem hxo)
          simp only at hxb
          have hlo : itD (.dic (latK l)) (.str o.s) = some (.int xo) := by
            show valD (latK l) (.inr o.s) = _
            rw [val_lat, hxo]
            rfl
          (repeat' walk_at "vs1")
          · simp [esD] at h2 ⊢; omega
          · simp [esD] at h2 ⊢; omega
          · have ht : t ≤ o.m + xo := of_decide_eq_true hif
            (simp only [List.set_cons_zero, List.set_cons_succ])
            refine ih _ ⟨is, bs ++ [.fix j (o.m + xo) 1 (o.m + xo), .gone j (o.m + xo), .fix j (o.m + xo - xo) 1 (o.m + xo)], _, _, _, rfl, his', by simp [esD, Ent.d], by simp at h2 ⊢; omega, fun e he => ?_, rfl⟩
            rcases List.mem_append.mp he with he | he
            · exact h3 e he
            · simp at he
              rcases he with rfl | rfl | rfl
              · exact good_fixE hgj hxo hj0 ht (by omega) (by omega) (by omega)
              · exact good_goneE hgj hxo hj0 ht (by omega)
              · exact good_fixE hgj hxo hj0 ht (by omega) (by omega) (by omega)
          · exact skip _ _
end
end Law

set_option Elab.async false
set_option linter.all false
set_option maxRecDepth 100000
set_option maxHeartbeats 4000000
namespace Law
open PySem PySem.Spec PyProof.Rows L2 Vs
set_option hygiene false in
local macro_rules | `(tactic| walk_at "vs1") => `(tactic| (first|((with_reducible first|apply i_seq|apply i_next|apply i_expr|apply i_ret|apply i_retN|apply i_if|apply i_break|apply i_cont|apply i_set|apply i_putX|apply i_for|apply i_retv|apply i_retl|apply i_retd|apply i_reto|apply i_setv|apply i_setl|apply i_setd|apply i_seto|apply i_usev|apply i_usel|apply i_used|apply i_useo|apply i_uses0|apply i_uses1|apply i_c|apply i_op|apply i_un|apply i_test|apply i_tand|apply i_tor|apply i_tnot|apply i_and|apply i_or|apply i_not|apply i_ifx|apply i_chain|apply i_chnK|apply i_nil|apply i_cons|apply i_tup|apply i_lst|apply i_dict0|apply i_cb|apply i_frz|apply i_addi|apply i_adds|apply i_addt|apply i_addl|apply i_raise|apply i_forget|apply i_lc|apply i_dc|apply i_agName|apply i_yes|apply i_aiSeqV|apply i_append|apply i_meth0|apply i_make0|apply i_slice|apply i_aoNone|apply i_aoSome|apply i_agCons|apply i_agNil|apply i_asFld|apply i_get1|apply i_call0))|((with_reducible apply i_putK);rfl;(first|exact datV|exact datIv rfl|exact datL|exact datIl rfl|exact datD|exact datId rfl|exact datO|exact datIo rfl);(first|assumption|rfl))|((with_reducible first|apply i_reti|apply i_val|apply i_ref|apply i_appK|apply i_agTup);rfl)|((with_reducible first|apply i_isB|apply i_neg|apply i_int|apply i_isL|apply i_isI|apply i_isDc);(first|exact datV|exact datIv rfl|exact datL|exact datIl rfl|exact datD|exact datId rfl|exact datO|exact datIo rfl))|((with_reducible apply i_ix);(first|exact datV|exact datIv rfl|exact datL|exact datIl rfl|exact datD|exact datId rfl|exact datO|exact datIo rfl);(first|exact datV|exact datIv rfl|exact datL|exact datIl rfl|exact datD|exact datId rfl|exact datO|exact datIo rfl);(first|assumption|rfl))|((with_reducible first|apply i_plus|apply i_sub|apply i_lt|apply i_le|apply i_gt|apply i_ge|apply i_mul|apply i_mod|apply i_pow|apply i_div|apply i_eq|apply i_ne|apply i_is|apply i_isnot|apply i_max|apply i_min);(first|exact datV|exact datIv rfl|exact datL|exact datIl rfl|exact datD|exact datId rfl|exact datO|exact datIo rfl);(first|exact datV|exact datIv rfl|exact datL|exact datIl rfl|exact datD|exact datId rfl|exact datO|exact datIo rfl))|((with_reducible apply i_isi);(first|exact datV|exact datIv rfl|exact datL|exact datIl rfl|exact datD|exact datId rfl|exact datO|exact datIo rfl);(first|exact isi1 (by first|assumption|rfl) (by decide)|exact isi_lt (by first|assumption|rfl)|exact isi_own (by assumption) (by assumption)))|((with_reducible apply i_fldV);rfl;rfl)|((with_reducible first|apply i_len|apply i_list);(first|exact datV|exact datIv rfl|exact datL|exact datIl rfl|exact datD|exact datId rfl|exact datO|exact datIo rfl);(first|assumption|rfl))|((with_reducible apply i_objK);(first|exact datV|exact datIv rfl|exact datL|exact datIl rfl|exact datD|exact datId rfl|exact datO|exact datIo rfl);rfl)|((with_reducible apply i_fldK);rfl;(first|exact fs_nil|exact fs_one);exact Nat.le_of_ble_eq_true rfl)|((with_reducible apply i_getK);(first|exact datV|exact datIv rfl|exact datL|exact datIl rfl|exact datD|exact datId rfl|exact datO|exact datIo rfl);(first|exact datV|exact datIv rfl|exact datL|exact datIl rfl|exact datD|exact datId rfl|exact datO|exact datIo rfl);rfl;(first|assumption|rfl))|((with_reducible apply i_inD);(first|exact datV|exact datIv rfl|exact datL|exact datIl rfl|exact datD|exact datId rfl|exact datO|exact datIo rfl);(first|exact datV|exact datIv rfl|exact datL|exact datIl rfl|exact datD|exact datId rfl|exact datO|exact datIo rfl);rfl)|((with_reducible apply i_useiv);rfl)|((with_reducible apply i_useil);rfl)|((with_reducible apply i_useid);rfl)|((with_reducible apply i_tuplel);(first|exact datV|exact datIv rfl|exact datL|exact datIl rfl|exact datD|exact datId rfl|exact datO|exact datIo rfl))|((with_reducible apply i_tuplet);(first|exact datV|exact datIv rfl|exact datL|exact datIl rfl|exact datD|exact datId rfl|exact datO|exact datIo rfl))|((with_reducible apply i_slcT);(first|exact datV|exact datIv rfl|exact datL|exact datIl rfl|exact datD|exact datId rfl|exact datO|exact datIo rfl))|((with_reducible apply i_slcL);(first|exact datV|exact datIv rfl|exact datL|exact datIl rfl|exact datD|exact datId rfl|exact datO|exact datIo rfl))|((with_reducible apply i_ninD);(first|exact datV|exact datIv rfl|exact datL|exact datIl rfl|exact datD|exact datId rfl|exact datO|exact datIo rfl);(first|exact datV|exact datIv rfl|exact datL|exact datIl rfl|exact datD|exact datId rfl|exact datO|exact datIo rfl);rfl)|((with_reducible apply i_sz);exact Nat.le_of_ble_eq_true rfl)|exact pl_int|exact pl_str|exact pl_bl|exact pl_non|exact lenA_l|exact cpow_h (by unfold CPow; decide)|exact cmul_h (by unfold CMul; first|decide|omega)|((with_reducible first|apply lenA_h|apply plD_h);assumption)|(with_reducible first|apply i_itet|apply i_itef)|((with_reducible refine i_itepB ?_ ?_);(first|assumption|rfl))|((with_reducible refine i_itenB ?_ ?_);(first|assumption|rfl))|((with_reducible apply i_ite)<;>intro hif)))
set_option hygiene false in
local macro_rules | `(tactic| walk_at "vs2") => `(tactic| (first|((with_reducible first|apply i_expr|apply i_ret|apply i_retN|apply i_break|apply i_cont|apply i_set|apply i_putX|apply i_retv|apply i_retl|apply i_retd|apply i_reto|apply i_setv|apply i_setl|apply i_setd|apply i_seto|apply i_usev|apply i_usel|apply i_used|apply i_useo|apply i_uses0|apply i_uses1|apply i_c|apply i_op|apply i_un|apply i_test|apply i_tand|apply i_tor|apply i_tnot|apply i_and|apply i_or|apply i_not|apply i_ifx|apply i_chain|apply i_chnK|apply i_nil|apply i_cons|apply i_tup|apply i_lst|apply i_dict0|apply i_cb|apply i_frz|apply i_addi|apply i_adds|apply i_addt|apply i_addl|apply i_raise|apply i_forget|apply i_lc|apply i_dc|apply i_agName|apply i_yes|apply i_aiSeqV|apply i_append|apply i_meth0|apply i_make0|apply i_slice|apply i_aoNone|apply i_aoSome|apply i_agCons|apply i_agNil|apply i_asFld|apply i_get1|apply i_call0))|((with_reducible apply i_putK);rfl;(first|exact datV|exact datIv rfl|exact datL|exact datIl rfl|exact datD|exact datId rfl|exact datO|exact datIo rfl);(first|assumption|rfl))|((with_reducible first|apply i_reti|apply i_val|apply i_ref|apply i_appK|apply i_agTup);rfl)|((with_reducible first|apply i_isB|apply i_neg|apply i_int|apply i_isL|apply i_isI|apply i_isDc);(first|exact datV|exact datIv rfl|exact datL|exact datIl rfl|exact datD|exact datId rfl|exact datO|exact datIo rfl))|((with_reducible apply i_ix);(first|exact datV|exact datIv rfl|exact datL|exact datIl rfl|exact datD|exact datId rfl|exact datO|exact datIo rfl);(first|exact datV|exact datIv rfl|exact datL|exact datIl rfl|exact datD|exact datId rfl|exact datO|exact datIo rfl);(first|assumption|rfl))|((with_reducible first|apply i_plus|apply i_sub|apply i_lt|apply i_le|apply i_gt|apply i_ge|apply i_mul|apply i_mod|apply i_pow|apply i_div|apply i_eq|apply i_ne|apply i_is|apply i_isnot|apply i_max|apply i_min);(first|exact datV|exact datIv rfl|exact datL|exact datIl rfl|exact datD|exact datId rfl|exact datO|exact datIo rfl);(first|exact datV|exact datIv rfl|exact datL|exact datIl rfl|exact datD|exact datId rfl|exact datO|exact datIo rfl))|((with_reducible apply i_isi);(first|exact datV|exact datIv rfl|exact datL|exact datIl rfl|exact datD|exact datId rfl|exact datO|exact datIo rfl);(first|exact isi1 (by first|assumption|rfl) (by decide)|exact isi_lt (by first|assumption|rfl)|exact isi_own (by assumption) (by assumption)))|((with_reducible apply i_fldV);rfl;rfl)|((with_reducible first|apply i_len|apply i_list);(first|exact datV|exact datIv rfl|exact datL|exact datIl rfl|exact datD|exact datId rfl|exact datO|exact datIo rfl);(first|assumption|rfl))|((with_reducible apply i_objK);(first|exact datV|exact datIv rfl|exact datL|exact datIl rfl|exact datD|exact datId rfl|exact datO|exact datIo rfl);rfl)|((with_reducible apply i_fldK);rfl;(first|exact fs_nil|exact fs_one);exact Nat.le_of_ble_eq_true rfl)|((with_reducible apply i_getK);(first|exact datV|exact datIv rfl|exact datL|exact datIl rfl|exact datD|exact datId rfl|exact datO|exact datIo rfl);(first|exact datV|exact datIv rfl|exact datL|exact datIl rfl|exact datD|exact datId rfl|exact datO|exact datIo rfl);rfl;(first|assumption|rfl))|((with_reducible apply i_inD);(first|exact datV|exact datIv rfl|exact datL|exact datIl rfl|exact datD|exact datId rfl|exact datO|exact datIo rfl);(first|exact datV|exact datIv rfl|exact datL|exact datIl rfl|exact datD|exact datId rfl|exact datO|exact datIo rfl);rfl)|((with_reducible apply i_useiv);rfl)|((with_reducible apply i_useil);rfl)|((with_reducible apply i_useid);rfl)|((with_reducible apply i_tuplel);(first|exact datV|exact datIv rfl|exact datL|exact datIl rfl|exact datD|exact datId rfl|exact datO|exact datIo rfl))|((with_reducible apply i_tuplet);(first|exact datV|exact datIv rfl|exact datL|exact datIl rfl|exact datD|exact datId rfl|exact datO|exact datIo rfl))|((with_reducible apply i_slcT);(first|exact datV|exact datIv rfl|exact datL|exact datIl rfl|exact datD|exact datId rfl|exact datO|exact datIo rfl))|((with_reducible apply i_slcL);(first|exact datV|exact datIv rfl|exact datL|exact datIl rfl|exact datD|exact datId rfl|exact datO|exact datIo rfl))|((with_reducible apply i_ninD);(first|exact datV|exact datIv rfl|exact datL|exact datIl rfl|exact datD|exact datId rfl|exact datO|exact datIo rfl);(first|exact datV|exact datIv rfl|exact datL|exact datIl rfl|exact datD|exact datId rfl|exact datO|exact datIo rfl);rfl)|((with_reducible apply i_sz);exact Nat.le_of_ble_eq_true rfl)|exact pl_int|exact pl_str|exact pl_bl|exact pl_non|exact lenA_l|exact cpow_h (by unfold CPow; decide)|exact cmul_h (by unfold CMul; first|decide|omega)|((with_reducible first|apply lenA_h|apply plD_h);assumption)|(with_reducible first|apply i_itet|apply i_itef)|((with_reducible refine i_itepB ?_ ?_);(first|assumption|rfl))|((with_reducible refine i_itenB ?_ ?_);(first|assumption|rfl))|((with_reducible apply i_ite)<;>intro hif)))
section
variable {EA : AX} {ρ ρ' : AEnv} {Q : AK} {K : Fg} {CB CJ CN CBB CBE : Addr} {DA : AEnds}
theorem pass7 {i j : Nat} {p q a b c d e : A} (hij : i ≠ j) (hp : ρ[i]? = some (some p)) (hq : ρ[j]? = some (some q)) (ha : isLoc a = false) (hb : isLoc b = false) (hc : isLoc c = false) (hd : isLoc d = false) (he : isLoc e = false) : pass [.loc i, a, b, .loc j, c, d, e] ρ = some ([p, a, b, q, c, d, e], (ρ.set i none).set j none) := by
  have hq' : (ρ.set i none)[j]? = some (some q) := by rw [List.getElem?_set_ne hij]; exact hq
  have h3 : pass [c, d, e] ((ρ.set i none).set j none) = some ([c, d, e], (ρ.set i none).set j none) := by
    cases c <;> cases d <;> cases e <;> first | rfl | (cases hc; done) | (cases hd; done) | (cases he; done)
  cases a <;> cases b <;> first | (simp only [pass, hp, hq'] at h3 ⊢; rw [h3]; done) | (cases ha; done) | (cases hb; done)
theorem k_entries {i j : Nat} {p : A} {l : Lat} {ks : List Str} {st : Sts} {n t mm : Int} {m : Nat} (hm : mm = (m : Int)) (hij : i ≠ j) (hp : ρ[i]? = some (some p)) (hq : ρ[j]? = some (some (.dic (stsK st)))) (h : ESOk ⟨p, l, ks, st, n, t, m⟩) (k : ∀ es p', ESPo ⟨p, l, ks, st, n, t, m⟩ es → isPool p' → Q (.lst (esD es)) ((ρ.set i (some p')).set j (some (.dic (stsK (runE st es)))))) : callA spEntries [.loc i, .v (.dic (latK l)), .v (.lst (strsD ks)), .loc j, .v (.int n), .v (.int t), .v (.int mm)] EA ρ Q := by
  subst hm
  refine i_callR (ρ' := (ρ.set i none).set j none) ⟨p, l, ks, st, n, t, m⟩ (pass7 hij hp hq rfl rfl rfl rfl rfl) h (fun r ys' q _ => ?_) (fun _ _ _ h => h.elim)
  obtain ⟨es, p', rfl, he, hp', rfl⟩ := q
  show Q _ ((((ρ.set i none).set j none).set i (some p')).set j (some (.dic (stsK (runE st es)))))
  have e0 : ((ρ.set i none).set j none).set i (some p') = (ρ.set i (some p')).set j none := by
    rw [List.set_comm none (some p') (Ne.symm hij), set2]
  rw [e0, set2]
  exact k es p' he hp'
theorem k_mkB {l : Lat} (h : LatOk l) (k : ∀ m : Lat, m.Perm l → sortedS (m.map (·.1)) = true → Q (.obj CB [("_lates", .v (.dic (latK m)))]) ρ) : mkSp CB (spBookInit CB) [.v (.dic (latK l))] EA ρ Q := by
  refine i_mkR l rfl rfl h (fun r y ys' q _ => ?_) (fun _ _ _ _ h => h.elim)
  obtain ⟨m, h1, h2, rfl, e⟩ := q
  cases e
  exact ⟨rfl, k m h1 h2⟩
theorem i_useB {l : Lat} {k : D → AEnv → Prop} (h : k (bookD CB l) ρ) : useA (.obj CB [("_lates", .v (.dic (latK l)))]) ρ k := h
theorem i_maxV {x : A} {ns : List Int} (h1 : dat x ρ = some (.lst (ns.map D.int))) (h2 : 0 < ns.length) (k : ∀ m, m ∈ ns → Q (.v (.int m)) ρ) : aMaxL [x] ρ Q := ⟨x, ns, rfl, h1, h2, fun m hm _ => k m hm⟩
/-- how many entries are drawn -/
def fewI (z n : Int) : Int := if (if n > 1 + z then n else 1 + z) < 12 then (if n > 1 + z then n else 1 + z) else 12
theorem few_nat {z n : Int} (hz : 0 ≤ z) : ∃ m : Nat, fewI z n = (m : Int) ∧ 1 ≤ m ∧ m ≤ 12 := by
  have h : 1 ≤ fewI z n ∧ fewI z n ≤ 12 := by
    unfold fewI
    split
    · split <;> rename_i h1 h2 <;> simp [h2] at h1 <;> omega
    · omega
  exact ⟨(fewI z n).toNat, by omega, by omega, by omega⟩
theorem fin0 {d : D} (h : ρ[0]? = some (some (.v d))) : fin [0] 0 [.v d] ρ = some [.v d] := by
  cases ρ with
  | nil => simp at h
  | cons o ρ =>
    simp at h
    subst h
    simp [fin]
def lwArgs (ns : List Int) : List A := [.v (.lst (ns.map .int))]
def spLaw : ASp := spI lwArgs (fun ns => ns.length ≤ 63) (fun _ => .rt (.v (.bl true))) lwArgs
theorem deqK_self {l : Lat} (nd : (l.map (·.1)).Nodup) : deqK (latK l) (latK l) = true := by
  unfold deqK
  simp only [BEq.rfl, Bool.true_and, List.all_eq_true]
  intro p hp
  obtain ⟨⟨s, x⟩, hq, rfl⟩ := List.mem_map.mp hp
  simp only [hitD, val_lat, mem_lGet nd hq]
  simp [deq]
theorem i_setP {p : A} {i : Nat} {nx : AEnv → Prop} (hp : isPool p) (k : nx (ρ.set i (some p))) : setA p ρ i nx := by
  obtain ⟨ns, a, b, c, e, rfl, _⟩ := hp
  exact k
theorem runE_two {st : Sts} {es fs : List Ent} : runE st (es ++ fs) = runE (runE st es) fs := by simp [runE]
/-! equal things -/
def Gk (CB : Addr) (d : D) : Prop := PlD 20 d ∨ d = .dic [] ∨ ∃ l, d = bookD CB l ∧ (l.map (·.1)).Nodup
theorem gk_ok {Pr : Program} {w : World} {mg : Str → Option Value} {base : Heap} (T : EqC Pr w K mg base CB 1 (spBookEq CB)) : ∀ d, Gk CB d → GOk Pr w K mg base 1 d := fun d h => by
  rcases h with h | h | ⟨l, rfl, nd⟩
  · exact .inl h
  · exact .inr (.inl h)
  · refine .inr (.inr ⟨CB, _, _, 1, Nat.le_refl _, T, rfl, ⟨(l, l), nd, rfl⟩, fun r xs' q => ?_, fun Ce gs xs' z => ?_⟩)
    · have h1 := (q (l, l) nd rfl).1
      simp only [deqK_self nd] at h1
      cases h1
      rfl
    · have h1 := (z.2 (l, l) nd rfl).1
      cases h1
theorem pl_entE (e : Ent) : PlD 20 e.d := by cases e <;> simp [Ent.d, PlD]
theorem pl_ent19 (e : Ent) : PlD 19 e.d := by cases e <;> simp [Ent.d, PlD]
theorem pl_lst (es : List Ent) : PlD 20 (.lst (esD es)) := by
  simp only [PlD]
  intro x hx
  obtain ⟨e, _, rfl⟩ := List.mem_map.mp hx
  exact pl_ent19 e
theorem gk_str {x : Str} : Gk CB (.str x) := .inl (by simp [PlD])
theorem gk_int {x : Int} : Gk CB (.int x) := .inl (by simp [PlD])
theorem gk_lst {es : List Ent} : Gk CB (.lst (esD es)) := .inl (pl_lst es)
theorem gk_two {a b : D} (h1 : Gk CB a) (h2 : Gk CB b) : ∀ d ∈ [a, b], Gk CB d := fun d hd => by
  simp at hd
  rcases hd with rfl | rfl
  · exact h1
  · exact h2
theorem cut_take (es : List Ent) (k : Nat) : Vs.cutD (esD es) none (some (k : Int)) = esD (es.take k) := by
  have h1 : HT.sIx (esD es).length 0 none = 0 := rfl
  have h2 : HT.sIx (esD es).length (esD es).length (some (k : Int)) = min k (esD es).length := HT.sIx_nat _ _ _
  unfold Vs.cutD
  rw [h1, h2]
  simp only [List.drop_zero, Nat.sub_zero, esD, List.length_map, ← List.map_take]
  congr 1
  rcases Nat.le_total k es.length with h | h
  · rw [Nat.min_eq_left h]
  · rw [Nat.min_eq_right h, List.take_of_length_le (Nat.le_refl _), List.take_of_length_le h]
theorem at_es {es : List Ent} {k : Nat} {e : Ent} (h : es[k]? = some e) : itD (.lst (esD es)) (.int (k : Int)) = some e.d := by
  have hk : k < es.length := by
    rcases Nat.lt_or_ge k es.length with q | q
    · exact q
    · rw [List.getElem?_eq_none q] at h; cases h
  show atI (esD es) (k : Int) = _
  rw [at_nat (by simpa [esD] using hk)]
  simp [esD, h]
theorem run_mono {j : Int} : ∀ (fs : List Ent) (st : Sts), sGet st j ≠ none → sGet (runE st fs) j ≠ none
  | [], _, h => h
  | e :: fs, st, h => by
    refine run_mono fs (after st e) ?_
    unfold after
    rw [sGet_put]
    split
    · simp
    · exact h
theorem goods_byT {g : Str → Option Int} {h : Int} : ∀ (es : List Ent) (st : Sts) (last : Option Int), goods g st last es = true → goods g st last (byT h es) = true
  | [], _, _, _ => rfl
  | e :: es, st, last, hg => by
    simp only [goods, Bool.and_eq_true] at hg
    unfold byT
    rw [List.filter_cons]
    by_cases ht : e.t ≤ h
    · rw [if_pos (decide_eq_true ht)]
      simp only [goods, Bool.and_eq_true]
      exact ⟨hg.1, goods_byT es _ _ hg.2⟩
    · rw [if_neg (by simpa using ht)]
      have : es.filter (fun e => decide (e.t ≤ h)) = [] := List.filter_eq_nil_iff.mpr fun x hx => by
        have := goods_t hg.2 x hx
        simp
        omega
      rw [this]
      rfl
theorem JOk.byT {l : Lat} {es : List Ent} (h : JOk l es) (t : Int) : JOk l (byT t es) := ⟨h.nm, ⟨Nat.le_trans (List.length_filter_le ..) h.ok.1, fun e he => h.ok.2 e (List.mem_filter.mp he).1⟩, Nat.le_trans (List.length_filter_le ..) h.le, goods_byT es _ _ h.gd⟩
theorem JOk.take {l : Lat} {es : List Ent} (h : JOk l es) (k : Nat) : JOk l (es.take k) := ⟨h.nm, ⟨by have := h.ok.1; simp; omega, fun e he => h.ok.2 e (List.mem_of_mem_take he)⟩, by have := h.le; simp; omega, by
  have := h.gd
  rw [← List.take_append_drop k es, goods_app] at this
  exact (Bool.and_eq_true_iff.mp this).1⟩
theorem good_at {g : Str → Option Int} {es : List Ent} {k : Nat} {e : Ent} (hg : goods g [] none es = true) (h : es[k]? = some e) : good g (runE [] (es.take k)) (lastE none (es.take k)) e = true := by
  have hk : k < es.length := by
    rcases Nat.lt_or_ge k es.length with q | q
    · exact q
    · rw [List.getElem?_eq_none q] at h; cases h
  have e1 : es.drop k = e :: es.drop (k + 1) := by
    rw [List.drop_eq_getElem_cons hk]
    congr 1
    rw [List.getElem?_eq_getElem hk] at h
    exact Option.some.inj h
  rw [← List.take_append_drop k es, goods_app, e1] at hg
  have h2 := (Bool.and_eq_true_iff.mp hg).2
  simp only [goods, Bool.and_eq_true] at h2
  exact h2.1
theorem take_succ_ {es : List Ent} {k : Nat} {e : Ent} (h : es[k]? = some e) : es.take (k + 1) = es.take k ++ [e] := by
  rw [List.take_succ, h]
  rfl
/-- what the loops lean on -/
structure L3Ok (l lb : Lat) (n : Int) (es : List Ent) : Prop where
  L : LatOk l
  gl : lGet lb = lGet l
  J : JOk lb es
  le : es.length ≤ 12
  id : ∀ j, sGet (runE [] es) j ≠ none → 0 ≤ j ∧ j < n + 3 * es.length
section
variable {ns : List Int} {l lb : Lat} {n : Int} {es : List Ent} {o3 o5 o9 o10 o11 o12 o13 o14 o15 o16 o17 o18 : Option A} {p : A}
theorem i_prop {ao : AE} {sp : ASp} (k : ao EA ρ fun o ρ1 => (∃ fs, dat o ρ1 = some (.obj CJ fs)) ∧ callA sp [o] noX ρ1 Q) : aProp CJ sp ao EA ρ Q := k
theorem law_turn (H : L3Ok l lb n es) {k : Nat} {e : Ent} (hk : es[k]? = some e) (hp : isPool p)
    (hN : ∀ p o9 o10 o11 o12 o13 o14 o15 o16 o17 o18, isPool p → DA.nx [some (.v (.lst (ns.map .int))), some p, some (.v (.dic (latK l))), o3, some (.v (.int n)), o5, some (.dic (stsK (runE [] (es.take (k + 1))))), some (.v (.lst (esD es))), some (.v (jD CJ CB lb (es.take (k + 1)))), o9, o10, o11, o12, o13, o14, o15, o16, o17, o18]) :
    bd_law_1 (Gk CB) CJ CB spPool spLates spNames spDraw spAmount spEntries spArr spBad (spLThen CJ CB) spEnd spPut (spLHeard CJ CB) (spBookInit CB) (spThen CJ CB CBE) (spEntriesP CJ CB) (spJInit CJ CB) DA [some (.v (.lst (ns.map .int))), some p, some (.v (.dic (latK l))), o3, some (.v (.int n)), o5, some (.dic (stsK (runE [] (es.take k)))), some (.v (.lst (esD es))), some (.v (jD CJ CB lb (es.take k))), some (.v (.int (k : Int))), o10, o11, o12, o13, o14, o15, o16, o17, o18] := by
  have hkl : k < es.length := by
    rcases Nat.lt_or_ge k es.length with q | q
    · exact q
    · rw [List.getElem?_eq_none q] at hk; cases hk
  have hlen := H.le
  have hJ := H.J.take k
  have htl : (es.take k).length = k := by simp; omega
  have hgood := good_at H.J.gd hk
  have hoe : okE e := H.J.ok.2 e (List.mem_of_getElem? hk)
  have hTH : THOk CB ⟨lb, es.take k, .e e⟩ := ⟨hJ, hoe, by simp only; omega⟩
  have hat := at_es hk
  have hS : StG (lGet lb) (runE [] (es.take k)) (lastE none (es.take k)) := stG_nil.run hJ.gd
  have hrl := run_len (es.take k) []
  simp only [List.length_nil, Nat.zero_add, htl] at hrl
  have hidk : ∀ j, sGet (runE [] (es.take k)) j ≠ none → 0 ≤ j ∧ j < n + 3 * es.length := fun j hj => H.id j (by
    have := run_mono (es.drop k) (runE [] (es.take k)) hj
    rwa [← runE_two, List.take_append_drop] at this)
  have hle : lenD (.lst (esD es)) = some es.length := by simp [lenD, esD]
  have rest : ∀ p o9 o10 o11 o12 o13 o14 o15 o16 o17 o18, isPool p → DA.nx [some (.v (.lst (ns.map .int))), some p, some (.v (.dic (latK l))), o3, some (.v (.int n)), o5, some (.dic (stsK (runE [] (es.take (k + 1))))), some (.v (.lst (esD es))), some (.v (jD CJ CB lb (es.take (k + 1)))), o9, o10, o11, o12, o13, o14, o15, o16, o17, o18] := hN
  unfold bd_law_1
  (repeat' walk_at "vs1")
  refine k_arr ?_
  (repeat' first|((with_reducible apply k_arr))|walk_at "vs2")
  (simp only [List.set_cons_zero, List.set_cons_succ])
  with_reducible refine i_seqM (fun ρ => ∃ (p : A) (o10 o11 o12 o13 o14 o15 o16 o17 o18 : Option A), isPool p ∧ ρ = [some (.v (.lst (ns.map .int))), some p, some (.v (.dic (latK l))), o3, some (.v (.int n)), o5, some (.dic (stsK (runE [] (es.take k)))), some (.v (.lst (esD es))), some (.v (jD CJ CB lb (es.take k))), some (.v (.int (k : Int))), o10, o11, o12, o13, o14, o15, o16, o17, o18]) (fun kk hkk => ?_) ?_
  · rcases Nat.eq_zero_or_pos k with hk0 | hk0
    · have hd : decide ((0 : Int) < (k : Int)) = false := decide_eq_false (by omega)
      (repeat' walk_at "vs1")
      exact hkk _ ⟨p, _, _, _, _, _, _, _, _, _, hp, rfl⟩
    · have hd : decide ((0 : Int) < (k : Int)) = true := decide_eq_true (by omega)
      obtain ⟨e', he'⟩ : ∃ e', es[k - 1]? = some e' := ⟨es[k - 1], List.getElem?_eq_getElem (by omega)⟩
      have hat' : itD (.lst (esD es)) (.int ((k : Int) - 1)) = some e'.d := by
        have := at_es he'
        rwa [show ((k - 1 : Nat) : Int) = (k : Int) - 1 by omega] at this
      have hla : lastE none (es.take k) = some e'.t := by
        have : es.take k = es.take (k - 1) ++ [e'] := by
          have := take_succ_ he'
          rwa [show k - 1 + 1 = k by omega] at this
        rw [this, lastE_app]
      have hok : StOk (lGet l) (runE [] (es.take k)) := by
        have := hS.ok
        rwa [H.gl] at this
      have hfr : sGet (runE [] (es.take k)) (n + 3 * (es.length : Int) + 9) = none := by
        cases q : sGet (runE [] (es.take k)) (n + 3 * (es.length : Int) + 9) with
        | none => rfl
        | some o =>
          have := hidk _ (by rw [q]; simp)
          omega
      refine i_if (i_test ?_)
      (repeat' walk_at "vs1")
      refine k_arr ?_
      (repeat' walk_at "vs1")
      (simp only [List.set_cons_zero, List.set_cons_succ])
      refine k_bad (by decide) rfl rfl ⟨hp, H.L, hok, hS.nd, by simp only; omega, hfr⟩ fun bs p1 hb1 hb2 hbb hp1 => ?_
      (repeat' walk_at "vs1")
      (simp only [List.set_cons_zero, List.set_cons_succ])
      refine k_draw rfl hp1 (by simp [esD]; omega) (by simp [esD]; omega) fun z p2 az bz hp2 => ?_
      obtain ⟨b, hbm, hbi⟩ := at_map (xs := bs) (f := Ent.d) az (by simpa [esD] using bz)
      have hbi' : itD (.lst (esD bs)) (.int z) = some b.d := hbi
      have hbad := hbb b hbm
      have hgf : goodX (lGet lb) (runE [] (es.take k)) (lastE none (es.take k)) (.e b) = false := by
        show good _ _ _ _ = false
        rw [H.gl]
        exact hbad.2 _ hla
      (repeat' walk_at "vs1")
      refine k_lthenX (e := .e b) ⟨hJ, hbad.1, by simp only; omega⟩ hgf ?_
      (repeat' walk_at "vs1")
      refine i_neT (ds := [.str ("refused" : Str), .int (k : Int)]) (by rw [htl]; rfl) datV (gk_two gk_str gk_int) ?_
      (repeat' walk_at "vs1")
      (simp only [List.set_cons_zero, List.set_cons_succ])
      refine k_end rfl ⟨H.L, hok, fun j hj => (hidk j hj).1, by simp only; omega⟩ fun gs hg1 hgg => ?_
      (repeat' walk_at "vs1")
      · (simp only [List.set_cons_zero, List.set_cons_succ])
        refine k_draw rfl hp2 (by simpa using hif) (by simp [esD]; omega) fun z p3 az bz hp3 => ?_
        obtain ⟨b, hbm, hbi⟩ := at_map (xs := gs) (f := Ent.d) az (by simpa [esD] using bz)
        have hbi' : itD (.lst (esD gs)) (.int z) = some b.d := hbi
        have hgo := hgg b hbm
        have hgt : good (lGet lb) (runE [] (es.take k)) (lastE none (es.take k)) b = true := by
          rw [H.gl, hla]
          exact hgo.2
        (repeat' walk_at "vs1")
        refine k_lthen ⟨hJ, hgo.1, by simp only; omega⟩ hgt ?_
        (repeat' walk_at "vs1")
        · rw [cut_take]
          simp [esD]
          omega
        · rw [cut_take]
          refine i_neT (ds := [.str ("told" : Str), .lst (esD (es.take k ++ [b]))]) rfl (by simp [dat, A.toD, esD]) (gk_two gk_str gk_lst) ?_
          (repeat' walk_at "vs1")
          (simp only [List.set_cons_zero, List.set_cons_succ])
          exact hkk _ ⟨p3, _, _, _, _, _, _, _, _, _, hp3, rfl⟩
      · (simp only [List.set_cons_zero, List.set_cons_succ])
        exact hkk _ ⟨p2, _, _, _, _, _, _, _, _, _, hp2, rfl⟩
  · rintro ρ ⟨p, o10, o11, o12, o13, o14, o15, o16, o17, o18, hp, rfl⟩
    (repeat' walk_at "vs1")
    refine k_then hTH hgood ?_
    (repeat' first|((with_reducible apply i_useJ))|walk_at "vs1")
    (simp only [List.set_cons_zero, List.set_cons_succ])
    have pl1 := pl_lst (es.take k)
    have pl2 : PlD 20 (.lst (Vs.cutD (esD es) none (some (k : Int)))) := by rw [cut_take]; exact pl_lst _
    have hd1 : (!deq (.lst (esD (es.take k))) (.lst (Vs.cutD (esD es) none (some (k : Int))))) = false := by rw [cut_take, deq_refl 20 _ (pl_lst _)]; rfl
    have hsl : Vs.cutD (esD es) none (some ((k : Int) + 1)) = esD (es.take k ++ [e]) := by
      have := cut_take es (k + 1)
      rw [take_succ_ hk] at this
      exact_mod_cast this
    have pl3 := pl_lst (es.take k ++ [e])
    have pl4 : PlD 20 (.lst (Vs.cutD (esD es) none (some ((k : Int) + 1)))) := by rw [hsl]; exact pl_lst _
    have hd2 : (!deq (.lst (esD (es.take k ++ [e]))) (.lst (Vs.cutD (esD es) none (some ((k : Int) + 1))))) = false := by rw [hsl, deq_refl 20 _ (pl_lst _)]; rfl
    refine i_propJ ?_
    (repeat' walk_at "vs1")
    refine ⟨⟨_, datV⟩, k_entriesP ?_⟩
    (repeat' walk_at "vs1")
    refine i_propJ ?_
    (repeat' walk_at "vs1")
    refine ⟨⟨_, datV⟩, k_entriesP ?_⟩
    (repeat' walk_at "vs1")
    refine k_put (good_fix hgood) (by omega) rfl ?_
    (repeat' walk_at "vs1")
    (simp only [List.set_cons_zero, List.set_cons_succ])
    rw [take_succ_ hk, runE_app] at rest
    exact rest _ _ _ _ _ _ _ _ _ _ _ hp
end
section
variable {ns : List Int} {l lb : Lat} {n : Int} {es : List Ent} {o1 o3 o5 o6 o9 o10 o11 o12 o13 o14 o15 o16 o17 o18 : Option A} {p : A}
def arrD (es : List Ent) : List D := es.map fun e => .int e.t
theorem i_minV {x : A} {ns : List Int} (h1 : dat x ρ = some (.lst (ns.map D.int))) (h2 : 0 < ns.length) (k : ∀ m, m ∈ ns → Q (.v (.int m)) ρ) : aMinL [x] ρ Q := ⟨x, ns, rfl, h1, h2, fun m hm _ => k m hm⟩
theorem law_hear (J : JOk lb es) (le : es.length ≤ 12) {h : Int} (hN : ∀ o17, DA.nx [some (.v (.lst (ns.map .int))), o1, some (.v (.dic (latK l))), o3, some (.v (.int n)), o5, o6, some (.v (.lst (esD es))), some (.v (jD CJ CB lb es)), o9, o10, o11, o12, none, o14, o15, some (.v (.int h)), o17, o18]) :
    bd_law_2 (Gk CB) CJ CB spPool spLates spNames spDraw spAmount spEntries spArr spBad (spLThen CJ CB) spEnd spPut (spLHeard CJ CB) (spBookInit CB) (spThen CJ CB CBE) (spEntriesP CJ CB) (spJInit CJ CB) DA [some (.v (.lst (ns.map .int))), o1, some (.v (.dic (latK l))), o3, some (.v (.int n)), o5, o6, some (.v (.lst (esD es))), some (.v (jD CJ CB lb es)), o9, o10, o11, o12, o13, o14, o15, some (.v (.int h)), o17, o18] := by
  have hb := J.byT h
  unfold bd_law_2
  refine i_seq (i_forget ?_)
  simp only [clearA]
  (simp only [List.set_cons_zero, List.set_cons_succ])
  (repeat' walk_at "vs1")
  refine ⟨_, rfl, none1 rfl, lc_filt (fun d => match itD d (.int (-1)) with
    | some (.int t) => decide (t ≤ h)
    | _ => false) id trivial (by simp [esD]; omega) (fun x hx R N hR' hN' => ?_) ?_⟩
  · obtain ⟨e, _, rfl⟩ := List.mem_map.mp hx
    have e1 : itD e.d (.int (-1)) = some (.int e.t) := ent_last
    (repeat' walk_at "vs1")
    refine k_arr ?_
    (repeat' walk_at "vs1")
    · exact hR' _ rfl (by simp only [e1]; exact hif)
    · exact hN' _ rfl (by simp only [e1]; simpa using hif)
  · have e2 : ((esD es).filter fun d => match itD d (.int (-1)) with
        | some (.int t) => decide (t ≤ h)
        | _ => false).map id = esD (byT h es) := by
      simp only [List.map_id, byT, esD, List.filter_map, Function.comp_def, ent_last]
    rw [e2]
    (repeat' walk_at "vs1")
    (simp only [List.set_cons_zero, List.set_cons_succ])
    refine k_lheard (by omega) hb ?_
    (repeat' walk_at "vs1")
    refine i_neT (ds := [.str ("told" : Str), .lst (esD (byT h es))]) rfl datV (gk_two gk_str gk_lst) ?_
    (repeat' walk_at "vs1")
    refine k_lheard (by omega) hb ?_
    (repeat' walk_at "vs1")
    refine i_neT (ds := [.str ("told" : Str), .lst (esD (byT h es))]) rfl datV (gk_two gk_str gk_lst) ?_
    (repeat' walk_at "vs1")
    exact hN _
theorem law_tail (H : L3Ok l lb n es) (hne : es ≠ []) (hp : isPool p) (hR : ∀ ρ, ρ[0]? = some (some (.v (.lst (ns.map .int)))) → DA.rt (.v (.bl true)) ρ) :
    rs_law_11 (Gk CB) CJ CB spPool spLates spNames spDraw spAmount spEntries spArr spBad (spLThen CJ CB) spEnd spPut (spLHeard CJ CB) (spBookInit CB) (spThen CJ CB CBE) (spEntriesP CJ CB) (spJInit CJ CB) DA [some (.v (.lst (ns.map .int))), some p, some (.v (.dic (latK l))), o3, some (.v (.int n)), o5, o6, some (.v (.lst (esD es))), some (.v (jD CJ CB lb es)), o9, o10, o11, o12, o13, o14, o15, o16, o17, o18] := by
  have hle := H.le
  have hpos : 0 < es.length := List.length_pos_iff.mpr hne
  unfold rs_law_11
  refine i_seq (i_forget ?_)
  simp only [clearA]
  (simp only [List.set_cons_zero, List.set_cons_succ])
  (repeat' walk_at "vs1")
  refine ⟨_, rfl, none1 rfl, lc_filt (fun _ => true) (fun d => (itD d (.int (-1))).getD .non) trivial (by simp [esD]; omega) (fun x hx R N hR' hN' => ?_) ?_⟩
  · obtain ⟨e, _, rfl⟩ := List.mem_map.mp hx
    have e1 : itD e.d (.int (-1)) = some (.int e.t) := ent_last
    (repeat' walk_at "vs1")
    refine k_arr ?_
    (repeat' walk_at "vs1")
    rw [show D.int e.t = (itD e.d (.int (-1))).getD .non by rw [e1]; rfl]
    exact hR' _ rfl rfl
  rw [filter_yes]
  have e3 : (esD es).map (fun d => (itD d (.int (-1))).getD .non) = arrD es := by
    simp only [esD, arrD, List.map_map, Function.comp_def, ent_last, Option.getD_some]
  rw [e3]
  (repeat' walk_at "vs1")
  (simp only [List.set_cons_zero, List.set_cons_succ])
  unfold rs_law_12
  (repeat' walk_at "vs1")
  refine k_draw rfl hp (by simp [arrD]; omega) (by simp [arrD]; omega) fun z1 p1 a1 b1 hp1 => ?_
  obtain ⟨e1, _, he1⟩ := at_map (xs := es) (f := fun e => D.int e.t) a1 (by simpa [arrD] using b1)
  have he1' : itD (.lst (arrD es)) (.int z1) = some (.int e1.t) := he1
  (repeat' walk_at "vs1")
  refine k_draw rfl hp1 (by decide) (by decide) fun z2 p2 a2 b2 hp2 => ?_
  (repeat' walk_at "vs1")
  refine i_minV (ns := es.map Ent.t) (by simp [arrD, dat, A.toD]) (by simpa using hpos) fun mn _ => ?_
  (repeat' walk_at "vs1")
  refine i_maxV (ns := es.map Ent.t) (by simp [arrD, dat, A.toD]) (by simpa using hpos) fun mx _ => ?_
  (repeat' walk_at "vs1")
  (simp only [List.set_cons_zero, List.set_cons_succ])
  refine ⟨_, rfl, ?_⟩
  refine for_rec (fun xs ρ => ∃ (hs : List Int) (o13 o16 o17 : Option A), xs = hs.map D.int ∧ ρ = [some (.v (.lst (ns.map .int))), some p2, some (.v (.dic (latK l))), o3, some (.v (.int n)), o5, o6, some (.v (.lst (esD es))), some (.v (jD CJ CB lb es)), o9, o10, o11, o12, o13, o14, some (.v (.lst (arrD es))), o16, o17, o18]) ?_ ?_ _ _ ⟨[e1.t - z2, mn - 1, mx], _, _, _, rfl, rfl⟩
  · rintro ρ ⟨hs, o13, o16, o17, _, rfl⟩
    refine ⟨trivial, ?_⟩
    show rs_law_13 (Gk CB) CJ CB spPool spLates spNames spDraw spAmount spEntries spArr spBad (spLThen CJ CB) spEnd spPut (spLHeard CJ CB) (spBookInit CB) (spThen CJ CB CBE) (spEntriesP CJ CB) (spJInit CJ CB) DA _
    unfold rs_law_13
    (repeat' walk_at "vs1")
    refine k_mkB H.L fun lc hpm _ => ?_
    (repeat' first|((with_reducible apply i_useB))|walk_at "vs1")
    refine k_draw rfl hp2 (by decide) (by decide) fun z3 p3 a3 b3 hp3 => ?_
    obtain ⟨d, hd, hi⟩ := at_map (xs := [D.non, .bl true, .bl false, .str ("" : Str), .str ("0" : Str), .tup [], .tup [.int 1], .lst [.int 1], .dic [], bookD CB lc]) (f := fun d => d) (z := z3) a3 (by simpa using b3)
    rw [List.map_id'] at hi
    have hndc : (lc.map (·.1)).Nodup := (hpm.map _).nodup_iff.mpr H.L.nd
    have hodd : okI CB d ∧ isIntD d = false ∧ OddO CB d ∧ Gk CB d := by
      simp only [List.mem_cons, List.not_mem_nil, or_false] at hd
      rcases hd with rfl | rfl | rfl | rfl | rfl | rfl | rfl | rfl | rfl | rfl
      · exact ⟨.inl rfl, rfl, trivial, .inl (by simp [PlD])⟩
      · exact ⟨.inl rfl, rfl, trivial, .inl (by simp [PlD])⟩
      · exact ⟨.inl rfl, rfl, trivial, .inl (by simp [PlD])⟩
      · exact ⟨.inl rfl, rfl, trivial, .inl (by simp [PlD])⟩
      · exact ⟨.inl rfl, rfl, trivial, .inl (by simp [PlD])⟩
      · exact ⟨.inl rfl, rfl, by simp [OddO], .inl (by simp [PlD])⟩
      · exact ⟨.inl rfl, rfl, by simp [OddO], .inl (by simp [PlD])⟩
      · exact ⟨.inl rfl, rfl, trivial, .inl (by simp [PlD])⟩
      · exact ⟨.inl rfl, rfl, trivial, .inr (.inl rfl)⟩
      · exact ⟨.inr ⟨_, rfl⟩, rfl, rfl, .inr (.inr ⟨lc, rfl, hndc⟩)⟩
    obtain ⟨q1, q2, q3, q4⟩ := hodd
    refine i_ix datL datV hi ?_
    (repeat' walk_at "vs1")
    (simp only [List.set_cons_zero, List.set_cons_succ])
    unfold rs_law_14
    (repeat' walk_at "vs1")
    refine k_lheardX (by omega) q2 q1 ?_
    (repeat' walk_at "vs1")
    refine i_neT (ds := [.str ("refused" : Str), d]) rfl datV (gk_two gk_str q4) ?_
    (repeat' walk_at "vs1")
    refine k_lthenX (e := .o d) ⟨H.J, q3, by simp only; omega⟩ rfl ?_
    (repeat' walk_at "vs1")
    refine i_neT (ds := [.str ("refused" : Str), .int (es.length : Int)]) rfl (by simp [dat, A.toD, esD]) (gk_two gk_str gk_int) ?_
    (repeat' walk_at "vs1")
    unfold rs_law_15
    (repeat' walk_at "vs1")
    refine i_propJ ?_
    (repeat' walk_at "vs1")
    refine ⟨⟨_, datV⟩, k_entriesP ?_⟩
    have pl5 := pl_lst es
    (repeat' walk_at "vs1")
    rw [deq_refl 20 _ (pl_lst _)]
    exact hR _ rfl
  · rintro x xs ρ ⟨hs, o13, o16, o17, e, rfl⟩ ih
    cases hs with
    | nil => cases e
    | cons h hs =>
      simp only [List.map_cons, List.cons.injEq] at e
      obtain ⟨rfl, rfl⟩ := e
      refine ⟨trivial, i_agName ?_⟩
      (simp only [List.set_cons_zero, List.set_cons_succ])
      exact law_hear H.J hle fun o17 => ih _ ⟨hs, _, _, _, rfl, rfl⟩
end
theorem rd_law : ∀ xs, spLaw.pre xs → as_law (Gk CB) CJ CB spPool spLates spNames spDraw spAmount spEntries spArr spBad (spLThen CJ CB) spEnd spPut (spLHeard CJ CB) (spBookInit CB) (spThen CJ CB CBE) (spEntriesP CJ CB) (spJInit CJ CB) (endsOf [0] spLaw xs) (startA 19 xs) := rd_I (fun i j _ _ h => by
    simp only [lwArgs, List.cons.injEq, A.v.injEq, D.lst.injEq, and_true] at h
    exact ints_inj h) fun ns hns DA hR hN hX => by
  have hns' : ns.length ≤ 63 := hns
  show as_law _ CJ CB _ _ _ _ _ _ _ _ _ _ _ _ _ _ _ _ _ [some (.v (.lst (ns.map .int))), none, none, none, none, none, none, none, none, none, none, none, none, none, none, none, none, none, none]
  unfold as_law
  have hln : lenD (.lst (ns.map D.int)) = some ns.length := by simp [lenD]
  (repeat' walk_at "vs1")
  refine k_pool fun p0 hp0 => i_setP hp0 ?_
  (simp only [List.set_cons_zero, List.set_cons_succ])
  unfold rs_law_2
  (repeat' walk_at "vs1")
  refine k_lates rfl hp0 fun l p1 hl hp1 => ?_
  (repeat' walk_at "vs1")
  (simp only [List.set_cons_zero, List.set_cons_succ])
  unfold rs_law_3
  (repeat' walk_at "vs1")
  refine k_draw rfl hp1 (by decide) (by decide) fun z1 p2 a1 b1 hp2 => ?_
  (repeat' walk_at "vs1")
  refine k_names rfl hp2 (by omega) (by omega) fun ks p3 hkl hkn hp3 => ?_
  have hks : KsOk ks := ⟨by omega, by omega, hkn⟩
  (repeat' walk_at "vs1")
  (simp only [List.set_cons_zero, List.set_cons_succ])
  unfold rs_law_4
  (repeat' walk_at "vs1")
  refine k_draw rfl hp3 (by decide) (by decide) fun n p4 an bn hp4 => ?_
  (repeat' walk_at "vs1")
  (simp only [List.set_cons_zero, List.set_cons_succ])
  unfold rs_law_5
  (repeat' walk_at "vs1")
  refine k_amount rfl hp4 fun t0 p5 hp5 => ?_
  (repeat' walk_at "vs1")
  (simp only [List.set_cons_zero, List.set_cons_succ])
  unfold rs_law_6
  (repeat' walk_at "vs1")
  (simp only [List.set_cons_zero, List.set_cons_succ])
  unfold rs_law_7
  (repeat' walk_at "vs1")
  refine k_draw rfl hp5 (by decide) (by decide) fun z2 p6 a2 b2 hp6 => ?_
  (repeat' walk_at "vs1")
  obtain ⟨m1, hm1, lo1, hi1⟩ := few_nat (n := (ns.length : Int)) a2
  refine k_entries (m := m1) (st := []) hm1 (by decide) rfl rfl ⟨hp6, hl, hks, List.nodup_nil, stOk_nil, (fun j hj => absurd rfl hj), by simp; omega, an⟩ fun es p7 he hp7 => ?_
  have heg := he.g
  have hel := he.len
  have heo := he.o
  have hei := he.id
  simp only at heg hel heo hei
  have g0 : goods (lGet l) [] none es = true := goods_weak heg (fun x hx => nomatch hx)
  have hne : es ≠ [] := fun z => by rw [z] at hel; simp at hel; omega
  (repeat' walk_at "vs1")
  (simp only [List.set_cons_zero, List.set_cons_succ])
  unfold rs_law_8
  (repeat' walk_at "vs1")
  refine i_make ?_
  (repeat' walk_at "vs1")
  refine k_mkB hl fun lb hpm hsrt => ?_
  have hgl : lGet lb = lGet l := (lGet_perm hl.nd hpm.symm).symm
  have hnmB : okNm lb := fun p hp => hl.nm p (hpm.subset hp)
  have hJ : JOk lb es := ⟨hnmB, ⟨by omega, heo⟩, by omega, by rw [hgl]; exact g0⟩
  have hJ0 : JOk lb [] := ⟨hnmB, ⟨by simp, (fun _ h => nomatch h)⟩, by simp, rfl⟩
  have H3 : L3Ok l lb n es := ⟨hl, hgl, hJ, by omega, fun j hj => by have := hei j hj; omega⟩
  (repeat' first|((with_reducible apply i_useB))|walk_at "vs1")
  refine k_mkJ (es := []) (b := false) rfl hJ0 ?_
  (repeat' first|((with_reducible apply i_useJ))|walk_at "vs1")
  (simp only [List.set_cons_zero, List.set_cons_succ])
  unfold rs_law_9
  (repeat' walk_at "vs1")
  (simp only [List.set_cons_zero, List.set_cons_succ])
  unfold rs_law_10
  have hlee : lenD (.lst (esD es)) = some es.length := by simp [lenD, esD]
  (repeat' walk_at "vs1")
  refine i_rng1 ?_
  (repeat' walk_at "vs1")
  refine ⟨_, (es.length : Int), rfl, rfl, by omega, by omega, ?_⟩
  rw [Int.toNat_natCast]
  refine for_rec (fun xs ρ => ∃ (k r : Nat) (p : A) (o9 o10 o11 o12 o13 o14 o15 o16 o17 o18 : Option A), isPool p ∧ xs = intsD k r ∧ k + r = es.length ∧ ρ = [some (.v (.lst (ns.map .int))), some p, some (.v (.dic (latK l))), some (.v (.lst (strsD ks))), some (.v (.int n)), some (.v (.int t0)), some (.dic (stsK (runE [] (es.take k)))), some (.v (.lst (esD es))), some (.v (jD CJ CB lb (es.take k))), o9, o10, o11, o12, o13, o14, o15, o16, o17, o18]) ?_ ?_ _ _ ⟨0, es.length, p7, _, _, _, _, _, _, _, _, _, _, hp7, rfl, by omega, rfl⟩
  · rintro ρ ⟨k, r, p, o9, o10, o11, o12, o13, o14, o15, o16, o17, o18, hp, e, hkr, rfl⟩
    have hr0 : r = 0 := by
      have := congrArg List.length e
      simp [intsD] at this
      omega
    have hk : es.take k = es := List.take_of_length_le (by omega)
    rw [hk]
    exact ⟨trivial, law_tail H3 hne hp fun ρ hρ => hR _ _ (fin0 hρ) rfl⟩
  · rintro x xs ρ ⟨k, r, p, o9, o10, o11, o12, o13, o14, o15, o16, o17, o18, hp, e, hkr, rfl⟩ ih
    cases r with
    | zero => simp [intsD] at e
    | succ r =>
      rw [intsD_cons] at e
      simp only [List.cons.injEq] at e
      obtain ⟨rfl, rfl⟩ := e
      obtain ⟨e, he⟩ : ∃ e, es[k]? = some e := ⟨es[k], List.getElem?_eq_getElem (by omega)⟩
      refine ⟨trivial, i_agName ?_⟩
      (simp only [List.set_cons_zero, List.set_cons_succ])
      exact law_turn H3 he hp fun p o9 o10 o11 o12 o13 o14 o15 o16 o17 o18 hp => ih _ ⟨k + 1, r, p, _, _, _, _, _, _, _, _, _, _, hp, by push_cast; rfl, by omega, rfl⟩
end
end Law

set_option Elab.async false
set_option linter.all false
set_option maxRecDepth 100000
set_option maxHeartbeats 0
namespace Law
open PySem PySem.Spec PyProof.Rows L2 Vs
theorem exAt {K : PySem.W.Frag} (h : exK K = true) (i : Nat) {f : PySem.W.Frag → Bool} (hf : exL[i]? = some f := by rfl) : f K = true := List.all_eq_true.mp h f (List.mem_of_getElem? hf)
theorem bnd_none {K : PySem.W.Frag} {fd : FuncData} {ps : List Str} {dvs : List V} (h : ∃ ds, Vals dvs ds ∧ Binds K fd ps ds) (e : dvs = []) : Binds K fd ps [] := by
  obtain ⟨ds, h1, h2⟩ := h
  subst e
  cases h1
  exact h2
theorem repL_ints {K : Fg} {H : Hp} : ∀ ns : List Int, RepL K H (ns.map D.int) (ns.map V.int)
  | [] => by simp only [List.map_nil, RepL]
  | n :: ns => by
    simp only [List.map_cons, RepL, Rep]
    exact ⟨_, _, rfl, rfl, repL_ints ns⟩
theorem lift_law {K : Fg} {H : Hp} {a : Addr} {ns : List Int} (hS : SqL K H a (ns.map V.int)) (hn : ns.length ≤ 63) : lift K spLaw [.ref a] H (fun v _ => v = .bl true) fun _ _ _ => False := by
  have hr : Rep K H (.lst (ns.map D.int)) (.ref a) := by
    simp only [Rep]
    exact ⟨a, _, rfl, hS, repL_ints ns⟩
  refine ⟨⟨fun _ => none, H, []⟩, H, [.v (.lst (ns.map D.int))], rfl, rfl, ?_, fun _ _ e => e, fun _ _ e => e, ⟨ns, hn, rfl⟩, fun r xs' v H' S' hp _ _ st => ?_, fun C fs xs' dd H' S' he => ?_⟩
  · refine ⟨⟨[], ?_, List.nodup_nil, (fun _ h => nomatch h)⟩, ?_, (fun _ _ h => nomatch h), Le.of_same (fun _ _ e => e), (fun _ _ e => nomatch e), (fun _ h => absurd rfl h), (fun _ _ e => e), (fun _ h => nomatch h)⟩
    · simp [envP, tmpP, RepP, RepA, hr]
    · exact envOk_some (vs := [.ref a]) (xs := [.v (.lst (ns.map D.int))]) rfl fun x hx => by
        have : x = .v (.lst (ns.map D.int)) := by simpa using hx
        subst this
        rfl
  · have e := (hp ns hn rfl).1
    cases e
    obtain ⟨g, hg⟩ := st.held2 (List.mem_cons_self ..) (y := .v (.bl true)) rfl
    simp only [RepA, Rep] at hg
    exact hg.1
  · have e := (he.2 ns hn rfl).1
    cases e

theorem facts {P : Program} {w : World} {K : PySem.W.Frag} {h : Heap} {mg : Str → Option Value} {f : Addr} (X : K.In h) (G : h.Ns mainGlobals mg) (hfa : mg ("law" : Str) = some (.ref f)) (cx : He.SaysX faL fnL [] [] exK w h K) (cg : SaysG gtL K) :
    ∃ fd : FuncData, (∀ (s : Shared) (v : Value), BindsTo s fd ⟨[v], []⟩ [("_law_script", v)]) ∧ ∀ base : Heap, K.In base → base.Ns mainGlobals mg → Fok P w K mg base 10 f fd ["_law_script"] spLaw := by
  have c := cx.t.d
  have e := hfa.symm.trans (He.glo_ok X G (c.facts (f := .glo "law") (by simp [faL])))
  cases e
  obtain ⟨fd_law, F_law⟩ := c.defs (d := d_law) (by simp [fnL])
  have b := FunD.bindsA (ps := ["_law_script"]) F_law fun _ _ _ _ _ _ us hl => match us, hl with | [_], _ => rfl
  refine ⟨fd_law, fun s v => b s [v] rfl, fun base _ _ => ?_⟩
  have g_isinstance := He.free_ok X G (c.facts (f := .free "isinstance") (by simp [faL]))
  have g_int := He.free_ok X G (c.facts (f := .free "int") (by simp [faL]))
  have g_bool := He.free_ok X G (c.facts (f := .free "bool") (by simp [faL]))
  have g_list := He.free_ok X G (c.facts (f := .free "list") (by simp [faL]))
  have g_tuple := He.free_ok X G (c.facts (f := .free "tuple") (by simp [faL]))
  have g_str := He.free_ok X G (c.facts (f := .free "str") (by simp [faL]))
  have g_len := He.free_ok X G (c.facts (f := .free "len") (by simp [faL]))
  have g_all := He.free_ok X G (c.facts (f := .free "all") (by simp [faL]))
  have g_dict := He.free_ok X G (c.facts (f := .free "dict") (by simp [faL]))
  have g_sorted := He.free_ok X G (c.facts (f := .free "sorted") (by simp [faL]))
  have g_enumerate := He.free_ok X G (c.facts (f := .free "enumerate") (by simp [faL]))
  have g_range := He.free_ok X G (c.facts (f := .free "range") (by simp [faL]))
  have g_min := He.free_ok X G (c.facts (f := .free "min") (by simp [faL]))
  have g_max := He.free_ok X G (c.facts (f := .free "max") (by simp [faL]))
  have k_LONGEST_NAME := He.int_ok X G (c.facts (f := .int "LONGEST_NAME" 8) (by simp [faL]))
  have k_LETTERS := He.str_ok X G (c.facts (f := .str "LETTERS" "abcdefghijklmnopqrstuvwxyz") (by simp [faL]))
  have k_MOST_STREAMS := He.int_ok X G (c.facts (f := .int "MOST_STREAMS" 8) (by simp [faL]))
  have k_MOST_LATE := He.int_ok X G (c.facts (f := .int "MOST_LATE" 1000000) (by simp [faL]))
  have k_GONE_SIZE := He.int_ok X G (c.facts (f := .int "GONE_SIZE" 3) (by simp [faL]))
  have k_ROW_SIZE := He.int_ok X G (c.facts (f := .int "ROW_SIZE" 7) (by simp [faL]))
  have k_FIX_SIZE := He.int_ok X G (c.facts (f := .int "FIX_SIZE" 5) (by simp [faL]))
  have k_MOST_ENTRIES := He.int_ok X G (c.facts (f := .int "MOST_ENTRIES" 400) (by simp [faL]))
  have cl_Book := He.cls_ok (c.facts (f := .cls "Book") (by simp [faL]))
  have cl_Journal := He.cls_ok (c.facts (f := .cls "Journal") (by simp [faL]))
  have na_Book__lates := He.noat_ok (c.facts (f := .noat "Book" "_lates") (by simp [faL]))
  have na_Journal__book := He.noat_ok (c.facts (f := .noat "Journal" "_book") (by simp [faL]))
  have na_Journal__entries := He.noat_ok (c.facts (f := .noat "Journal" "_entries") (by simp [faL]))
  have gc_BadEntry := He.glo_ok X G (c.facts (f := .glo "BadEntry") (by simp [faL]))
  have gc_BadMoment := He.glo_ok X G (c.facts (f := .glo "BadMoment") (by simp [faL]))
  have gc_Book := He.glo_ok X G (c.facts (f := .glo "Book") (by simp [faL]))
  have ox_BadName := oexB_ok (exAt cx.more 0)
  obtain ⟨xi1_BadName, xi2_BadName, nx_BadName, xf_BadName⟩ := oexI_ok (exAt cx.more 1)
  have ox_BadBook := oexB_ok (exAt cx.more 2)
  obtain ⟨xi1_BadBook, xi2_BadBook, nx_BadBook, xf_BadBook⟩ := oexI_ok (exAt cx.more 3)
  have ox_BadEntry := oexB_ok (exAt cx.more 4)
  obtain ⟨xi1_BadEntry, xi2_BadEntry, nx_BadEntry, xf_BadEntry⟩ := oexI_ok (exAt cx.more 5)
  have ox_BadMoment := oexB_ok (exAt cx.more 6)
  obtain ⟨xi1_BadMoment, xi2_BadMoment, nx_BadMoment, xf_BadMoment⟩ := oexI_ok (exAt cx.more 7)
  have ci_Book := clsIB_ok cl_Book (exAt cx.more 8)
  obtain ⟨ne1_Book, ne2_Book⟩ := neB_ok (exAt cx.more 9)
  have kk_Book := kitB2_ok (exAt cx.more 24)
  have kt_Book_bool := kitB2_ok (exAt cx.more 13)
  have kt_Book_int := kitB2_ok (exAt cx.more 15)
  have kt_Book_str := kitB2_ok (exAt cx.more 17)
  have kt_Book_list := kitB2_ok (exAt cx.more 19)
  have kt_Book_tuple := kitB2_ok (exAt cx.more 21)
  have kt_Book_dict := kitB2_ok (exAt cx.more 23)
  have ci_Journal := clsIB_ok cl_Journal (exAt cx.more 26)
  obtain ⟨ne1_Journal, ne2_Journal⟩ := neB_ok (exAt cx.more 27)
  have kk_Journal := kitB2_ok (exAt cx.more 44)
  have kt_Journal_bool := kitB2_ok (exAt cx.more 32)
  have kt_Journal_int := kitB2_ok (exAt cx.more 34)
  have kt_Journal_str := kitB2_ok (exAt cx.more 36)
  have kt_Journal_list := kitB2_ok (exAt cx.more 38)
  have kt_Journal_tuple := kitB2_ok (exAt cx.more 40)
  have kt_Journal_dict := kitB2_ok (exAt cx.more 42)
  have xm_BadEntry := He.exm_ok (c.facts (f := .exm "BadEntry" "BadEntry" true) (by simp [faL]))
  have xm_BadMoment := He.exm_ok (c.facts (f := .exm "BadMoment" "BadMoment" true) (by simp [faL]))
  obtain ⟨fd_BadMoment, F_BadMoment⟩ := c.defs (d := d_BadMoment___init__) (by simp [fnL])
  have ra_BadMoment : Rai P w K mg base ("BadMoment" : Str) (He.ga K "BadMoment") ("value" : Str) 1 := ⟨ox_BadMoment, He.glo_ok X G (c.facts (f := .glo "BadMoment") (by simp [faL])), _, fd_BadMoment, ["self", "value"], xi1_BadMoment, xi2_BadMoment, FunD.bindsN F_BadMoment fun _ _ _ _ _ _ us hl => (match us, hl with | [_, _], _ => rfl), oex_fn F_BadMoment ⟨rfl, rfl, rfl, by decide +kernel, rfl, by decide +kernel, by decide +kernel⟩ ox_BadMoment nx_BadMoment fun _ _ _ _ _ _ => pss_one (ps_ost (pv 0) (pv 1))⟩
  obtain ⟨fd_BadBook, F_BadBook⟩ := c.defs (d := d_BadBook___init__) (by simp [fnL])
  have ra_BadBook : Rai P w K mg base ("BadBook" : Str) (He.ga K "BadBook") ("value" : Str) 1 := ⟨ox_BadBook, He.glo_ok X G (c.facts (f := .glo "BadBook") (by simp [faL])), _, fd_BadBook, ["self", "value"], xi1_BadBook, xi2_BadBook, FunD.bindsN F_BadBook fun _ _ _ _ _ _ us hl => (match us, hl with | [_, _], _ => rfl), oex_fn F_BadBook ⟨rfl, rfl, rfl, by decide +kernel, rfl, by decide +kernel, by decide +kernel⟩ ox_BadBook nx_BadBook fun _ _ _ _ _ _ => pss_one (ps_ost (pv 0) (pv 1))⟩
  obtain ⟨fd_BadName, F_BadName⟩ := c.defs (d := d_BadName___init__) (by simp [fnL])
  have ra_BadName : Rai P w K mg base ("BadName" : Str) (He.ga K "BadName") ("value" : Str) 1 := ⟨ox_BadName, He.glo_ok X G (c.facts (f := .glo "BadName") (by simp [faL])), _, fd_BadName, ["self", "value"], xi1_BadName, xi2_BadName, FunD.bindsN F_BadName fun _ _ _ _ _ _ us hl => (match us, hl with | [_, _], _ => rfl), oex_fn F_BadName ⟨rfl, rfl, rfl, by decide +kernel, rfl, by decide +kernel, by decide +kernel⟩ ox_BadName nx_BadName fun _ _ _ _ _ _ => pss_one (ps_ost (pv 0) (pv 1))⟩
  obtain ⟨fd_BadEntry, F_BadEntry⟩ := c.defs (d := d_BadEntry___init__) (by simp [fnL])
  have ra_BadEntry : Rai P w K mg base ("BadEntry" : Str) (He.ga K "BadEntry") ("at" : Str) 1 := ⟨ox_BadEntry, He.glo_ok X G (c.facts (f := .glo "BadEntry") (by simp [faL])), _, fd_BadEntry, ["self", "at"], xi1_BadEntry, xi2_BadEntry, FunD.bindsN F_BadEntry fun _ _ _ _ _ _ us hl => (match us, hl with | [_, _], _ => rfl), oex_fn F_BadEntry ⟨rfl, rfl, rfl, by decide +kernel, rfl, by decide +kernel, by decide +kernel⟩ ox_BadEntry nx_BadEntry fun _ _ _ _ _ _ => pss_one (ps_ost (pv 0) (pv 1))⟩
  obtain ⟨fd_is_integer, F_is_integer⟩ := c.defs (d := d_is_integer) (by simp [fnL])
  have ok_is_integer : Fok P w K mg base 1 _ fd_is_integer ["value"] (spIsInt (He.ga K "Book")) := wk_is_integer (sp := spIsInt (He.ga K "Book")) g_isinstance g_int g_bool F_is_integer (len_R fun _ => rfl) (rd_is_integer ci_Book kt_Book_int)
  have b_is_integer : Binds K fd_is_integer ["value"] [] := FunD.bindsN F_is_integer fun _ _ _ _ _ _ us hl => (match us, hl with | [_], _ => rfl)
  have c_is_integer : Cal P w K mg base ("is_integer" : Str) 1 ["value"] (spIsInt (He.ga K "Book")) := ⟨_, fd_is_integer, He.glo_ok X G (c.facts (f := .glo "is_integer") (by simp [faL])), F_is_integer.kp, b_is_integer, ok_is_integer⟩
  obtain ⟨fd_is_row, F_is_row⟩ := c.defs (d := d_is_row) (by simp [fnL])
  have ok_is_row : Fok P w K mg base 1 _ fd_is_row ["value"] (spIsRow) := wk_is_row (sp := spIsRow) g_isinstance g_list g_tuple F_is_row (len_R fun _ => rfl) (rd_is_row)
  have b_is_row : Binds K fd_is_row ["value"] [] := FunD.bindsN F_is_row fun _ _ _ _ _ _ us hl => (match us, hl with | [_], _ => rfl)
  have c_is_row : Cal P w K mg base ("is_row" : Str) 1 ["value"] (spIsRow) := ⟨_, fd_is_row, He.glo_ok X G (c.facts (f := .glo "is_row") (by simp [faL])), F_is_row.kp, b_is_row, ok_is_row⟩
  obtain ⟨fd_is_name, F_is_name⟩ := c.defs (d := d_is_name) (by simp [fnL])
  have ok_is_name : Fok P w K mg base 1 _ fd_is_name ["text"] (spIsName) := wk_is_name (sp := spIsName) g_isinstance g_str g_len g_all k_LONGEST_NAME k_LETTERS F_is_name (len_R fun _ => rfl) (rd_is_name)
  have b_is_name : Binds K fd_is_name ["text"] [] := FunD.bindsN F_is_name fun _ _ _ _ _ _ us hl => (match us, hl with | [_], _ => rfl)
  have c_is_name : Cal P w K mg base ("is_name" : Str) 1 ["text"] (spIsName) := ⟨_, fd_is_name, He.glo_ok X G (c.facts (f := .glo "is_name") (by simp [faL])), F_is_name.kp, b_is_name, ok_is_name⟩
  obtain ⟨fd_check_moment, F_check_moment⟩ := c.defs (d := d_check_moment) (by simp [fnL])
  have ok_check_moment : Fok P w K mg base 3 _ fd_check_moment ["value"] (spCheckMoment (He.ga K "Book") (He.ga K "BadMoment")) := wk_check_moment (sp := spCheckMoment (He.ga K "Book") (He.ga K "BadMoment")) c_is_integer ra_BadMoment F_check_moment (len_R fun _ => rfl) (rd_check_moment)
  have b_check_moment : Binds K fd_check_moment ["value"] [] := FunD.bindsN F_check_moment fun _ _ _ _ _ _ us hl => (match us, hl with | [_], _ => rfl)
  have c_check_moment : Cal P w K mg base ("check_moment" : Str) 3 ["value"] (spCheckMoment (He.ga K "Book") (He.ga K "BadMoment")) := ⟨_, fd_check_moment, He.glo_ok X G (c.facts (f := .glo "check_moment") (by simp [faL])), F_check_moment.kp, b_check_moment, ok_check_moment⟩
  obtain ⟨fd_are_lates, F_are_lates⟩ := c.defs (d := d_are_lates) (by simp [fnL])
  have ok_are_lates : Fok P w K mg base 2 _ fd_are_lates ["value"] (spAreLates) := wk_are_lates (sp := spAreLates) c_is_name c_is_integer g_isinstance g_dict g_len k_MOST_STREAMS k_MOST_LATE F_are_lates (len_R fun _ => rfl) (rd_are_lates)
  have b_are_lates : Binds K fd_are_lates ["value"] [] := FunD.bindsN F_are_lates fun _ _ _ _ _ _ us hl => (match us, hl with | [_], _ => rfl)
  have c_are_lates : Cal P w K mg base ("are_lates" : Str) 2 ["value"] (spAreLates) := ⟨_, fd_are_lates, He.glo_ok X G (c.facts (f := .glo "are_lates") (by simp [faL])), F_are_lates.kp, b_are_lates, ok_are_lates⟩
  obtain ⟨fd_Book___init__, F_Book___init__⟩ := c.defs (d := d_Book___init__) (by simp [fnL])
  have ok_Book___init__ : Fok P w K mg base 3 _ fd_Book___init__ ["self", "lates"] (spBookInit (He.ga K "Book")) := wk_Book___init__ (sp := spBookInit (He.ga K "Book")) c_are_lates cl_Book na_Book__lates ra_BadBook g_sorted F_Book___init__ (len_R fun _ => rfl) (rd_Book_init)
  have b_Book___init__ : Binds K fd_Book___init__ ["self", "lates"] [] := FunD.bindsN F_Book___init__ fun _ _ _ _ _ _ us hl => (match us, hl with | [_, _], _ => rfl)
  have mk_Book : CalK P w K mg base ("Book" : Str) (He.ga K "Book") 3 ["self", "lates"] (spBookInit (He.ga K "Book")) := ⟨_, fd_Book___init__, He.mkr_ok (c.facts (f := .mkr "Book") (by simp [faL])), He.glo_ok X G (c.facts (f := .glo "Book") (by simp [faL])), b_Book___init__, ok_Book___init__⟩
  obtain ⟨fd_Book___eq__, F_Book___eq__⟩ := c.defs (d := d_Book___eq__) (by simp [fnL])
  have ok_Book___eq__ : Fok P w K mg base 1 _ fd_Book___eq__ ["self", "other"] (spBookEq (He.ga K "Book")) := wk_Book___eq__ (sp := spBookEq (He.ga K "Book")) cl_Book na_Book__lates gc_Book g_isinstance F_Book___eq__ (len_R fun _ => rfl) (rd_Book_eq ci_Book kk_Book)
  have b_Book___eq__ : Binds K fd_Book___eq__ ["self", "other"] [] := FunD.bindsN F_Book___eq__ fun _ _ _ _ _ _ us hl => (match us, hl with | [_, _], _ => rfl)
  have sc_Book := spcB_ok (exAt cx.more 10)
  have eq_Book : EqC P w K mg base (He.ga K "Book") 1 (spBookEq (He.ga K "Book")) := ⟨ne1_Book, ne2_Book, _, fd_Book___eq__, ["self", "other"], sc_Book.1, sc_Book.2, b_Book___eq__, ok_Book___eq__⟩
  obtain ⟨fd_Book_has, F_Book_has⟩ := c.defs (d := d_Book_has) (by simp [fnL])
  have ok_Book_has : Fok P w K mg base 2 _ fd_Book_has ["self", "value"] (spHas (He.ga K "Book")) := wk_Book_has (sp := spHas (He.ga K "Book")) c_is_name cl_Book na_Book__lates F_Book_has (len_R fun _ => rfl) (rd_Book_has)
  have b_Book_has : Binds K fd_Book_has ["self", "value"] [] := FunD.bindsN F_Book_has fun _ _ _ _ _ _ us hl => (match us, hl with | [_, _], _ => rfl)
  have m_Book_has : CalM P w K mg base (He.ga K "Book") ("has" : Str) 2 ["self", "value"] (spHas (He.ga K "Book")) := ⟨_, fd_Book_has, He.meth_ok (c.facts (f := .meth "Book" "has") (by simp [faL])), b_Book_has, ok_Book_has⟩
  obtain ⟨fd_Book_late, F_Book_late⟩ := c.defs (d := d_Book_late) (by simp [fnL])
  have ok_Book_late : Fok P w K mg base 3 _ fd_Book_late ["self", "stream"] (spLate (He.ga K "Book")) := wk_Book_late (sp := spLate (He.ga K "Book")) m_Book_has cl_Book na_Book__lates ra_BadName F_Book_late (len_R fun _ => rfl) (rd_Book_late)
  have b_Book_late : Binds K fd_Book_late ["self", "stream"] [] := FunD.bindsN F_Book_late fun _ _ _ _ _ _ us hl => (match us, hl with | [_, _], _ => rfl)
  have m_Book_late : CalM P w K mg base (He.ga K "Book") ("late" : Str) 3 ["self", "stream"] (spLate (He.ga K "Book")) := ⟨_, fd_Book_late, He.meth_ok (c.facts (f := .meth "Book" "late") (by simp [faL])), b_Book_late, ok_Book_late⟩
  obtain ⟨fd_is_id, F_is_id⟩ := c.defs (d := d_is_id) (by simp [fnL])
  have ok_is_id : Fok P w K mg base 2 _ fd_is_id ["value"] (spIsId) := wk_is_id (sp := spIsId) c_is_integer F_is_id (len_R fun _ => rfl) (rd_is_id)
  have b_is_id : Binds K fd_is_id ["value"] [] := FunD.bindsN F_is_id fun _ _ _ _ _ _ us hl => (match us, hl with | [_], _ => rfl)
  have c_is_id : Cal P w K mg base ("is_id" : Str) 2 ["value"] (spIsId) := ⟨_, fd_is_id, He.glo_ok X G (c.facts (f := .glo "is_id") (by simp [faL])), F_is_id.kp, b_is_id, ok_is_id⟩
  obtain ⟨fd_are_integers, F_are_integers⟩ := c.defs (d := d_are_integers) (by simp [fnL])
  have ok_are_integers : Fok P w K mg base 2 _ fd_are_integers ["values"] (spAreInts) := wk_are_integers (sp := spAreInts) c_is_integer g_all F_are_integers (len_R fun _ => rfl) (rd_are_integers)
  have b_are_integers : Binds K fd_are_integers ["values"] [] := FunD.bindsN F_are_integers fun _ _ _ _ _ _ us hl => (match us, hl with | [_], _ => rfl)
  have c_are_integers : Cal P w K mg base ("are_integers" : Str) 2 ["values"] (spAreInts) := ⟨_, fd_are_integers, He.glo_ok X G (c.facts (f := .glo "are_integers") (by simp [faL])), F_are_integers.kp, b_are_integers, ok_are_integers⟩
  obtain ⟨fd_is_entry, F_is_entry⟩ := c.defs (d := d_is_entry) (by simp [fnL])
  have ok_is_entry : Fok P w K mg base 3 _ fd_is_entry ["value"] (spIsEntry (He.ga K "Book")) := wk_is_entry (sp := spIsEntry (He.ga K "Book")) c_is_id c_is_name c_are_integers g_isinstance g_tuple g_len g_str k_GONE_SIZE k_ROW_SIZE k_FIX_SIZE F_is_entry (len_R fun _ => rfl) (rd_is_entry ci_Book kt_Book_tuple)
  have b_is_entry : Binds K fd_is_entry ["value"] [] := FunD.bindsN F_is_entry fun _ _ _ _ _ _ us hl => (match us, hl with | [_], _ => rfl)
  have c_is_entry : Cal P w K mg base ("is_entry" : Str) 3 ["value"] (spIsEntry (He.ga K "Book")) := ⟨_, fd_is_entry, He.glo_ok X G (c.facts (f := .glo "is_entry") (by simp [faL])), F_is_entry.kp, b_is_entry, ok_is_entry⟩
  obtain ⟨fd_in_time, F_in_time⟩ := c.defs (d := d_in_time) (by simp [fnL])
  have ok_in_time : Fok P w K mg base 1 _ fd_in_time ["moment", "arrival", "late"] (spInTime) := wk_in_time (sp := spInTime)  F_in_time (len_R fun _ => rfl) (rd_in_time)
  have b_in_time : Binds K fd_in_time ["moment", "arrival", "late"] [] := FunD.bindsN F_in_time fun _ _ _ _ _ _ us hl => (match us, hl with | [_, _, _], _ => rfl)
  have c_in_time : Cal P w K mg base ("in_time" : Str) 1 ["moment", "arrival", "late"] (spInTime) := ⟨_, fd_in_time, He.glo_ok X G (c.facts (f := .glo "in_time") (by simp [faL])), F_in_time.kp, b_in_time, ok_in_time⟩
  obtain ⟨fd_is_good, F_is_good⟩ := c.defs (d := d_is_good) (by simp [fnL])
  have ok_is_good : Fok P w K mg base 4 _ fd_is_good ["book", "states", "last", "entry"] (spIsGood (He.ga K "Book")) := wk_is_good (sp := spIsGood (He.ga K "Book")) c_is_entry c_in_time m_Book_has m_Book_late cl_Book F_is_good (len_R fun _ => rfl) (rd_is_good)
  have b_is_good : Binds K fd_is_good ["book", "states", "last", "entry"] [] := FunD.bindsN F_is_good fun _ _ _ _ _ _ us hl => (match us, hl with | [_, _, _, _], _ => rfl)
  have c_is_good : Cal P w K mg base ("is_good" : Str) 4 ["book", "states", "last", "entry"] (spIsGood (He.ga K "Book")) := ⟨_, fd_is_good, He.glo_ok X G (c.facts (f := .glo "is_good") (by simp [faL])), F_is_good.kp, b_is_good, ok_is_good⟩
  obtain ⟨fd_state_behind, F_state_behind⟩ := c.defs (d := d_state_behind) (by simp [fnL])
  have ok_state_behind : Fok P w K mg base 1 _ fd_state_behind ["states", "entry"] (spBehind) := wk_state_behind (sp := spBehind)  F_state_behind (len_R fun _ => rfl) (rd_behind)
  have b_state_behind : Binds K fd_state_behind ["states", "entry"] [] := FunD.bindsN F_state_behind fun _ _ _ _ _ _ us hl => (match us, hl with | [_, _], _ => rfl)
  have c_state_behind : Cal P w K mg base ("state_behind" : Str) 1 ["states", "entry"] (spBehind) := ⟨_, fd_state_behind, He.glo_ok X G (c.facts (f := .glo "state_behind") (by simp [faL])), F_state_behind.kp, b_state_behind, ok_state_behind⟩
  obtain ⟨fd_first_bad, F_first_bad⟩ := c.defs (d := d_first_bad) (by simp [fnL])
  have ok_first_bad : Fok P w K mg base 5 _ fd_first_bad ["book", "entries"] (spFirstBad (He.ga K "Book")) := wk_first_bad (sp := spFirstBad (He.ga K "Book")) c_is_good c_state_behind g_enumerate F_first_bad (len_R fun _ => rfl) (rd_first_bad)
  have b_first_bad : Binds K fd_first_bad ["book", "entries"] [] := FunD.bindsN F_first_bad fun _ _ _ _ _ _ us hl => (match us, hl with | [_, _], _ => rfl)
  have c_first_bad : Cal P w K mg base ("first_bad" : Str) 5 ["book", "entries"] (spFirstBad (He.ga K "Book")) := ⟨_, fd_first_bad, He.glo_ok X G (c.facts (f := .glo "first_bad") (by simp [faL])), F_first_bad.kp, b_first_bad, ok_first_bad⟩
  obtain ⟨fd_Journal___init__, F_Journal___init__⟩ := c.defs (d := d_Journal___init__) (by simp [fnL])
  have ok_Journal___init__ : Fok P w K mg base 6 _ fd_Journal___init__ ["self", "book", "entries"] (spJInit (He.ga K "Journal") (He.ga K "Book")) := wk_Journal___init__ (sp := spJInit (He.ga K "Journal") (He.ga K "Book")) c_is_row c_first_bad cl_Journal na_Journal__book na_Journal__entries ra_BadBook ra_BadEntry gc_Book g_isinstance g_len g_tuple k_MOST_ENTRIES F_Journal___init__ (len_R fun _ => rfl) (rd_JInit ci_Book kk_Book)
  have b_Journal___init__ : Binds K fd_Journal___init__ ["self", "book", "entries"] [] := bnd_none (FunD.binds1 F_Journal___init__ 3 1 (by simp [d_Journal___init__, He.DefD.dvs]) (by simp [d_Journal___init__, He.DefD.dvs]) fun T kV doc pm an cdv ct us its h1 h2 => (match us, its, h1, h2 with | [_, _, _], [_], _, _ => ⟨_, rfl, rfl⟩)) (by simp [d_Journal___init__, He.DefD.dvs])
  have mkd_Journal : CalD P w K mg base ("Journal" : Str) (He.ga K "Journal") 6 ["self", "book", "entries"] (spJInit (He.ga K "Journal") (He.ga K "Book")) [.tup []] := by
    obtain ⟨ds, hv, hb⟩ := FunD.binds1 (ps := ["self", "book", "entries"]) F_Journal___init__ 2 0 (by simp [d_Journal___init__, He.DefD.dvs]) (by simp [d_Journal___init__, He.DefD.dvs]) fun T kV doc pm an cdv ct us its h1 h2 => (match us, its, h1, h2 with | [_, _], [_], _, _ => ⟨_, rfl, rfl⟩)
    exact ⟨_, fd_Journal___init__, ds, _, He.mkr_ok (c.facts (f := .mkr "Journal") (by simp [faL])), He.glo_ok X G (c.facts (f := .glo "Journal") (by simp [faL])), hb, hv, dfl_tup0 (exAt cx.more 45), ok_Journal___init__⟩
  have mk_Journal : CalK P w K mg base ("Journal" : Str) (He.ga K "Journal") 6 ["self", "book", "entries"] (spJInit (He.ga K "Journal") (He.ga K "Book")) := ⟨_, fd_Journal___init__, He.mkr_ok (c.facts (f := .mkr "Journal") (by simp [faL])), He.glo_ok X G (c.facts (f := .glo "Journal") (by simp [faL])), b_Journal___init__, ok_Journal___init__⟩
  obtain ⟨po_Journal_entries, fd_Journal_entries, F_Journal_entries⟩ := cg.get 1 (g := g_Journal_entries)
  have ok_Journal_entries : Fok P w K mg base 1 _ fd_Journal_entries ["self"] (spEntriesP (He.ga K "Journal") (He.ga K "Book")) := wk_Journal_entries (sp := spEntriesP (He.ga K "Journal") (He.ga K "Book")) cl_Journal na_Journal__entries F_Journal_entries (len_R fun _ => rfl) (rd_entriesP)
  have b_Journal_entries : Binds K fd_Journal_entries ["self"] [] := FunD.bindsN F_Journal_entries fun _ _ _ _ _ _ us hl => (match us, hl with | [_], _ => rfl)
  have p_Journal_entries : CalP P w K mg base (He.ga K "Journal") ("entries" : Str) 1 (spEntriesP (He.ga K "Journal") (He.ga K "Book")) := ⟨_, _, fd_Journal_entries, ["self"], po_Journal_entries, b_Journal_entries, ok_Journal_entries⟩
  obtain ⟨fd_Journal_then, F_Journal_then⟩ := c.defs (d := d_Journal_then) (by simp [fnL])
  have ok_Journal_then : Fok P w K mg base 8 _ fd_Journal_then ["self", "entry"] (spThen (He.ga K "Journal") (He.ga K "Book") (He.ga K "BadEntry")) := wk_Journal_then (sp := spThen (He.ga K "Journal") (He.ga K "Book") (He.ga K "BadEntry")) c_first_bad mk_Journal cl_Journal na_Journal__entries na_Journal__book ra_BadEntry g_len k_MOST_ENTRIES F_Journal_then (len_R fun _ => rfl) (rd_then)
  have b_Journal_then : Binds K fd_Journal_then ["self", "entry"] [] := FunD.bindsN F_Journal_then fun _ _ _ _ _ _ us hl => (match us, hl with | [_, _], _ => rfl)
  have m_Journal_then : CalM P w K mg base (He.ga K "Journal") ("then" : Str) 8 ["self", "entry"] (spThen (He.ga K "Journal") (He.ga K "Book") (He.ga K "BadEntry")) := ⟨_, fd_Journal_then, He.meth_ok (c.facts (f := .meth "Journal" "then") (by simp [faL])), b_Journal_then, ok_Journal_then⟩
  obtain ⟨fd_Journal_heard, F_Journal_heard⟩ := c.defs (d := d_Journal_heard) (by simp [fnL])
  have ok_Journal_heard : Fok P w K mg base 8 _ fd_Journal_heard ["self", "h"] (spHeard (He.ga K "Journal") (He.ga K "Book") (He.ga K "BadMoment")) := wk_Journal_heard (sp := spHeard (He.ga K "Journal") (He.ga K "Book") (He.ga K "BadMoment")) c_check_moment mk_Journal cl_Journal na_Journal__book na_Journal__entries F_Journal_heard (len_R fun _ => rfl) (rd_heard)
  have b_Journal_heard : Binds K fd_Journal_heard ["self", "h"] [] := FunD.bindsN F_Journal_heard fun _ _ _ _ _ _ us hl => (match us, hl with | [_, _], _ => rfl)
  have m_Journal_heard : CalM P w K mg base (He.ga K "Journal") ("heard" : Str) 8 ["self", "h"] (spHeard (He.ga K "Journal") (He.ga K "Book") (He.ga K "BadMoment")) := ⟨_, fd_Journal_heard, He.meth_ok (c.facts (f := .meth "Journal" "heard") (by simp [faL])), b_Journal_heard, ok_Journal_heard⟩
  obtain ⟨fd__law_pool, F__law_pool⟩ := c.defs (d := d__law_pool) (by simp [fnL])
  have ok__law_pool : Fok P w K mg base 1 _ fd__law_pool ["_law_script"] (spPool) := wk__law_pool (sp := spPool) g_list F__law_pool (len_R fun _ => rfl) (rd_pool)
  have b__law_pool : Binds K fd__law_pool ["_law_script"] [] := FunD.bindsN F__law_pool fun _ _ _ _ _ _ us hl => (match us, hl with | [_], _ => rfl)
  have c__law_pool : Cal P w K mg base ("_law_pool" : Str) 1 ["_law_script"] (spPool) := ⟨_, fd__law_pool, He.glo_ok X G (c.facts (f := .glo "_law_pool") (by simp [faL])), F__law_pool.kp, b__law_pool, ok__law_pool⟩
  obtain ⟨fd__law_draw, F__law_draw⟩ := c.defs (d := d__law_draw) (by simp [fnL])
  have ok__law_draw : Fok P w K mg base 1 _ fd__law_draw ["_law_pool_here", "_law_many"] (spDraw) := wk__law_draw (sp := spDraw) g_len g_int F__law_draw (len_R fun _ => rfl) (rd_draw)
  have b__law_draw : Binds K fd__law_draw ["_law_pool_here", "_law_many"] [] := FunD.bindsN F__law_draw fun _ _ _ _ _ _ us hl => (match us, hl with | [_, _], _ => rfl)
  have c__law_draw : Cal P w K mg base ("_law_draw" : Str) 1 ["_law_pool_here", "_law_many"] (spDraw) := ⟨_, fd__law_draw, He.glo_ok X G (c.facts (f := .glo "_law_draw") (by simp [faL])), F__law_draw.kp, b__law_draw, ok__law_draw⟩
  obtain ⟨fd__law_names, F__law_names⟩ := c.defs (d := d__law_names) (by simp [fnL])
  have ok__law_names : Fok P w K mg base 2 _ fd__law_names ["_law_pool_here", "_law_many"] (spNames) := wk__law_names (sp := spNames) c__law_draw g_range F__law_names (len_R fun _ => rfl) (rd_names)
  have b__law_names : Binds K fd__law_names ["_law_pool_here", "_law_many"] [] := FunD.bindsN F__law_names fun _ _ _ _ _ _ us hl => (match us, hl with | [_, _], _ => rfl)
  have c__law_names : Cal P w K mg base ("_law_names" : Str) 2 ["_law_pool_here", "_law_many"] (spNames) := ⟨_, fd__law_names, He.glo_ok X G (c.facts (f := .glo "_law_names") (by simp [faL])), F__law_names.kp, b__law_names, ok__law_names⟩
  obtain ⟨fd__law_lates, F__law_lates⟩ := c.defs (d := d__law_lates) (by simp [fnL])
  have ok__law_lates : Fok P w K mg base 3 _ fd__law_lates ["_law_pool_here"] (spLates) := wk__law_lates (sp := spLates) c__law_draw c__law_names F__law_lates (len_R fun _ => rfl) (rd_lates)
  have b__law_lates : Binds K fd__law_lates ["_law_pool_here"] [] := FunD.bindsN F__law_lates fun _ _ _ _ _ _ us hl => (match us, hl with | [_], _ => rfl)
  have c__law_lates : Cal P w K mg base ("_law_lates" : Str) 3 ["_law_pool_here"] (spLates) := ⟨_, fd__law_lates, He.glo_ok X G (c.facts (f := .glo "_law_lates") (by simp [faL])), F__law_lates.kp, b__law_lates, ok__law_lates⟩
  obtain ⟨fd__law_amount, F__law_amount⟩ := c.defs (d := d__law_amount) (by simp [fnL])
  have ok__law_amount : Fok P w K mg base 2 _ fd__law_amount ["_law_pool_here"] (spAmount) := wk__law_amount (sp := spAmount) c__law_draw F__law_amount (len_R fun _ => rfl) (rd_amount)
  have b__law_amount : Binds K fd__law_amount ["_law_pool_here"] [] := FunD.bindsN F__law_amount fun _ _ _ _ _ _ us hl => (match us, hl with | [_], _ => rfl)
  have c__law_amount : Cal P w K mg base ("_law_amount" : Str) 2 ["_law_pool_here"] (spAmount) := ⟨_, fd__law_amount, He.glo_ok X G (c.facts (f := .glo "_law_amount") (by simp [faL])), F__law_amount.kp, b__law_amount, ok__law_amount⟩
  obtain ⟨fd__law_entry, F__law_entry⟩ := c.defs (d := d__law_entry) (by simp [fnL])
  have ok__law_entry : Fok P w K mg base 3 _ fd__law_entry ["_law_pool_here", "_law_lates_here", "_law_keys", "_law_states", "_law_number", "_law_arrival_here"] (spEntry) := wk__law_entry (sp := spEntry) c__law_draw c__law_amount g_list g_len F__law_entry (len_R fun _ => rfl) (rd_entry)
  have b__law_entry : Binds K fd__law_entry ["_law_pool_here", "_law_lates_here", "_law_keys", "_law_states", "_law_number", "_law_arrival_here"] [] := FunD.bindsN F__law_entry fun _ _ _ _ _ _ us hl => (match us, hl with | [_, _, _, _, _, _], _ => rfl)
  have c__law_entry : Cal P w K mg base ("_law_entry" : Str) 3 ["_law_pool_here", "_law_lates_here", "_law_keys", "_law_states", "_law_number", "_law_arrival_here"] (spEntry) := ⟨_, fd__law_entry, He.glo_ok X G (c.facts (f := .glo "_law_entry") (by simp [faL])), F__law_entry.kp, b__law_entry, ok__law_entry⟩
  obtain ⟨fd__law_put, F__law_put⟩ := c.defs (d := d__law_put) (by simp [fnL])
  have ok__law_put : Fok P w K mg base 1 _ fd__law_put ["_law_states", "_law_entry_here"] (spPut) := wk__law_put (sp := spPut)  F__law_put (len_R fun _ => rfl) (rd_put)
  have b__law_put : Binds K fd__law_put ["_law_states", "_law_entry_here"] [] := FunD.bindsN F__law_put fun _ _ _ _ _ _ us hl => (match us, hl with | [_, _], _ => rfl)
  have c__law_put : Cal P w K mg base ("_law_put" : Str) 1 ["_law_states", "_law_entry_here"] (spPut) := ⟨_, fd__law_put, He.glo_ok X G (c.facts (f := .glo "_law_put") (by simp [faL])), F__law_put.kp, b__law_put, ok__law_put⟩
  obtain ⟨fd__law_entries, F__law_entries⟩ := c.defs (d := d__law_entries) (by simp [fnL])
  have ok__law_entries : Fok P w K mg base 4 _ fd__law_entries ["_law_pool_here", "_law_lates_here", "_law_keys", "_law_states", "_law_number", "_law_arrival_here", "_law_many"] (spEntries) := wk__law_entries (sp := spEntries) c__law_draw c__law_entry c__law_put g_range F__law_entries (len_R fun _ => rfl) (rd_entries)
  have b__law_entries : Binds K fd__law_entries ["_law_pool_here", "_law_lates_here", "_law_keys", "_law_states", "_law_number", "_law_arrival_here", "_law_many"] [] := FunD.bindsN F__law_entries fun _ _ _ _ _ _ us hl => (match us, hl with | [_, _, _, _, _, _, _], _ => rfl)
  have c__law_entries : Cal P w K mg base ("_law_entries" : Str) 4 ["_law_pool_here", "_law_lates_here", "_law_keys", "_law_states", "_law_number", "_law_arrival_here", "_law_many"] (spEntries) := ⟨_, fd__law_entries, He.glo_ok X G (c.facts (f := .glo "_law_entries") (by simp [faL])), F__law_entries.kp, b__law_entries, ok__law_entries⟩
  obtain ⟨fd__law_begin, F__law_begin⟩ := c.defs (d := d__law_begin) (by simp [fnL])
  have ok__law_begin : Fok P w K mg base 2 _ fd__law_begin ["_law_pool_here"] (spAmount) := wk__law_begin (sp := spAmount) c__law_draw F__law_begin (len_R fun _ => rfl) (rd_begin)
  have b__law_begin : Binds K fd__law_begin ["_law_pool_here"] [] := FunD.bindsN F__law_begin fun _ _ _ _ _ _ us hl => (match us, hl with | [_], _ => rfl)
  have c__law_begin : Cal P w K mg base ("_law_begin" : Str) 2 ["_law_pool_here"] (spAmount) := ⟨_, fd__law_begin, He.glo_ok X G (c.facts (f := .glo "_law_begin") (by simp [faL])), F__law_begin.kp, b__law_begin, ok__law_begin⟩
  obtain ⟨fd__law_then, F__law_then⟩ := c.defs (d := d__law_then) (by simp [fnL])
  have ok__law_then : Fok P w K mg base 9 _ fd__law_then ["_law_journal", "_law_entry_here"] (spLThen (He.ga K "Journal") (He.ga K "Book")) := wk__law_then (sp := spLThen (He.ga K "Journal") (He.ga K "Book")) m_Journal_then p_Journal_entries cl_Journal xf_BadEntry nx_BadEntry gc_BadEntry g_list F__law_then (len_R fun _ => rfl) (rd_lthen xm_BadEntry)
  have b__law_then : Binds K fd__law_then ["_law_journal", "_law_entry_here"] [] := FunD.bindsN F__law_then fun _ _ _ _ _ _ us hl => (match us, hl with | [_, _], _ => rfl)
  have c__law_then : Cal P w K mg base ("_law_then" : Str) 9 ["_law_journal", "_law_entry_here"] (spLThen (He.ga K "Journal") (He.ga K "Book")) := ⟨_, fd__law_then, He.glo_ok X G (c.facts (f := .glo "_law_then") (by simp [faL])), F__law_then.kp, b__law_then, ok__law_then⟩
  obtain ⟨fd__law_heard, F__law_heard⟩ := c.defs (d := d__law_heard) (by simp [fnL])
  have ok__law_heard : Fok P w K mg base 9 _ fd__law_heard ["_law_journal", "_law_h"] (spLHeard (He.ga K "Journal") (He.ga K "Book")) := wk__law_heard (sp := spLHeard (He.ga K "Journal") (He.ga K "Book")) m_Journal_heard p_Journal_entries cl_Journal xf_BadMoment nx_BadMoment gc_BadMoment g_list F__law_heard (len_R fun _ => rfl) (rd_lheard xm_BadMoment)
  have b__law_heard : Binds K fd__law_heard ["_law_journal", "_law_h"] [] := FunD.bindsN F__law_heard fun _ _ _ _ _ _ us hl => (match us, hl with | [_, _], _ => rfl)
  have c__law_heard : Cal P w K mg base ("_law_heard" : Str) 9 ["_law_journal", "_law_h"] (spLHeard (He.ga K "Journal") (He.ga K "Book")) := ⟨_, fd__law_heard, He.glo_ok X G (c.facts (f := .glo "_law_heard") (by simp [faL])), F__law_heard.kp, b__law_heard, ok__law_heard⟩
  obtain ⟨fd__law_arrival, F__law_arrival⟩ := c.defs (d := d__law_arrival) (by simp [fnL])
  have ok__law_arrival : Fok P w K mg base 1 _ fd__law_arrival ["_law_entry_here"] (spArr) := wk__law_arrival (sp := spArr) g_len F__law_arrival (len_R fun _ => rfl) (rd_arr)
  have b__law_arrival : Binds K fd__law_arrival ["_law_entry_here"] [] := FunD.bindsN F__law_arrival fun _ _ _ _ _ _ us hl => (match us, hl with | [_], _ => rfl)
  have c__law_arrival : Cal P w K mg base ("_law_arrival" : Str) 1 ["_law_entry_here"] (spArr) := ⟨_, fd__law_arrival, He.glo_ok X G (c.facts (f := .glo "_law_arrival") (by simp [faL])), F__law_arrival.kp, b__law_arrival, ok__law_arrival⟩
  obtain ⟨fd__law_bad, F__law_bad⟩ := c.defs (d := d__law_bad) (by simp [fnL])
  have ok__law_bad : Fok P w K mg base 2 _ fd__law_bad ["_law_pool_here", "_law_lates_here", "_law_states", "_law_number", "_law_now"] (spBad) := wk__law_bad (sp := spBad) c__law_draw g_list g_len F__law_bad (len_R fun _ => rfl) (rd_bad)
  have b__law_bad : Binds K fd__law_bad ["_law_pool_here", "_law_lates_here", "_law_states", "_law_number", "_law_now"] [] := FunD.bindsN F__law_bad fun _ _ _ _ _ _ us hl => (match us, hl with | [_, _, _, _, _], _ => rfl)
  have c__law_bad : Cal P w K mg base ("_law_bad" : Str) 2 ["_law_pool_here", "_law_lates_here", "_law_states", "_law_number", "_law_now"] (spBad) := ⟨_, fd__law_bad, He.glo_ok X G (c.facts (f := .glo "_law_bad") (by simp [faL])), F__law_bad.kp, b__law_bad, ok__law_bad⟩
  obtain ⟨fd__law_at_the_end, F__law_at_the_end⟩ := c.defs (d := d__law_at_the_end) (by simp [fnL])
  have ok__law_at_the_end : Fok P w K mg base 1 _ fd__law_at_the_end ["_law_states", "_law_lates_here", "_law_now"] (spEnd) := wk__law_at_the_end (sp := spEnd) g_list F__law_at_the_end (len_R fun _ => rfl) (rd_end)
  have b__law_at_the_end : Binds K fd__law_at_the_end ["_law_states", "_law_lates_here", "_law_now"] [] := FunD.bindsN F__law_at_the_end fun _ _ _ _ _ _ us hl => (match us, hl with | [_, _, _], _ => rfl)
  have c__law_at_the_end : Cal P w K mg base ("_law_at_the_end" : Str) 1 ["_law_states", "_law_lates_here", "_law_now"] (spEnd) := ⟨_, fd__law_at_the_end, He.glo_ok X G (c.facts (f := .glo "_law_at_the_end") (by simp [faL])), F__law_at_the_end.kp, b__law_at_the_end, ok__law_at_the_end⟩
  have hG := gk_ok eq_Book
  exact wk_law (sp := spLaw) c__law_pool c__law_lates c__law_names c__law_draw c__law_begin c__law_entries c__law_arrival c__law_bad c__law_then c__law_at_the_end c__law_put c__law_heard mk_Book m_Journal_then p_Journal_entries mkd_Journal hG cl_Journal g_min g_max g_len g_range g_list F_law (len_R fun _ => rfl) (rd_law (CBE := He.ga K "BadEntry"))
theorem walk_w {l : PySem.W.OpenLaw} {n k : Nat} {q : Program} {loose : List Str} {XP : (Str → Option Value) → Heap → Prop} {YP : World → Heap → Prop} {d : DefRec} {x : Str}
    (h1 : l.most = some n) (h2 : n ≤ sizeLine) (h3 : d.params.defaults = []) (hr : Room k callerA)
    (F : ∀ (w : World) (mg : Str → Option Value) (ad : Addr) (h : Heap), YP w h → h.Ns mainGlobals mg → mg d.name = some (.ref ad) → ∃ (K : PySem.W.Frag) (fd : FuncData) (sp : Sp), K.In h ∧ (∀ (s : Shared) (u : Value), BindsTo s fd ⟨[u], []⟩ [(x, u)]) ∧
        (∀ (H : Hp) (a : Addr) (ns : List Int), ns.length ≤ n → SqL K H a (ns.map V.int) → sp [.ref a] H (fun v _ => v = .bl true) fun _ _ _ => False) ∧ ∀ base : Heap, K.In base → base.Ns mainGlobals mg → FnOk l.prog w K mg base (L2.CX l.prog w) k ad fd [x] sp) :
    PySem.W.WalkO q loose XP YP l.row.toRowW d [] (fun f vs => PySem.call f vs) := by
  refine Att.attach_call h1 h3 ?_
  intro w sa sb mg mb ad o pm cd doc a vs ns G Y ho hd hc hm hb hi hl hg
  obtain ⟨K, fd, sp, KX, hbd, hsp, hF⟩ := F w mg ad _ Y G.T.g hm
  exact law_call KX G.T.g G.T.b G.T.builtins G.T.nolimit hg hb hi (Nat.le_trans hl h2) hr hF hbd (fun H _ hS => hsp H a ns hl hS) fun H e s' z => cx_false _ _ _ _ _ z
end Law
open PySem PySem.W PySem.Calls PyProof.Rows
theorem PySem.Challenge.cw_asofhall_k03_one_more_entry_holds : PySem.Challenge.rw_asofhall_k03_one_more_entry.Holds := by
  w_on; o_law
  refine HandSHeadRun.head_any (r := OpenLaw.row PySem.Challenge.rw_asofhall_k03_one_more_entry) (q := view (OpenLaw.row PySem.Challenge.rw_asofhall_k03_one_more_entry).prog [50]) (H := Law.hkL) (ob := Law.obL) (M := 4000) (loose := Law.looseL) (d := HandSHeadRun.topDef (OpenLaw.row PySem.Challenge.rw_asofhall_k03_one_more_entry).prog 50) (kwd := []) Law.ob_eqL
    (by kernel_rfl) (fun s => by kernel_rfl) Law.runL (by kernel_rfl) (by kernel_rfl) (by kernel_rfl) (by rfl) (by first | assumption | decide +kernel) (by decide +kernel) ⟨rfl, rfl, rfl, rfl, rfl, by decide +kernel⟩ ?hw ?hc
  case hw => w_witness2
  case hc =>
    refine Law.walk_w (l := PySem.Challenge.rw_asofhall_k03_one_more_entry) (n := 63) (k := 10) (x := "_law_script") rfl (by decide) (by kernel_rfl) ⟨rfl, by decide, by decide⟩ ?F
    intro w mg fa h Y G hmg0
    obtain ⟨K, KX, c, cg⟩ := Y
    have hmg : mg ("law" : PySem.Str) = some (.ref fa) := by
      have e : (HandSHeadRun.topDef (OpenLaw.row PySem.Challenge.rw_asofhall_k03_one_more_entry).prog 50).name = ("law" : PySem.Str) := by kernel_rfl
      rw [← e]
      exact hmg0
    obtain ⟨fd, hb, hF⟩ := Law.facts (P := (PySem.Challenge.rw_asofhall_k03_one_more_entry).prog) (w := w) KX G hmg c cg
    exact ⟨K, fd, Vs.lift K Law.spLaw, KX, hb, fun H a ns hl hS => Law.lift_law hS hl, hF⟩
