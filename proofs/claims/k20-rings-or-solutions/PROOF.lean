import PyProof.Rows.All
import Wide.All
import OpenK.AllK
import Wide.FinOn
import HandS.ExcField
import HandS.ExcInit
import HandS.ForMost
import HandS.ForExc
import HandS.Defaults
import HandS.IsInst
import HandS.Property
import HandS.Head0
import HandS.Head1
import HandS.Head2
import HandS.HeadEnd
import HandS.HeadHook1
import HandS.HeadHook2
import HandS.HeadHook3
import HandS.HeadHook4
import PySem.Challenge.RW_asofhall_k20_rings_or_solutions
import HandS.Small
import HandS.Conv
import KE.DataEq
import KE.DataCmp
import KE.SortData
import HandS.TupAny
import HandS.CallSlots
import HandS.More
import HandS.Wide
import HandS.DictComp
import HandS.OwnEq
import HandS.Iter
import KE.GoesEnum
import KE.KEqNest
import HandS.ListItems
import KE.KDictList
import HandS.SetBool
import HandS.Style
import HandS.TupMul
set_option Elab.async false
set_option linter.all false
set_option maxRecDepth 100000
set_option maxHeartbeats 1000000
/-! Vs: what a head is asked. -/
namespace Vs
open PySem PySem.Spec PyProof.Rows L2
def oexB (K : PySem.W.Frag) (C : Addr) : Bool := (match K.lookup C with
  | some ⟨.type "type", _, .cls cd, sl⟩ => (match cd.mro, sl.toList with
    | .ref C' :: bm, [_, _, _, _, some (.builtin n), _] => C' == C && n == "ValueError.__new__" && !cd.hasDel && cd.hasDict && PySem.HandSPX.refsVE bm
    | _, _ => false)
  | _ => false) && (He.eqO (PySem.W.findIn K (.ref C) "__setattr__") (some (some (.builtin "object.__setattr__"))) && (decide (PySem.W.subIn K (.ref C) (.type "BaseException") = some true) && (decide (PySem.W.typeIn K (.ref C) = some (.type "type")) && PySem.W.keepIn K (.ref C))))
def oexI (K : PySem.W.Frag) (C : Addr) (f : Str) : Bool := He.eqO (PySem.W.findIn K (.ref C) "__init__") (some (some (.ref (He.ma K C "__init__")))) && (decide (PySem.W.typeIn K (.ref (He.ma K C "__init__")) = some (.type "function")) && (He.eqO (PySem.W.findIn K (.ref C) f) (some none) && xfB K C))
def clsIB (K : PySem.W.Frag) (C : Addr) : Bool := He.eqO (PySem.W.findIn K (.ref C) "__class__") (some (some (.builtin "object.__class__"))) && (He.eqO (PySem.W.specialIn K (.builtin "object.__class__") "__get__") (some (some (.builtin "getset_descriptor.__get__"))) && (decide (PySem.W.takesIn K (.builtin "object.__class__") = some true) && decide (PySem.W.mroIn K C (.type "object") = some true)))
def spcB (K : PySem.W.Frag) (C : Addr) (m : Str) : Bool := He.eqO (PySem.W.findIn K (.ref C) m) (some (some (.ref (He.ma K C m)))) && PySem.W.isFn K (.ref (He.ma K C m))
def neB (K : PySem.W.Frag) (C : Addr) : Bool := He.eqO (PySem.W.findIn K (.ref C) "__ne__") (some (some (.builtin "object.__ne__"))) && decide (PySem.W.mroIn K C (.type "object") = some true)
def kitB2 (K : PySem.W.Frag) (t u : Value) (b : Bool) : Bool := decide (PySem.W.kitOne K t u = some b)
structure GetD where
  cls : Str
  prop : Str
  d : He.DefD
section
variable {K : PySem.W.Frag} {g : GetD}
def GetD.p (K : PySem.W.Frag) (g : GetD) : Addr := He.ma K (He.ga K g.cls) g.prop
def GetD.adr (K : PySem.W.Frag) (g : GetD) : Addr := match PySem.W.recIn K (g.p K) "property" with
  | some (.ref a :: _) => a
  | _ => 0
def fnWA (K : PySem.W.Frag) (a : Addr) : He.FnW := match K.lookup a with
  | some ⟨_, _, .func f, _⟩ => some (f.name, f.qualname, f.params, f.body, f.scope, f.globals, f.closure, f.builtins)
  | _ => none
def recB (K : PySem.W.Frag) (p : Addr) : Bool := match PySem.W.recIn K p "property" with
  | some (.ref _ :: _) => true
  | _ => false
def codB (K : PySem.W.Frag) (a : Addr) (q : Str) : Bool := match K.lookup a with
  | some ⟨_, _, .func f, _⟩ => PySem.W.codeIn K f.code q && (He.dflB K f.defaults [] && He.kwdB K f.kwdefaults [])
  | _ => false
def GetD.ok (K : PySem.W.Frag) (g : GetD) : Bool := He.eqO (PySem.W.findIn K (.ref (He.ga K g.cls)) g.prop) (some (some (.ref (g.p K)))) && (He.eqO (PySem.W.specialIn K (.ref (g.p K)) "__get__") (some (some (.builtin "property.__get__"))) && (decide (PySem.W.takesIn K (.ref (g.p K)) = some true) && (recB K (g.p K) && (PySem.W.keepIn K (.ref (g.adr K)) && codB K (g.adr K) g.d.qual))))
theorem GetD.says (e : fnWA K (g.adr K) = g.d.val) (c : g.ok K = true) : PropOf K (He.ga K g.cls) g.prop (g.p K) (g.adr K) ∧ ∃ fd, FunD K g.d.name g.d.qual g.d.params g.d.body g.d.scope [] [] (g.adr K) fd := by
  obtain ⟨c1, c⟩ := He.ba c
  obtain ⟨c2, c⟩ := He.ba c
  obtain ⟨c3, c⟩ := He.ba c
  obtain ⟨c4, c⟩ := He.ba c
  obtain ⟨c5, c6⟩ := He.ba c
  refine ⟨⟨He.eqO_ok c1, He.eqO_ok c2, of_decide_eq_true c3, ?_⟩, ?_⟩
  · unfold recB at c4
    split at c4
    · rename_i a r hr
      refine ⟨r, ?_⟩
      have : g.adr K = a := by unfold GetD.adr; rw [hr]
      rw [this]
      exact hr
    · cases c4
  · unfold fnWA at e
    unfold codB at c6
    cases hl : K.lookup (g.adr K) with
    | none => rw [hl] at c6; cases c6
    | some o =>
      obtain ⟨oc, od, dt, sl⟩ := o
      rw [hl] at c6 e
      cases dt with
      | func f =>
        obtain ⟨x1, x2, x3, x4, x5, x6, x7, x8, x9, y10, y11, y12, y13, y14, y15⟩ := f
        have e2 : (some (x1, x2, x3, x4, x5, x6, x7, y15) : He.FnW) = some (g.d.name, g.d.qual, g.d.params, .stmts g.d.body, g.d.scope, mainGlobals, [], builtinsNs) := e
        simp only [Option.some.injEq, Prod.mk.injEq] at e2
        obtain ⟨rfl, rfl, rfl, rfl, rfl, rfl, rfl, rfl⟩ := e2
        obtain ⟨k1, k2⟩ := He.ba (show (PySem.W.codeIn K y13 g.d.qual && (He.dflB K x8 [] && He.kwdB K x9 [])) = true from c6)
        obtain ⟨k3, k4⟩ := He.ba k2
        exact ⟨_, ⟨oc, od, x8, x9, y10, y11, y12, y13, y14, sl, rfl, hl, k1, He.dflB_ok k3, He.kwdB_ok k4⟩, c5⟩
      | _ => cases c6
def obsG (gs : List GetD) (K : PySem.W.Frag) : Bool × List He.FnW := (gs.all fun g => g.ok K, gs.map fun g => fnWA K (g.adr K))
def valG (gs : List GetD) : Bool × List He.FnW := (true, gs.map fun g => g.d.val)
def SaysG (gs : List GetD) (K : PySem.W.Frag) : Prop := obsG gs K = valG gs
theorem SaysG.get {gs : List GetD} (s : SaysG gs K) (i : Nat) {g : GetD} (h : gs[i]? = some g := by rfl) : PropOf K (He.ga K g.cls) g.prop (g.p K) (g.adr K) ∧ ∃ fd, FunD K g.d.name g.d.qual g.d.params g.d.body g.d.scope [] [] (g.adr K) fd := by
  have e1 : (gs.all fun g => g.ok K) = true := congrArg (·.1) s
  have e2 : (gs.map fun g => fnWA K (g.adr K)) = gs.map fun g => g.d.val := congrArg (·.2) s
  refine GetD.says ?_ (List.all_eq_true.mp e1 g (List.mem_of_getElem? h))
  have e3 : (gs.map fun g => fnWA K (g.adr K))[i]? = (gs.map fun g => g.d.val)[i]? := by rw [e2]
  rw [List.getElem?_map, List.getElem?_map, h] at e3
  exact Option.some.inj e3
def hookP (n : Nat) (fa : List He.Fa) (fn : List He.DefD) (gs : List GetD) (ex : PySem.W.Frag → Bool) : PySem.W.Hook where
  α := He.AlX × (Bool × List He.FnW)
  obs := fun s => (He.obsX n fa fn [] [] ex s.heap.get?, obsG gs (He.frT s.heap.get? (He.asD s.heap.get? n)))
  val := fun w => (He.valX fn [] w, valG gs)
  says := fun w h => ∃ K : PySem.W.Frag, K.In h ∧ He.SaysX fa fn [] [] ex w h K ∧ SaysG gs K
  of := fun w s e => ⟨He.frT s.heap.get? (He.asD s.heap.get? n), He.frT_in, He.saysX_of (Prod.mk.inj e).1, (Prod.mk.inj e).2⟩
  keeps := fun _ _ _ ⟨K, hK, c, cg⟩ k => ⟨K, PySem.W.Frag.In.keeps hK k, ⟨c.t, c.more, c.hd, c.out, fun p hp => k _ _ (c.empty p hp)⟩, cg⟩
def obsP (n : Nat) (fa : List He.Fa) (fn : List He.DefD) (gs : List GetD) (ex : PySem.W.Frag → Bool) (g : Addr → Option Obj) : He.AlX × (Bool × List He.FnW) := (He.obsX n fa fn [] [] ex g, obsG gs (He.frT g (He.asD g n)))
theorem obsP_eq {n : Nat} {fa : List He.Fa} {fn : List He.DefD} {gs : List GetD} {ex : PySem.W.Frag → Bool} {g : Addr → Option Obj} {s : Shared} (h : ∀ a, g a = s.heap.get? a) : obsP n fa fn gs ex g = (hookP n fa fn gs ex).obs s := by
  have e : g = s.heap.get? := funext h
  subst e
  rfl
end
/-- an empty tuple of the module -/
def tup0B (K : PySem.W.Frag) (a : Addr) : Bool := match K.lookup a with
  | some ⟨.type c, _, .seq its _, _⟩ => decide (c = "tuple") && decide (its.size = 0)
  | _ => false
end Vs

set_option Elab.async false
set_option linter.all false
set_option maxRecDepth 100000
set_option maxHeartbeats 0
namespace Law
open PySem PySem.Spec PyProof.Rows L2 Vs
def top (i : Nat) : Stmt := PySem.Challenge.pw_asofhall_k20_rings_or_solutions.main.body.getD i (.Pass ⟨0, 0, 0, 0⟩)
def inCls (i j : Nat) : Stmt := (match top i with
  | .ClassDef _ _ _ body _ _ _ _ _ _ _ => body
  | _ => []).getD j (.Pass ⟨0, 0, 0, 0⟩)
/-- where the first default of a def stands -/
def dvA (K : PySem.W.Frag) (p : Str × Option Str) : Addr := match K.lookup (He.fAd K p) with
  | some ⟨_, _, .func fd, _⟩ => (match fd.defaults with
    | .ref t => (match K.lookup t with
      | some ⟨_, _, .seq its _, _⟩ => (match (its : Array Value)[0]? with
        | some (Value.ref a) => a
        | _ => 0)
      | _ => 0)
    | _ => 0)
  | _ => 0
def d_BadFact___init__ : He.DefD := ⟨("BadFact", some "__init__"), "__init__", "BadFact.__init__", defArgs (inCls 2 0), defBody (inCls 2 0), defScope (inCls 2 0), [], []⟩
def d_is_integer : He.DefD := ⟨("is_integer", none), "is_integer", "is_integer", defArgs (top 4), defBody (top 4), defScope (top 4), [], []⟩
def d_is_fact : He.DefD := ⟨("is_fact", none), "is_fact", "is_fact", defArgs (top 6), defBody (top 6), defScope (top 6), [], []⟩
def d_check_facts : He.DefD := ⟨("check_facts", none), "check_facts", "check_facts", defArgs (top 7), defBody (top 7), defScope (top 7), [], []⟩
def d_relaxed : He.DefD := ⟨("relaxed", none), "relaxed", "relaxed", defArgs (top 8), defBody (top 8), defScope (top 8), [], []⟩
def d_ring_behind : He.DefD := ⟨("ring_behind", none), "ring_behind", "ring_behind", defArgs (top 9), defBody (top 9), defScope (top 9), [], []⟩
def d_ring : He.DefD := ⟨("ring", none), "ring", "ring", defArgs (top 10), defBody (top 10), defScope (top 10), [], []⟩
def d_solution : He.DefD := ⟨("solution", none), "solution", "solution", defArgs (top 11), defBody (top 11), defScope (top 11), [], []⟩
def d_is_ring : He.DefD := ⟨("is_ring", none), "is_ring", "is_ring", defArgs (top 12), defBody (top 12), defScope (top 12), [], []⟩
def d__law_state : He.DefD := ⟨("_law_state", none), "_law_state", "_law_state", defArgs (top 14), defBody (top 14), defScope (top 14), [], []⟩
def d__law_draw : He.DefD := ⟨("_law_draw", none), "_law_draw", "_law_draw", defArgs (top 15), defBody (top 15), defScope (top 15), [], []⟩
def d__law_number : He.DefD := ⟨("_law_number", none), "_law_number", "_law_number", defArgs (top 16), defBody (top 16), defScope (top 16), [], []⟩
def d__law_is_integer : He.DefD := ⟨("_law_is_integer", none), "_law_is_integer", "_law_is_integer", defArgs (top 17), defBody (top 17), defScope (top 17), [], []⟩
def d__law_strange : He.DefD := ⟨("_law_strange", none), "_law_strange", "_law_strange", defArgs (top 18), defBody (top 18), defScope (top 18), [], []⟩
def d__law_size : He.DefD := ⟨("_law_size", none), "_law_size", "_law_size", defArgs (top 19), defBody (top 19), defScope (top 19), [], []⟩
def d__law_amount : He.DefD := ⟨("_law_amount", none), "_law_amount", "_law_amount", defArgs (top 20), defBody (top 20), defScope (top 20), [], []⟩
def d__law_planted : He.DefD := ⟨("_law_planted", none), "_law_planted", "_law_planted", defArgs (top 21), defBody (top 21), defScope (top 21), [], []⟩
def d__law_free : He.DefD := ⟨("_law_free", none), "_law_free", "_law_free", defArgs (top 22), defBody (top 22), defScope (top 22), [], []⟩
def d__law_looped : He.DefD := ⟨("_law_looped", none), "_law_looped", "_law_looped", defArgs (top 23), defBody (top 23), defScope (top 23), [], []⟩
def d__law_is_closed : He.DefD := ⟨("_law_is_closed", none), "_law_is_closed", "_law_is_closed", defArgs (top 24), defBody (top 24), defScope (top 24), [], []⟩
def d__law_keeps : He.DefD := ⟨("_law_keeps", none), "_law_keeps", "_law_keeps", defArgs (top 25), defBody (top 25), defScope (top 25), [], []⟩
def d__law_refused : He.DefD := ⟨("_law_refused", none), "_law_refused", "_law_refused", defArgs (top 26), defBody (top 26), defScope (top 26), [], []⟩
def d__law_bad : He.DefD := ⟨("_law_bad", none), "_law_bad", "_law_bad", defArgs (top 27), defBody (top 27), defScope (top 27), [], []⟩
def d__law_is_fact : He.DefD := ⟨("_law_is_fact", none), "_law_is_fact", "_law_is_fact", defArgs (top 28), defBody (top 28), defScope (top 28), [], []⟩
def d__law_refuses : He.DefD := ⟨("_law_refuses", none), "_law_refuses", "_law_refuses", defArgs (top 29), defBody (top 29), defScope (top 29), [], []⟩
def d_law : He.DefD := ⟨("law", none), "law", "law", defArgs (top 30), defBody (top 30), defScope (top 30), [], []⟩
def fnL : List He.DefD := [d_BadFact___init__, d_is_integer, d_is_fact, d_check_facts, d_relaxed, d_ring_behind, d_ring, d_solution, d_is_ring, d__law_state, d__law_draw, d__law_number, d__law_is_integer, d__law_strange, d__law_size, d__law_amount, d__law_planted, d__law_free, d__law_looped, d__law_is_closed, d__law_keeps, d__law_refused, d__law_bad, d__law_is_fact, d__law_refuses, d_law]
def faL : List He.Fa := [.glo "HallError", .glo "BadFact", .glo "is_integer", .glo "is_fact", .glo "check_facts", .glo "relaxed", .glo "ring_behind", .glo "ring", .glo "solution", .glo "is_ring", .glo "_law_state", .glo "_law_draw", .glo "_law_number", .glo "_law_is_integer", .glo "_law_strange", .glo "_law_size", .glo "_law_amount", .glo "_law_planted", .glo "_law_free", .glo "_law_looped", .glo "_law_is_closed", .glo "_law_keeps", .glo "_law_refused", .glo "_law_bad", .glo "_law_is_fact", .glo "_law_refuses", .glo "law", .free "len", .free "list", .free "int", .free "tuple", .free "all", .free "range", .free "isinstance", .free "enumerate", .free "bool", .exm "BadFact" "BadFact" true]
def gtL : List GetD := []
def looseL : List Str := ([("__name__" : Str), ("HallError" : Str), ("BadFact" : Str), ("is_integer" : Str), ("is_fact" : Str), ("check_facts" : Str), ("relaxed" : Str), ("ring_behind" : Str), ("ring" : Str), ("solution" : Str), ("is_ring" : Str), ("_law_state" : Str), ("_law_draw" : Str), ("_law_number" : Str), ("_law_is_integer" : Str), ("_law_strange" : Str), ("_law_size" : Str), ("_law_amount" : Str), ("_law_planted" : Str), ("_law_free" : Str), ("_law_looped" : Str), ("_law_is_closed" : Str), ("_law_keeps" : Str), ("_law_refused" : Str), ("_law_bad" : Str), ("_law_is_fact" : Str), ("_law_refuses" : Str)] : List Str) ++ ([] : List Str)
abbrev RR : PySem.W.OpenRow := PySem.W.OpenLaw.row PySem.Challenge.rw_asofhall_k20_rings_or_solutions
def exL : List (PySem.W.Frag → Bool) := [fun K => oexB K (He.ga K "BadFact"), fun K => oexI K (He.ga K "BadFact") "at"]
def exK (K : PySem.W.Frag) : Bool := exL.all fun f => f K
abbrev hkL : PySem.W.Hook := hookP 6 faL fnL gtL exK
def obL (s : PySem.W.SharedT) : He.AlX × (Bool × List He.FnW) := obsP 6 faL fnL gtL exK (HandSHeadRun.getT s)
theorem ob_eqL (s : PySem.W.SharedT) : obL s = hkL.obs s.abs := obsP_eq (HandSHeadRun.getT_eq s)
theorem runL (w : World) : HandSHeadRun.RunEq RR (PySem.W.view RR.prog [30]) hkL obL 4000 looseL w := by
  intro os
  kernel_rfl
end Law

set_option Elab.async false
set_option linter.all false
set_option maxRecDepth 100000
set_option maxHeartbeats 1000000
/-! Vs: value semantics with ownership over the hand layer: plain data, owned things, states. -/
namespace Vs
open PySem L2
abbrev Fg := PySem.W.Frag

/-- plain data -/
inductive D where
  | non | bl (b : Bool) | int (i : Int) | str (x : Str) | ty (n : String)
  | lst (xs : List D) | tup (xs : List D) | dic (kvs : List (Key × D)) | obj (C : Addr) (fs : List (Str × D))
/-- what a name or an expression holds: shared data; an owned list, dict, instance; what slot i owns -/
inductive A where
  | v (d : D)
  | lst (xs : List D) | dic (kvs : List (Key × D)) | obj (C : Addr) (fs : List (Str × A))
  | loc (i : Nat)

mutual
def Rep (K : Fg) (S : Hp) : D → V → Prop
  | .non, v => v = .non
  | .bl b, v => v = .bl b
  | .int i, v => v = .int i
  | .str x, v => v = .str x
  | .ty n, v => v = .ty n
  | .lst xs, v => ∃ a vs, v = .ref a ∧ SqL K S a vs ∧ RepL K S xs vs
  | .tup xs, v => ∃ a vs, v = .ref a ∧ SqT K S a vs ∧ RepL K S xs vs
  | .dic kvs, v => ∃ a ws, v = .ref a ∧ Rd S a (.dK ws) ∧ RepK K S kvs ws
  | .obj C fs, v => ∃ a dx ws, v = .ref a ∧ S a = some (.ins C dx ws) ∧ RepF K S fs ws
def RepL (K : Fg) (S : Hp) : List D → List V → Prop
  | [], vs => vs = []
  | x :: xs, vs => ∃ v r, vs = v :: r ∧ Rep K S x v ∧ RepL K S xs r
def RepK (K : Fg) (S : Hp) : List (Key × D) → List (Key × V) → Prop
  | [], vs => vs = []
  | (k, x) :: xs, vs => ∃ v r, vs = (k, v) :: r ∧ Rep K S x v ∧ RepK K S xs r
def RepF (K : Fg) (S : Hp) : List (Str × D) → List (Str × V) → Prop
  | [], vs => vs = []
  | (k, x) :: xs, vs => ∃ v r, vs = (k, v) :: r ∧ Rep K S x v ∧ RepF K S xs r
end
mutual
def A.toD : A → D
  | .v d => d
  | .lst xs => .lst xs
  | .dic kvs => .dic kvs
  | .obj C fs => .obj C (A.toDs fs)
  | .loc _ => .non
def A.toDs : List (Str × A) → List (Str × D)
  | [] => []
  | (k, x) :: r => (k, x.toD) :: A.toDs r
end
mutual
def RepA (K : Fg) (S H : Hp) : A → V → List Addr → Prop
  | .v d, v, fp => Rep K S d v ∧ fp = []
  | .lst xs, v, fp => ∃ a vs, v = .ref a ∧ H a = some (.lst vs) ∧ RepL K S xs vs ∧ fp = [a]
  | .dic kvs, v, fp => ∃ a ws, v = .ref a ∧ H a = some (.dK ws) ∧ RepK K S kvs ws ∧ fp = [a]
  | .obj C fs, v, fp => ∃ a dx ws g, v = .ref a ∧ H a = some (.ins C dx ws) ∧ RepAF K S H fs ws g ∧ fp = a :: g
  | .loc _, _, _ => False
def RepAF (K : Fg) (S H : Hp) : List (Str × A) → List (Str × V) → List Addr → Prop
  | [], vs, fp => vs = [] ∧ fp = []
  | (k, x) :: xs, vs, fp => ∃ v r g h, vs = (k, v) :: r ∧ RepA K S H x v g ∧ RepAF K S H xs r h ∧ fp = g ++ h
end

/-! ### heaps -/
/-- S is part of H; a dict may be locked there -/
def Le (S H : Hp) : Prop := ∀ a o, S a = some o → H a = some o ∨ ∃ ob ws, o = .dK ws ∧ H a = some (.frz ob (.dK ws))
theorem Le.of_same {S H : Hp} (h : Same S H) : Le S H := fun a o e => .inl (h a o e)
theorem Same.up {H : Hp} {p : Addr} {o : HO} (h : H p = none) : Same H (upd H p o) := fun a u e => by
  rw [upd_ne (ne_of_none e h)]; exact e
theorem Le.up {S H : Hp} {p : Addr} {o : HO} (h : Le S H) (hn : S p = none) : Le S (upd H p o) := fun a u e => by
  have ne : a ≠ p := ne_of_none e hn
  rcases h a u e with q | ⟨ob, ws, q1, q2⟩
  · exact .inl (by rw [upd_ne ne]; exact q)
  · exact .inr ⟨ob, ws, q1, by rw [upd_ne ne]; exact q2⟩
theorem Le.none {S H : Hp} {p : Addr} (h : Le S H) (hn : H p = none) : S p = none := by
  cases e : S p with
  | none => rfl
  | some o =>
    rcases h p o e with q | ⟨_, _, _, q⟩
    · rw [hn] at q; cases q
    · rw [hn] at q; cases q
theorem Same.none {S H : Hp} {p : Addr} (h : Same S H) (hn : H p = none) : S p = none := by
  cases e : S p with
  | none => rfl
  | some o => have := h p o e; rw [hn] at this; cases this
theorem Le.trans {S S' H : Hp} (h : Same S S') (h' : Le S' H) : Le S H := fun a o e => h' a o (h a o e)
theorem Rd.le {S H : Hp} {a : Addr} {u : HO} (hl : Le S H) (hu : (∃ xs, u = .lst xs) ∨ (∃ xs, u = .tup xs) ∨ ∃ ws, u = .dK ws) (h : Rd S a u) : Rd H a u := by
  rcases h with h | ⟨o, h⟩
  · rcases hl a u h with q | ⟨ob, ws, q1, q2⟩
    · exact .inl q
    · subst q1; exact .inr ⟨ob, q2⟩
  · rcases hl a _ h with q | ⟨ob, ws, q1, q2⟩
    · exact .inr ⟨o, q⟩
    · cases q1
theorem SqL.le {K : Fg} {S H : Hp} {a : Addr} {xs : List V} (hl : Le S H) (h : SqL K S a xs) : SqL K H a xs := by
  rcases h with h | h
  · exact .inl (Rd.le hl (.inl ⟨_, rfl⟩) h)
  · exact .inr h
theorem SqT.le {K : Fg} {S H : Hp} {a : Addr} {xs : List V} (hl : Le S H) (h : SqT K S a xs) : SqT K H a xs := by
  rcases h with h | h
  · exact .inl (Rd.le hl (.inr (.inl ⟨_, rfl⟩)) h)
  · exact .inr h
theorem ins_le {S H : Hp} {a C dx : Addr} {ws : List (Str × V)} (hl : Le S H) (h : S a = some (.ins C dx ws)) : H a = some (.ins C dx ws) := by
  rcases hl a _ h with q | ⟨_, _, q1, _⟩
  · exact q
  · cases q1
/-! ### data stay while the heap grows -/
section
variable {K : Fg} {S H : Hp}
mutual
theorem Rep.le (hl : Le S H) : ∀ (d : D) (v : V), Rep K S d v → Rep K H d v
  | .non, v, h => by simpa only [Rep] using h
  | .bl _, v, h => by simpa only [Rep] using h
  | .int _, v, h => by simpa only [Rep] using h
  | .str _, v, h => by simpa only [Rep] using h
  | .ty _, v, h => by simpa only [Rep] using h
  | .lst xs, v, h => by
    simp only [Rep] at h ⊢
    obtain ⟨a, vs, e, h1, h2⟩ := h
    exact ⟨a, vs, e, SqL.le hl h1, RepL.le hl xs vs h2⟩
  | .tup xs, v, h => by
    simp only [Rep] at h ⊢
    obtain ⟨a, vs, e, h1, h2⟩ := h
    exact ⟨a, vs, e, SqT.le hl h1, RepL.le hl xs vs h2⟩
  | .dic xs, v, h => by
    simp only [Rep] at h ⊢
    obtain ⟨a, vs, e, h1, h2⟩ := h
    exact ⟨a, vs, e, Rd.le hl (.inr (.inr ⟨_, rfl⟩)) h1, RepK.le hl xs vs h2⟩
  | .obj C fs, v, h => by
    simp only [Rep] at h ⊢
    obtain ⟨a, dx, vs, e, h1, h2⟩ := h
    exact ⟨a, dx, vs, e, ins_le hl h1, RepF.le hl fs vs h2⟩
theorem RepL.le (hl : Le S H) : ∀ (xs : List D) (vs : List V), RepL K S xs vs → RepL K H xs vs
  | [], vs, h => by simpa only [RepL] using h
  | x :: xs, vs, h => by
    simp only [RepL] at h ⊢
    obtain ⟨v, r, e, h1, h2⟩ := h
    exact ⟨v, r, e, Rep.le hl x v h1, RepL.le hl xs r h2⟩
theorem RepK.le (hl : Le S H) : ∀ (xs : List (Key × D)) (vs : List (Key × V)), RepK K S xs vs → RepK K H xs vs
  | [], vs, h => by simpa only [RepK] using h
  | (k, x) :: xs, vs, h => by
    simp only [RepK] at h ⊢
    obtain ⟨v, r, e, h1, h2⟩ := h
    exact ⟨v, r, e, Rep.le hl x v h1, RepK.le hl xs r h2⟩
theorem RepF.le (hl : Le S H) : ∀ (xs : List (Str × D)) (vs : List (Str × V)), RepF K S xs vs → RepF K H xs vs
  | [], vs, h => by simpa only [RepF] using h
  | (k, x) :: xs, vs, h => by
    simp only [RepF] at h ⊢
    obtain ⟨v, r, e, h1, h2⟩ := h
    exact ⟨v, r, e, Rep.le hl x v h1, RepF.le hl xs r h2⟩
end
mutual
/-- an owned thing stays while S grows and its own cells are as they were -/
theorem RepA.keep {S' H' : Hp} (hs : Same S S') : ∀ (x : A) (v : V) (fp : List Addr), (∀ a ∈ fp, H' a = H a) → RepA K S H x v fp → RepA K S' H' x v fp
  | .v d, v, fp, _, h => by
    simp only [RepA] at h ⊢
    exact ⟨Rep.le (Le.of_same hs) d v h.1, h.2⟩
  | .lst xs, v, fp, hk, h => by
    simp only [RepA] at h ⊢
    obtain ⟨a, vs, e, h1, h2, h3⟩ := h
    exact ⟨a, vs, e, by rw [hk a (by simp [h3])]; exact h1, RepL.le (Le.of_same hs) xs vs h2, h3⟩
  | .dic xs, v, fp, hk, h => by
    simp only [RepA] at h ⊢
    obtain ⟨a, vs, e, h1, h2, h3⟩ := h
    exact ⟨a, vs, e, by rw [hk a (by simp [h3])]; exact h1, RepK.le (Le.of_same hs) xs vs h2, h3⟩
  | .obj C fs, v, fp, hk, h => by
    simp only [RepA] at h ⊢
    obtain ⟨a, dx, vs, g, e, h1, h2, h3⟩ := h
    exact ⟨a, dx, vs, g, e, by rw [hk a (by simp [h3])]; exact h1, RepAF.keep hs fs vs g (fun b hb => hk b (by simp [h3, hb])) h2, h3⟩
  | .loc i, v, fp, hk, h => by
    simp only [RepA] at h
theorem RepAF.keep {S' H' : Hp} (hs : Same S S') : ∀ (xs : List (Str × A)) (vs : List (Str × V)) (fp : List Addr), (∀ a ∈ fp, H' a = H a) → RepAF K S H xs vs fp → RepAF K S' H' xs vs fp
  | [], vs, fp, _, h => by simpa only [RepAF] using h
  | (k, x) :: xs, vs, fp, hk, h => by
    simp only [RepAF] at h ⊢
    obtain ⟨v, r, g, g', e, h1, h2, h3⟩ := h
    exact ⟨v, r, g, g', e, RepA.keep hs x v g (fun b hb => hk b (by simp [h3, hb])) h1, RepAF.keep hs xs r g' (fun b hb => hk b (by simp [h3, hb])) h2, h3⟩
end
mutual
/-- the own cells stand in H -/
theorem RepA.there : ∀ (x : A) (v : V) (fp : List Addr), RepA K S H x v fp → ∀ a ∈ fp, H a ≠ none
  | .v d, v, fp, h, a, ha => by
    simp only [RepA] at h
    simp [h.2] at ha
  | .lst xs, v, fp, h, b, hb => by
    simp only [RepA] at h
    obtain ⟨a, vs, e, h1, h2, h3⟩ := h
    have : b = a := by simpa [h3] using hb
    rw [this, h1]; simp
  | .dic xs, v, fp, h, b, hb => by
    simp only [RepA] at h
    obtain ⟨a, vs, e, h1, h2, h3⟩ := h
    have : b = a := by simpa [h3] using hb
    rw [this, h1]; simp
  | .obj C fs, v, fp, h, b, hb => by
    simp only [RepA] at h
    obtain ⟨a, dx, vs, g, e, h1, h2, h3⟩ := h
    rw [h3] at hb
    rcases List.mem_cons.mp hb with q | q
    · rw [q, h1]; simp
    · exact RepAF.there fs vs g h2 b q
  | .loc i, v, fp, h, _, _ => by
    simp only [RepA] at h
theorem RepAF.there : ∀ (xs : List (Str × A)) (vs : List (Str × V)) (fp : List Addr), RepAF K S H xs vs fp → ∀ a ∈ fp, H a ≠ none
  | [], vs, fp, h, a, ha => by
    simp only [RepAF] at h
    simp [h.2] at ha
  | (k, x) :: xs, vs, fp, h, a, ha => by
    simp only [RepAF] at h
    obtain ⟨v, r, g, g', e, h1, h2, h3⟩ := h
    rw [h3] at ha
    rcases List.mem_append.mp ha with q | q
    · exact RepA.there x v g h1 a q
    · exact RepAF.there xs r g' h2 a q
end
mutual
theorem RepA.fp_eq : ∀ (x : A) (v : V) (f g : List Addr), RepA K S H x v f → RepA K S H x v g → f = g
  | .v d, v, f, g, h, h2 => by
    simp only [RepA] at h h2
    rw [h.2, h2.2]
  | .lst xs, v, f, g, h, h2 => by
    simp only [RepA] at h h2
    obtain ⟨a, vs, e, _, _, h3⟩ := h
    obtain ⟨b, ws, e2, _, _, h4⟩ := h2
    rw [e] at e2; cases e2
    rw [h3, h4]
  | .dic xs, v, f, g, h, h2 => by
    simp only [RepA] at h h2
    obtain ⟨a, vs, e, _, _, h3⟩ := h
    obtain ⟨b, ws, e2, _, _, h4⟩ := h2
    rw [e] at e2; cases e2
    rw [h3, h4]
  | .obj C fs, v, f, g, h, h2 => by
    simp only [RepA] at h h2
    obtain ⟨a, dx, vs, g1, e, h1, q1, h3⟩ := h
    obtain ⟨b, dy, ws, g2, e2, h4, q2, h5⟩ := h2
    rw [e] at e2; cases e2
    rw [h1] at h4; cases h4
    rw [h3, h5, RepAF.fp_eq fs vs g1 g2 q1 q2]
  | .loc i, v, f, g, h, _ => by
    simp only [RepA] at h
theorem RepAF.fp_eq : ∀ (xs : List (Str × A)) (vs : List (Str × V)) (f g : List Addr), RepAF K S H xs vs f → RepAF K S H xs vs g → f = g
  | [], vs, f, g, h, h2 => by
    simp only [RepAF] at h h2
    rw [h.2, h2.2]
  | (k, x) :: xs, vs, f, g, h, h2 => by
    simp only [RepAF] at h h2
    obtain ⟨v, r, g1, g2, e, a1, a2, a3⟩ := h
    obtain ⟨v2, r2, g3, g4, e2, b1, b2, b3⟩ := h2
    rw [e] at e2
    injection e2 with e3 e4
    injection e3 with _ e5
    subst e4 e5
    rw [a3, b3, RepA.fp_eq x v g1 g3 a1 b1, RepAF.fp_eq xs r g2 g4 a2 b2]
end
/-- the own cells of a thing, added to the shared part -/
def addF (S H : Hp) (fp : List Addr) : Hp := fun a => if a ∈ fp then H a else S a
theorem addF_in {fp : List Addr} {a : Addr} (h : a ∈ fp) : addF S H fp a = H a := if_pos h
theorem addF_out {fp : List Addr} {a : Addr} (h : a ∉ fp) : addF S H fp a = S a := if_neg h
theorem addF_same {fp : List Addr} (h : ∀ a ∈ fp, S a = none) : Same S (addF S H fp) := fun a o e => by
  by_cases q : a ∈ fp
  · rw [h a q] at e; cases e
  · rw [addF_out q]; exact e
theorem addF_le {fp : List Addr} (hl : Le S H) : Le (addF S H fp) H := fun a o e => by
  by_cases q : a ∈ fp
  · rw [addF_in q] at e; exact .inl e
  · rw [addF_out q] at e; exact hl a o e
mutual
/-- an owned thing seen as plain data, in any heap that has S and its cells -/
theorem RepA.plain {T : Hp} (hs : Le S T) : ∀ (x : A) (v : V) (fp : List Addr), (∀ a ∈ fp, ∀ o, H a = some o → T a = some o) → RepA K S H x v fp → Rep K T x.toD v
  | .v d, v, fp, _, h => by
    simp only [RepA] at h
    exact Rep.le hs d v h.1
  | .lst xs, v, fp, hk, h => by
    simp only [RepA] at h
    obtain ⟨a, vs, e, h1, h2, h3⟩ := h
    simp only [A.toD, Rep]
    exact ⟨a, vs, e, SqL.of (hk a (by simp [h3]) _ h1), RepL.le hs xs vs h2⟩
  | .dic xs, v, fp, hk, h => by
    simp only [RepA] at h
    obtain ⟨a, vs, e, h1, h2, h3⟩ := h
    simp only [A.toD, Rep]
    exact ⟨a, vs, e, .inl (hk a (by simp [h3]) _ h1), RepK.le hs xs vs h2⟩
  | .obj C fs, v, fp, hk, h => by
    simp only [RepA] at h
    obtain ⟨a, dx, vs, g, e, h1, h2, h3⟩ := h
    simp only [A.toD, Rep]
    exact ⟨a, dx, vs, e, hk a (by simp [h3]) _ h1, RepAF.plain hs fs vs g (fun b hb => hk b (by simp [h3, hb])) h2⟩
  | .loc i, v, fp, hk, h => by
    simp only [RepA] at h
theorem RepAF.plain {T : Hp} (hs : Le S T) : ∀ (xs : List (Str × A)) (vs : List (Str × V)) (fp : List Addr), (∀ a ∈ fp, ∀ o, H a = some o → T a = some o) → RepAF K S H xs vs fp → RepF K T (A.toDs xs) vs
  | [], vs, fp, _, h => by
    simp only [RepAF] at h
    simpa only [A.toDs, RepF] using h.1
  | (k, x) :: xs, vs, fp, hk, h => by
    simp only [RepAF] at h
    obtain ⟨v, r, g, g', e, h1, h2, h3⟩ := h
    simp only [A.toDs, RepF]
    exact ⟨v, r, e, RepA.plain hs x v g (fun b hb => hk b (by simp [h3, hb])) h1, RepAF.plain hs xs r g' (fun b hb => hk b (by simp [h3, hb])) h2⟩
end
end

/-! ### resources -/
/-- several things, each with its own cells -/
def RepP (K : Fg) (S H : Hp) : List (V × A) → List Addr → Prop
  | [], fp => fp = []
  | (v, x) :: r, fp => ∃ g h, RepA K S H x v g ∧ RepP K S H r h ∧ fp = g ++ h
section
variable {K : Fg} {S H : Hp}
theorem RepP.perm {ps qs : List (V × A)} (p : ps.Perm qs) : ∀ {fp : List Addr}, RepP K S H ps fp → ∃ fq, RepP K S H qs fq ∧ fp.Perm fq := by
  induction p with
  | nil => intro fp h; exact ⟨fp, h, .refl _⟩
  | cons x p ih =>
    obtain ⟨v, x⟩ := x
    intro fp h
    obtain ⟨g, h', h1, h2, h3⟩ := h
    obtain ⟨fq, q1, q2⟩ := ih h2
    exact ⟨g ++ fq, ⟨g, fq, h1, q1, rfl⟩, by rw [h3]; exact List.Perm.append_left _ q2⟩
  | swap x y l =>
    obtain ⟨v, x⟩ := x
    obtain ⟨u, y⟩ := y
    intro fp h
    obtain ⟨g, h', h1, ⟨g2, h4, h5, h6, h7⟩, h3⟩ := h
    subst h7 h3
    refine ⟨g2 ++ (g ++ h4), ⟨g2, g ++ h4, h5, ⟨g, h4, h1, h6, rfl⟩, rfl⟩, ?_⟩
    rw [← List.append_assoc, ← List.append_assoc]
    exact List.Perm.append_right _ List.perm_append_comm
  | trans p q ih1 ih2 =>
    intro fp h
    obtain ⟨f1, h1, p1⟩ := ih1 h
    obtain ⟨f2, h2, p2⟩ := ih2 h1
    exact ⟨f2, h2, p1.trans p2⟩
theorem RepP.append {ps qs : List (V × A)} : ∀ {fp : List Addr}, RepP K S H (ps ++ qs) fp → ∃ f1 f2, RepP K S H ps f1 ∧ RepP K S H qs f2 ∧ fp = f1 ++ f2 := by
  induction ps with
  | nil => intro fp h; exact ⟨[], fp, rfl, h, rfl⟩
  | cons x ps ih =>
    obtain ⟨v, x⟩ := x
    intro fp h
    obtain ⟨g, h', h1, h2, h3⟩ := h
    obtain ⟨f1, f2, q1, q2, q3⟩ := ih h2
    exact ⟨g ++ f1, f2, ⟨g, f1, h1, q1, rfl⟩, q2, by rw [h3, q3, List.append_assoc]⟩
theorem RepP.join {ps qs : List (V × A)} : ∀ {f1 f2 : List Addr}, RepP K S H ps f1 → RepP K S H qs f2 → RepP K S H (ps ++ qs) (f1 ++ f2) := by
  induction ps with
  | nil => intro f1 f2 h1 h2; cases h1; exact h2
  | cons x ps ih =>
    obtain ⟨v, x⟩ := x
    intro f1 f2 h1 h2
    obtain ⟨g, h', q1, q2, q3⟩ := h1
    exact ⟨g, h' ++ f2, q1, ih q2 h2, by rw [q3, List.append_assoc]⟩
theorem RepP.keep {S' H' : Hp} (hs : Same S S') : ∀ {ps : List (V × A)} {fp : List Addr}, (∀ a ∈ fp, H' a = H a) → RepP K S H ps fp → RepP K S' H' ps fp := by
  intro ps
  induction ps with
  | nil => intro fp _ h; exact h
  | cons x ps ih =>
    obtain ⟨v, x⟩ := x
    intro fp hk h
    obtain ⟨g, h', h1, h2, h3⟩ := h
    subst h3
    exact ⟨g, h', h1.keep hs x v g (fun a ha => hk a (List.mem_append_left _ ha)), ih (fun a ha => hk a (List.mem_append_right _ ha)) h2, rfl⟩
theorem RepP.there : ∀ {ps : List (V × A)} {fp : List Addr}, RepP K S H ps fp → ∀ a ∈ fp, H a ≠ none := by
  intro ps
  induction ps with
  | nil => intro fp h a ha; cases h; simp at ha
  | cons x ps ih =>
    obtain ⟨v, x⟩ := x
    intro fp h a ha
    obtain ⟨g, h', h1, h2, h3⟩ := h
    subst h3
    rcases List.mem_append.mp ha with q | q
    · exact h1.there x v g a q
    · exact ih h2 a q
end

/-! ### the state -/
abbrev AEnv := List (Option A)
/-- the names' things -/
def envP : AEnv → L2.St → List (V × A)
  | some x :: ρ, some v :: σ => (v, x) :: envP ρ σ
  | _ :: ρ, _ :: σ => envP ρ σ
  | _, _ => []
/-- every name that holds a thing holds a value -/
def EnvOk : AEnv → L2.St → Prop
  | [], σ => σ = []
  | o :: ρ, σ => ∃ w r, σ = w :: r ∧ (∀ x, o = some x → (∃ v, w = some v) ∧ ∀ i, x ≠ .loc i) ∧ EnvOk ρ r
/-- what is held beside: owned or shared things; loc: the value of slot i -/
def tmpP (τ : List (V × A)) : List (V × A) := τ.filter fun p => match p.2 with
  | .loc _ => false
  | _ => true
/-- what does not change through a def's body -/
structure Ctx where
  R : Hp
  S0 : Hp
  os : List (Nat × V)
structure Stt (K : Fg) (c : Ctx) (S H : Hp) (σ : L2.St) (ρ : AEnv) (τ : List (V × A)) : Prop where
  own : ∃ fp, RepP K S H (envP ρ σ ++ tmpP τ) fp ∧ fp.Nodup ∧ ∀ a ∈ fp, S a = none ∧ c.R a = none
  env : EnvOk ρ σ
  loc : ∀ v i, (v, .loc i) ∈ τ → σ[i]? = some (some v) ∧ ∃ y, ρ[i]? = some (some y)
  le : Le S H
  r : Same c.R H
  new : ∀ a, c.R a ≠ none → S a = c.S0 a
  up : Same c.S0 S
  os : ∀ p ∈ c.os, σ[p.1]? = some (some p.2)

end Vs

set_option Elab.async false
set_option linter.all false
set_option maxRecDepth 100000
set_option maxHeartbeats 1000000
/-! Vs: moves of states. -/
namespace Vs
open PySem L2
/-! ### the names' things, one taken out -/
theorem envP_some : ∀ {ρ : AEnv} {σ : L2.St} {i : Nat} {y : A} {v : V}, i < ρ.length → σ[i]? = some (some v) → (envP (ρ.set i (some y)) σ).Perm ((v, y) :: envP (ρ.set i none) σ)
  | [], _, _, _, _, h, _ => by simp at h
  | o :: ρ, [], _, _, _, _, h => by simp at h
  | o :: ρ, w :: σ, 0, y, v, _, h => by
    have e : w = some v := by simpa using h
    subst e
    simp only [List.set_cons_zero, envP]
    exact .refl _
  | o :: ρ, w :: σ, i + 1, y, v, hl, h => by
    have ih := envP_some (ρ := ρ) (σ := σ) (i := i) (y := y) (v := v) (by simpa using hl) (by simpa using h)
    simp only [List.set_cons_succ]
    cases o with
    | none => cases w <;> simpa only [envP] using ih
    | some x =>
      cases w with
      | none => simpa only [envP] using ih
      | some u =>
        simp only [envP]
        exact (List.Perm.cons _ ih).trans (.swap _ _ _)
theorem envP_none : ∀ {ρ : AEnv} {σ : L2.St} {i : Nat} {w : Option V}, envP (ρ.set i none) (σ.set i w) = envP (ρ.set i none) σ
  | [], _, _, _ => by simp [envP]
  | o :: ρ, [], i, _ => by simp
  | o :: ρ, u :: σ, 0, w => by cases u <;> cases w <;> simp [envP]
  | o :: ρ, u :: σ, i + 1, w => by
    have ih := envP_none (ρ := ρ) (σ := σ) (i := i) (w := w)
    simp only [List.set_cons_succ]
    cases o <;> cases u <;> simp [envP, ih]
theorem set_self : ∀ {ρ : AEnv} {i : Nat} {o : Option A}, ρ[i]? = some o → ρ.set i o = ρ
  | [], _, _, h => by simp at h
  | a :: ρ, 0, o, h => by
    have e : a = o := by simpa using h
    simp [e]
  | a :: ρ, i + 1, o, h => by
    simp only [List.set_cons_succ]
    rw [set_self (ρ := ρ) (i := i) (o := o) (by simpa using h)]
theorem lt_of_get {α : Type} {l : List α} {i : Nat} {x : α} (h : l[i]? = some x) : i < l.length := (List.getElem?_eq_some_iff.mp h).1
theorem envP_take {ρ : AEnv} {σ : L2.St} {i : Nat} {y : A} {v : V} (h : ρ[i]? = some (some y)) (hv : σ[i]? = some (some v)) : (envP ρ σ).Perm ((v, y) :: envP (ρ.set i none) σ) := by
  have p := envP_some (ρ := ρ) (σ := σ) (i := i) (y := y) (v := v) (lt_of_get h) hv
  rwa [set_self h] at p
/-- where a name holds nothing -/
theorem envP_unset : ∀ {ρ : AEnv} {σ : L2.St} {i : Nat}, ρ[i]? = some none → ρ.set i none = ρ := fun h => set_self h
theorem set_set {α : Type} (l : List α) (i : Nat) (a b : α) : (l.set i a).set i b = l.set i b := by simp
theorem EnvOk.get : ∀ {ρ : AEnv} {σ : L2.St} {i : Nat} {y : A}, EnvOk ρ σ → ρ[i]? = some (some y) → (∃ v, σ[i]? = some (some v)) ∧ ∀ j, y ≠ .loc j
  | [], _, _, _, _, h => by simp at h
  | o :: ρ, σ, 0, y, he, h => by
    obtain ⟨w, r, rfl, h1, h2⟩ := he
    have e : o = some y := by simpa using h
    obtain ⟨⟨v, hv⟩, h3⟩ := h1 y e
    exact ⟨⟨v, by simp [hv]⟩, h3⟩
  | o :: ρ, σ, i + 1, y, he, h => by
    obtain ⟨w, r, rfl, h1, h2⟩ := he
    obtain ⟨⟨v, hv⟩, h3⟩ := h2.get (i := i) (y := y) (by simpa using h)
    exact ⟨⟨v, by simpa using hv⟩, h3⟩
theorem EnvOk.len : ∀ {ρ : AEnv} {σ : L2.St}, EnvOk ρ σ → σ.length = ρ.length
  | [], σ, h => by cases h; rfl
  | o :: ρ, σ, h => by
    obtain ⟨w, r, rfl, h1, h2⟩ := h
    simp [h2.len]
/-- one name's thing is exchanged -/
theorem EnvOk.put : ∀ {ρ : AEnv} {σ : L2.St} {i : Nat} {o : Option A}, EnvOk ρ σ → (∀ y, o = some y → (∃ v, σ[i]? = some (some v)) ∧ ∀ j, y ≠ .loc j) → EnvOk (ρ.set i o) σ
  | [], _, _, _, he, _ => by simpa using he
  | u :: ρ, σ, 0, o, he, h => by
    obtain ⟨w, r, rfl, h1, h2⟩ := he
    refine ⟨w, r, rfl, fun y hy => ?_, h2⟩
    obtain ⟨⟨v, hv⟩, h3⟩ := h y hy
    exact ⟨⟨v, by simpa using hv⟩, h3⟩
  | u :: ρ, σ, i + 1, o, he, h => by
    obtain ⟨w, r, rfl, h1, h2⟩ := he
    refine ⟨w, r, rfl, h1, h2.put (i := i) (o := o) fun y hy => ?_⟩
    obtain ⟨⟨v, hv⟩, h3⟩ := h y hy
    exact ⟨⟨v, by simpa using hv⟩, h3⟩
/-- a name gets a value -/
theorem EnvOk.store : ∀ {ρ : AEnv} {σ : L2.St} {i : Nat} {o : Option A} {w : Option V}, EnvOk ρ σ → (∀ y, o = some y → (∃ v, w = some v) ∧ ∀ j, y ≠ .loc j) → EnvOk (ρ.set i o) (σ.set i w)
  | [], σ, _, _, _, he, _ => by
    cases he
    simp [EnvOk]
  | u :: ρ, σ, 0, o, w', he, h => by
    obtain ⟨w, r, rfl, h1, h2⟩ := he
    exact ⟨w', r, rfl, h, h2⟩
  | u :: ρ, σ, i + 1, o, w', he, h => by
    obtain ⟨w, r, rfl, h1, h2⟩ := he
    exact ⟨w, r.set i w', rfl, h1, h2.store (i := i) (o := o) (w := w') h⟩

theorem RepA.ofv {K : Fg} {S H : Hp} {d : D} {v : V} (h : Rep K S d v) : RepA K S H (.v d) v [] := by
  simp only [RepA]
  exact ⟨h, trivial⟩
def isLoc : A → Bool
  | .loc _ => true
  | _ => false
theorem tmpP_cons {v : V} {x : A} {τ : List (V × A)} (h : isLoc x = false) : tmpP ((v, x) :: τ) = (v, x) :: tmpP τ := by
  cases x <;> first | rfl | cases h
theorem tmpP_loc {v : V} {i : Nat} {τ : List (V × A)} : tmpP ((v, .loc i) :: τ) = tmpP τ := rfl
theorem isLoc_of {x : A} (h : ∀ j, x ≠ .loc j) : isLoc x = false := by
  cases x <;> first | rfl | exact absurd rfl (h _)
theorem not_loc {x : A} (h : isLoc x = false) : ∀ j, x ≠ .loc j := by
  intro j e; subst e; cases h

section
variable {K : Fg} {c : Ctx} {S H : Hp} {σ : L2.St} {ρ : AEnv} {τ : List (V × A)} {v : V} {x y : A} {i : Nat}
theorem loc_tail {α : Type} {P : V → Nat → Prop} (h : ∀ v' i, (v', A.loc i) ∈ (v, x) :: τ → P v' i) : ∀ v' i, (v', A.loc i) ∈ τ → P v' i := fun v' i m => h v' i (List.mem_cons_of_mem _ m)
/-- what is held is let go -/
theorem Stt.drop (s : Stt K c S H σ ρ ((v, x) :: τ)) : Stt K c S H σ ρ τ := by
  refine ⟨?_, s.env, fun v' i m => s.loc v' i (List.mem_cons_of_mem _ m), s.le, s.r, s.new, s.up, s.os⟩
  obtain ⟨fp, h1, h2, h3⟩ := s.own
  by_cases hx : isLoc x = true
  · cases x with
    | loc j => exact ⟨fp, h1, h2, h3⟩
    | _ => cases hx
  · have hx' : isLoc x = false := by simpa using hx
    rw [tmpP_cons hx'] at h1
    obtain ⟨fq, q1, q2⟩ := RepP.perm (List.perm_middle (l₁ := envP ρ σ) (a := (v, x)) (l₂ := tmpP τ)) h1
    obtain ⟨g, h', a1, a2, a3⟩ := q1
    subst a3
    have nd : (g ++ h').Nodup := q2.nodup_iff.mp h2
    exact ⟨h', a2, (List.nodup_append.mp nd).2.1, fun a ha => h3 a (q2.symm.subset (List.mem_append_right _ ha))⟩
theorem Stt.drops {τ' : List (V × A)} : ∀ {ts : List (V × A)}, Stt K c S H σ ρ (ts ++ τ') → Stt K c S H σ ρ τ'
  | [], s => s
  | (v, x) :: ts, s => Stt.drops (ts := ts) s.drop
/-- one held thing ahead: its own cells, those of all else -/
theorem Stt.top (s : Stt K c S H σ ρ ((v, x) :: τ)) (hx : isLoc x = false) :
    ∃ g h, RepA K S H x v g ∧ RepP K S H (envP ρ σ ++ tmpP τ) h ∧ (g ++ h).Nodup ∧ ∀ a ∈ g ++ h, S a = none ∧ c.R a = none := by
  obtain ⟨fp, h1, h2, h3⟩ := s.own
  rw [tmpP_cons hx] at h1
  obtain ⟨fq, q1, q2⟩ := RepP.perm (List.perm_middle (l₁ := envP ρ σ) (a := (v, x)) (l₂ := tmpP τ)) h1
  obtain ⟨g, h', a1, a2, a3⟩ := q1
  subst a3
  exact ⟨g, h', a1, a2, q2.nodup_iff.mp h2, fun a ha => h3 a (q2.symm.subset ha)⟩
/-- from such parts a state -/
theorem Stt.push {S' H' : Hp} {ρ' : AEnv} {τ' : List (V × A)} {g h : List Addr} (hx : isLoc x = false) (h1 : RepA K S' H' x v g) (h2 : RepP K S' H' (envP ρ' σ ++ tmpP τ') h) (nd : (g ++ h).Nodup)
    (h3 : ∀ a ∈ g ++ h, S' a = none ∧ c.R a = none) (he : EnvOk ρ' σ) (hl : ∀ v i, (v, .loc i) ∈ τ' → σ[i]? = some (some v) ∧ ∃ y, ρ'[i]? = some (some y)) (le : Le S' H') (r : Same c.R H') (new : ∀ a, c.R a ≠ none → S' a = c.S0 a) (up : Same c.S0 S')
    (os : ∀ p ∈ c.os, σ[p.1]? = some (some p.2)) : Stt K c S' H' σ ρ' ((v, x) :: τ') := by
  refine ⟨?_, he, fun v' j m => ?_, le, r, new, up, os⟩
  · obtain ⟨fq, q1, q2⟩ := RepP.perm (List.perm_middle (l₁ := envP ρ' σ) (a := (v, x)) (l₂ := tmpP τ')).symm (show RepP K S' H' ((v, x) :: (envP ρ' σ ++ tmpP τ')) (g ++ h) from ⟨g, h, h1, h2, rfl⟩)
    exact ⟨fq, by rw [tmpP_cons hx]; exact q1, q2.nodup_iff.mp nd, fun a ha => h3 a (q2.symm.subset ha)⟩
  · rcases List.mem_cons.mp m with q | q
    · injection q with q1 q2; subst q2; cases hx
    · exact hl v' j q
/-- a shared datum is held -/
theorem Stt.hold {d : D} (s : Stt K c S H σ ρ τ) (h : Rep K S d v) : Stt K c S H σ ρ ((v, .v d) :: τ) := by
  obtain ⟨fp, h1, h2, h3⟩ := s.own
  exact Stt.push (g := []) (h := fp) rfl (RepA.ofv h) h1 (by simpa using h2) (by simpa using h3) s.env s.loc s.le s.r s.new s.up s.os
/-- what is held is shared data: they stand in S -/
theorem Stt.data {d : D} (s : Stt K c S H σ ρ ((v, .v d) :: τ)) : Rep K S d v := by
  obtain ⟨g, h, h1, _⟩ := s.top rfl
  simp only [RepA] at h1
  exact h1.1
theorem Stt.dataMem {d : D} (s : Stt K c S H σ ρ τ) (m : (v, .v d) ∈ τ) : Rep K S d v := by
  obtain ⟨fp, h1, _, _⟩ := s.own
  have m2 : (v, A.v d) ∈ envP ρ σ ++ tmpP τ := List.mem_append_right _ (List.mem_filter.mpr ⟨m, rfl⟩)
  have key : ∀ (ps : List (V × A)) (fp : List Addr), RepP K S H ps fp → (v, A.v d) ∈ ps → Rep K S d v := by
    intro ps
    induction ps with
    | nil => intro _ _ z; simp at z
    | cons p ps ih =>
      obtain ⟨u, y⟩ := p
      intro fp h z
      obtain ⟨g, h', a1, a2, _⟩ := h
      rcases List.mem_cons.mp z with q | q
      · injection q with q1 q2; subst q1 q2
        simp only [RepA] at a1
        exact a1.1
      · exact ih h' a2 q
  exact key _ _ h1 m2
/-- a slot that holds shared data -/
theorem Stt.slot {d : D} (s : Stt K c S H σ ρ τ) (h : ρ[i]? = some (some (.v d))) : ∃ v, σ[i]? = some (some v) ∧ Rep K S d v := by
  obtain ⟨⟨v, hv⟩, _⟩ := s.env.get h
  refine ⟨v, hv, ?_⟩
  obtain ⟨fp, h1, _, _⟩ := s.own
  obtain ⟨f1, f2, q1, q2, q3⟩ := h1.append
  obtain ⟨fq, z1, z2⟩ := RepP.perm (envP_take h hv) q1
  obtain ⟨g, h', a1, _, _⟩ := z1
  simp only [RepA] at a1
  exact a1.1
/-- an order of what is held -/
theorem Stt.swap {τ' : List (V × A)} (s : Stt K c S H σ ρ τ) (p : τ.Perm τ') : Stt K c S H σ ρ τ' := by
  refine ⟨?_, s.env, fun v' i m => s.loc v' i (p.symm.subset m), s.le, s.r, s.new, s.up, s.os⟩
  obtain ⟨fp, h1, h2, h3⟩ := s.own
  obtain ⟨fq, q1, q2⟩ := RepP.perm (List.Perm.append_left (envP ρ σ) (p.filter _)) h1
  exact ⟨fq, q1, q2.nodup_iff.mp h2, fun a ha => h3 a (q2.symm.subset ha)⟩
/-- what a thing is now -/
def dat (x : A) (ρ : AEnv) : Option D := match x with
  | .loc i => (match ρ[i]? with
    | some (some y) => some y.toD
    | _ => none)
  | y => some y.toD
theorem RepP.pick {ps : List (V × A)} : ∀ {fp : List Addr}, RepP K S H ps fp → (v, x) ∈ ps → ∃ g, RepA K S H x v g ∧ ∀ a ∈ g, a ∈ fp := by
  induction ps with
  | nil => intro _ _ z; simp at z
  | cons p ps ih =>
    obtain ⟨u, y⟩ := p
    intro fp h z
    obtain ⟨g, h', a1, a2, a3⟩ := h
    subst a3
    rcases List.mem_cons.mp z with q | q
    · injection q with q1 q2; subst q1 q2
      exact ⟨g, a1, fun a ha => List.mem_append_left _ ha⟩
    · obtain ⟨g', b1, b2⟩ := ih a2 q
      exact ⟨g', b1, fun a ha => List.mem_append_right _ (b2 a ha)⟩
/-- .. in the heap -/
theorem Stt.dat {d : D} (s : Stt K c S H σ ρ τ) (m : (v, x) ∈ τ) (h : dat x ρ = some d) : Rep K H d v := by
  obtain ⟨fp, h1, _, _⟩ := s.own
  cases hx : isLoc x with
  | false =>
    have e : x.toD = d := by
      cases x <;> first | exact Option.some.inj h | cases hx
    have m2 : (v, x) ∈ envP ρ σ ++ tmpP τ := List.mem_append_right _ (List.mem_filter.mpr ⟨m, by cases x <;> first | rfl | cases hx⟩)
    obtain ⟨g, a1, _⟩ := h1.pick m2
    rw [← e]
    exact a1.plain s.le x v g (fun _ _ _ q => q)
  | true =>
    cases x with
    | loc i =>
      obtain ⟨hv, y, hy⟩ := s.loc v i m
      have e : y.toD = d := by
        simp only [Vs.dat, hy] at h
        exact Option.some.inj h
      obtain ⟨f1, f2, q1, q2, q3⟩ := h1.append
      obtain ⟨fq, z1, z2⟩ := RepP.perm (envP_take hy hv) q1
      obtain ⟨g, h', a1, _, _⟩ := z1
      rw [← e]
      exact a1.plain s.le y v g (fun _ _ _ q => q)
    | _ => cases hx

/-! ### new cells -/
theorem Stt.fresh (s : Stt K c S H σ ρ τ) {p : Addr} (h : H p = none) : S p = none ∧ c.R p = none ∧ ∀ fp, RepP K S H (envP ρ σ ++ tmpP τ) fp → p ∉ fp :=
  ⟨s.le.none h, Same.none s.r h, fun fp q z => q.there p z h⟩
/-- a new owned cell -/
theorem Stt.alloc {p : Addr} {o : HO} (s : Stt K c S H σ ρ τ) (hp : H p = none) (hx : isLoc x = false) (h : RepA K S (upd H p o) x (.ref p) [p]) : Stt K c S (upd H p o) σ ρ ((.ref p, x) :: τ) := by
  obtain ⟨f1, f2, f3⟩ := s.fresh hp
  obtain ⟨fp, h1, h2, h3⟩ := s.own
  have np := f3 fp h1
  refine Stt.push (g := [p]) (h := fp) hx h ?_ ?_ ?_ s.env s.loc (s.le.up f1) (fun a o e => ?_) s.new s.up s.os
  · exact h1.keep (Same.refl S) fun a ha => upd_ne (fun z => np (z ▸ ha))
  · exact List.nodup_cons.mpr ⟨np, h2⟩
  · intro a ha
    rcases List.mem_cons.mp ha with q | q
    · exact ⟨by rw [q]; exact f1, by rw [q]; exact f2⟩
    · exact h3 a q
  · rw [upd_ne (ne_of_none e f2)]; exact s.r a o e
/-- a new shared cell -/
theorem Stt.share {p : Addr} {o : HO} {d : D} (s : Stt K c S H σ ρ τ) (hp : H p = none) (h : Rep K (upd S p o) d (.ref p)) : Stt K c (upd S p o) (upd H p o) σ ρ ((.ref p, .v d) :: τ) := by
  obtain ⟨f1, f2, f3⟩ := s.fresh hp
  obtain ⟨fp, h1, h2, h3⟩ := s.own
  have np := f3 fp h1
  refine Stt.push (g := []) (h := fp) rfl (RepA.ofv h) ?_ (by simpa using h2) ?_ s.env s.loc ?_ (fun a o e => ?_) (fun a ha => ?_) (fun a u e => ?_) s.os
  · exact h1.keep (Same.up f1) fun a ha => upd_ne (fun z => np (z ▸ ha))
  · intro a ha
    have ha : a ∈ fp := by simpa using ha
    obtain ⟨q1, q2⟩ := h3 a ha
    exact ⟨by rw [upd_ne (show a ≠ p from fun z => np (z ▸ ha))]; exact q1, q2⟩
  · intro a u e
    by_cases q : a = p
    · subst q
      rw [upd_same] at e
      exact .inl (by rw [upd_same]; exact e)
    · rw [upd_ne q] at e
      rcases s.le a u e with z | ⟨ob, ws, z1, z2⟩
      · exact .inl (by rw [upd_ne q]; exact z)
      · exact .inr ⟨ob, ws, z1, by rw [upd_ne q]; exact z2⟩
  · rw [upd_ne (ne_of_none e f2)]; exact s.r a o e
  · rw [upd_ne (show a ≠ p from fun z => ha (by rw [z]; exact f2))]; exact s.new a ha
  · rw [upd_ne (ne_of_none (s.up a u e) f1)]; exact s.up a u e
/-- an untracked cell comes beside (an instance's own dict) -/
theorem Stt.beside {p : Addr} {o : HO} (s : Stt K c S H σ ρ τ) (hp : H p = none) : Stt K c S (upd H p o) σ ρ τ := by
  obtain ⟨f1, f2, f3⟩ := s.fresh hp
  obtain ⟨fp, h1, h2, h3⟩ := s.own
  have np := f3 fp h1
  refine ⟨⟨fp, h1.keep (Same.refl S) fun a ha => upd_ne (fun z => np (z ▸ ha)), h2, h3⟩, s.env, s.loc, s.le.up f1, fun a o e => ?_, s.new, s.up, s.os⟩
  rw [upd_ne (ne_of_none e f2)]; exact s.r a o e

/-! ### a held thing becomes shared -/
theorem Stt.freeze (s : Stt K c S H σ ρ ((v, x) :: τ)) (hx : isLoc x = false) : ∃ S', Same S S' ∧ Stt K c S' H σ ρ ((v, .v x.toD) :: τ) := by
  obtain ⟨g, h, h1, h2, nd, h3⟩ := s.top hx
  have hg : ∀ a ∈ g, S a = none := fun a ha => (h3 a (List.mem_append_left _ ha)).1
  have sm : Same S (addF S H g) := addF_same hg
  refine ⟨addF S H g, sm, Stt.push (g := []) (h := h) rfl ?_ (h2.keep sm fun _ _ => rfl) (List.nodup_append.mp nd).2.1 ?_ s.env (fun v' i m => s.loc v' i (List.mem_cons_of_mem _ m)) (addF_le s.le) s.r (fun a ha => ?_) (fun a o e => sm a o (s.up a o e)) s.os⟩
  · exact RepA.ofv (h1.plain (Le.of_same sm) x v g fun a ha o e => by rw [addF_in ha]; exact e)
  · intro a ha
    have ha : a ∈ h := by simpa using ha
    have ng : a ∉ g := fun z => (List.nodup_append.mp nd).2.2 a z a ha rfl
    exact ⟨by rw [addF_out ng]; exact (h3 a (List.mem_append_right _ ha)).1, (h3 a (List.mem_append_right _ ha)).2⟩
  · have ng : a ∉ g := fun z => ha (h3 a (List.mem_append_left _ z)).2
    rw [addF_out ng]; exact s.new a ha
/-- a slot's thing is taken into the hand -/
theorem Stt.takeSlot (s : Stt K c S H σ ρ τ) (h : ρ[i]? = some (some y)) (hv : σ[i]? = some (some v)) (hn : ∀ u, (u, A.loc i) ∉ τ) : Stt K c S H σ (ρ.set i none) ((v, y) :: τ) := by
  have hy := isLoc_of (s.env.get h).2
  refine ⟨?_, s.env.put (fun _ e => nomatch e), fun v' j m => ?_, s.le, s.r, s.new, s.up, s.os⟩
  · obtain ⟨fp, h1, h2, h3⟩ := s.own
    have p : (envP ρ σ ++ tmpP τ).Perm (envP (ρ.set i none) σ ++ tmpP ((v, y) :: τ)) := by
      rw [tmpP_cons hy]
      exact (List.Perm.append_right _ (envP_take h hv)).trans List.perm_middle.symm
    obtain ⟨fq, q1, q2⟩ := RepP.perm p h1
    exact ⟨fq, q1, q2.nodup_iff.mp h2, fun a ha => h3 a (q2.symm.subset ha)⟩
  · rcases List.mem_cons.mp m with q | q
    · injection q with q1 q2; subst q2; cases hy
    · obtain ⟨z1, z2, z3⟩ := s.loc v' j q
      have ne : i ≠ j := fun e => hn v' (e ▸ q)
      exact ⟨z1, z2, by rw [List.getElem?_set_ne ne]; exact z3⟩
/-- .. and put back, or another thing of the same value -/
theorem Stt.putSlot (s : Stt K c S H σ ρ ((v, y) :: τ)) (h : ρ[i]? = some none) (hv : σ[i]? = some (some v)) (hy : isLoc y = false) : Stt K c S H σ (ρ.set i (some y)) τ := by
  refine ⟨?_, s.env.put (fun z e => by cases e; exact ⟨⟨v, hv⟩, not_loc hy⟩), fun v' j m => ?_, s.le, s.r, s.new, s.up, s.os⟩
  · obtain ⟨fp, h1, h2, h3⟩ := s.own
    have p : (envP ρ σ ++ tmpP ((v, y) :: τ)).Perm (envP (ρ.set i (some y)) σ ++ tmpP τ) := by
      rw [tmpP_cons hy]
      have q := envP_some (ρ := ρ) (σ := σ) (i := i) (y := y) (v := v) (lt_of_get h) hv
      rw [set_self h] at q
      exact List.perm_middle.trans (List.Perm.append_right _ q.symm)
    obtain ⟨fq, q1, q2⟩ := RepP.perm p h1
    exact ⟨fq, q1, q2.nodup_iff.mp h2, fun a ha => h3 a (q2.symm.subset ha)⟩
  · obtain ⟨z1, z, z2⟩ := s.loc v' j (List.mem_cons_of_mem _ m)
    by_cases e : i = j
    · subst e; exact ⟨z1, y, by rw [List.getElem?_set_self (lt_of_get h)]⟩
    · exact ⟨z1, z, by rw [List.getElem?_set_ne e]; exact z2⟩
/-- a slot's thing is exchanged for what is done with it -/
theorem Stt.slotTo {S' H' : Hp} {y' : A} (s : Stt K c S H σ ρ τ) (h : ρ[i]? = some (some y)) (hv : σ[i]? = some (some v))
    (step : ∀ g f, RepA K S H y v g → RepP K S H (envP (ρ.set i none) σ ++ tmpP τ) f → (g ++ f).Nodup → (∀ a ∈ g ++ f, S a = none ∧ c.R a = none) →
      ∃ g', RepA K S' H' y' v g' ∧ (g' ++ f).Nodup ∧ (∀ a ∈ g' ++ f, S' a = none ∧ c.R a = none) ∧ (∀ a ∈ f, H' a = H a) ∧ Same S S' ∧ Le S' H' ∧ Same c.R H' ∧ ∀ a, c.R a ≠ none → S' a = c.S0 a)
    (hy : isLoc y' = false) : Stt K c S' H' σ (ρ.set i (some y')) τ := by
  obtain ⟨fp, h1, h2, h3⟩ := s.own
  have p : (envP ρ σ ++ tmpP τ).Perm ((v, y) :: (envP (ρ.set i none) σ ++ tmpP τ)) := List.Perm.append_right _ (envP_take h hv)
  obtain ⟨fq, q1, q2⟩ := RepP.perm p h1
  obtain ⟨g, f, a1, a2, a3⟩ := q1
  subst a3
  obtain ⟨g', b1, b2, b3, b4, b5, b6, b7, b8⟩ := step g f a1 a2 (q2.nodup_iff.mp h2) (fun a ha => h3 a (q2.symm.subset ha))
  have p2 : ((v, y') :: (envP (ρ.set i none) σ ++ tmpP τ)).Perm (envP (ρ.set i (some y')) σ ++ tmpP τ) := List.Perm.append_right _ (envP_some (lt_of_get h) hv).symm
  obtain ⟨fr, c1, c2⟩ := RepP.perm p2 (show RepP K S' H' ((v, y') :: (envP (ρ.set i none) σ ++ tmpP τ)) (g' ++ f) from ⟨g', f, b1, a2.keep b5 b4, rfl⟩)
  refine ⟨⟨fr, c1, c2.nodup_iff.mp b2, fun a ha => b3 a (c2.symm.subset ha)⟩, s.env.put (fun z e => by cases e; exact ⟨⟨v, hv⟩, not_loc hy⟩), fun v' j m => ?_, b6, b7, b8, fun a o e => b5 a o (s.up a o e), s.os⟩
  obtain ⟨z1, z, z2⟩ := s.loc v' j m
  by_cases e : i = j
  · subst e; exact ⟨z1, y', by rw [List.getElem?_set_self (lt_of_get h)]⟩
  · exact ⟨z1, z, by rw [List.getElem?_set_ne e]; exact z2⟩
/-- a slot's thing becomes shared -/
theorem Stt.freezeSlot (s : Stt K c S H σ ρ τ) (h : ρ[i]? = some (some y)) : ∃ S', Same S S' ∧ Stt K c S' H σ (ρ.set i (some (.v y.toD))) τ := by
  obtain ⟨⟨v, hv⟩, hy⟩ := s.env.get h
  obtain ⟨fp, h1, h2, h3⟩ := s.own
  have p : (envP ρ σ ++ tmpP τ).Perm ((v, y) :: (envP (ρ.set i none) σ ++ tmpP τ)) := List.Perm.append_right _ (envP_take h hv)
  obtain ⟨fq, q1, q2⟩ := RepP.perm p h1
  obtain ⟨g, f, a1, a2, a3⟩ := q1
  refine ⟨addF S H g, addF_same fun a ha => (h3 a (q2.symm.subset (by rw [a3]; exact List.mem_append_left _ ha))).1, s.slotTo (y' := .v y.toD) h hv (fun g' f' b1 b2 nd b3 => ?_) rfl⟩
  have eg : g' = g := RepA.fp_eq y v g' g b1 a1
  subst eg
  have hg : ∀ a ∈ g', S a = none := fun a ha => (b3 a (List.mem_append_left _ ha)).1
  have sm : Same S (addF S H g') := addF_same hg
  refine ⟨[], ?_, by simpa using (List.nodup_append.mp nd).2.1, fun a ha => ?_, fun _ _ => rfl, sm, addF_le s.le, s.r, fun a ha => ?_⟩
  · exact RepA.ofv (b1.plain (Le.of_same sm) y v g' fun a ha o e => by rw [addF_in ha]; exact e)
  · have ha : a ∈ f' := by simpa using ha
    have ng : a ∉ g' := fun z => (List.nodup_append.mp nd).2.2 a z a ha rfl
    exact ⟨by rw [addF_out ng]; exact (b3 a (List.mem_append_right _ ha)).1, (b3 a (List.mem_append_right _ ha)).2⟩
  · have ng : a ∉ g' := fun z => ha (b3 a (List.mem_append_left _ z)).2
    rw [addF_out ng]; exact s.new a ha
end
end Vs

set_option Elab.async false
set_option linter.all false
set_option maxRecDepth 100000
set_option maxHeartbeats 1000000
/-! Vs: promises on plain data, a call. -/
namespace Vs
open PySem L2
/-! ### what is wanted -/
abbrev AX := Addr → List (Str × D) → AEnv → Prop
abbrev AK := A → AEnv → Prop
abbrev AE := AX → AEnv → AK → Prop
abbrev AT := AX → AEnv → (Bool → AEnv → Prop) → Prop
abbrev AA := AX → AEnv → (List A → AEnv → Prop) → Prop
structure AEnds where
  nx : AEnv → Prop
  rt : A → AEnv → Prop
  bk : AEnv → Prop
  ct : AEnv → Prop
  ex : AX
abbrev AS := AEnds → AEnv → Prop
/-- what an exception's own dict tells -/
def XD (K : Fg) (S H : Hp) (dd : Option Addr) (fs : List (Str × D)) : Prop := (fs = [] ∧ dd = none) ∨ ∃ d ws, dd = some d ∧ H d = some (.xd ws) ∧ RepF K S fs ws
def XOk (K : Fg) (c : Ctx) (W : WX) (EA : AX) : Prop := ∀ S H σ ρ C fs dd, Stt K c S H σ ρ [] → XD K S H dd fs → EA C fs ρ → W (.ref C) dd σ H
/-- what follows an expression -/
def KE (K : Fg) (c : Ctx) (σ : L2.St) (τ : List (V × A)) (Q : AK) : VK := fun v H => ∃ S ρ x, Stt K c S H σ ρ ((v, x) :: τ) ∧ Q x ρ
def KT (K : Fg) (c : Ctx) (σ : L2.St) (τ : List (V × A)) (Q : Bool → AEnv → Prop) : Bool → Hp → Prop := fun b H => ∃ S ρ, Stt K c S H σ ρ τ ∧ Q b ρ
def KA (K : Fg) (c : Ctx) (σ : L2.St) (τ : List (V × A)) (Q : List A → AEnv → Prop) : List V → Hp → Prop := fun vs H => ∃ S ρ xs, vs.length = xs.length ∧ Stt K c S H σ ρ (vs.zip xs ++ τ) ∧ Q xs ρ
/-- the wish about exceptions; the slots that are never stored to -/
structure OL where
  l : List Nat
  J : Hp → Hp → L2.St → Prop
  un : ∀ S H σ d o ws, H d = some (.frz o (.dK ws)) → J S (upd H d (.dK ws)) σ → J S H σ
instance : Membership Nat OL := ⟨fun o i => i ∈ o.l⟩
instance : Coe (List Nat) OL := ⟨fun l => ⟨l, fun _ _ _ => True, fun _ _ _ _ _ _ _ _ => trivial⟩⟩
structure Pm where
  W : WX
  O : OL
def OsIn (K : Fg) (c : Ctx) (O : OL) : Prop := (∀ p ∈ c.os, p.1 ∈ O) ∧ (∀ j ∈ O, ∃ v, (j, v) ∈ c.os) ∧ ∀ S H σ ρ τ, Stt K c S H σ ρ τ → O.J S H σ
def SimE (K : Fg) (P : Pm) (te : TE) (ae : AE) : Prop := ∀ c EA, OsIn K c P.O → XOk K c P.W EA → ∀ τ S H σ ρ Q (R : VK), Stt K c S H σ ρ τ → ae EA ρ Q → (∀ v H', KE K c σ τ Q v H' → R v H') → te σ H R
def SimT (K : Fg) (P : Pm) (tt : TT) (at_ : AT) : Prop := ∀ c EA, OsIn K c P.O → XOk K c P.W EA → ∀ τ S H σ ρ Q (R : Bool → Hp → Prop), Stt K c S H σ ρ τ → at_ EA ρ Q → (∀ b H', KT K c σ τ Q b H' → R b H') → tt σ H R
def SimA (K : Fg) (P : Pm) (ta : TA) (aa : AA) : Prop := ∀ c EA, OsIn K c P.O → XOk K c P.W EA → ∀ τ S H σ ρ Q (R : List V → Hp → Prop), Stt K c S H σ ρ τ → aa EA ρ Q → (∀ vs H', KA K c σ τ Q vs H' → R vs H') → ta σ H R
/-- the ends of a statement -/
structure Link (K : Fg) (c : Ctx) (D : Ends) (DA : AEnds) : Prop where
  nx : ∀ S H σ ρ, Stt K c S H σ ρ [] → DA.nx ρ → D.nx σ H
  rt : ∀ S H σ ρ v x, Stt K c S H σ ρ [(v, x)] → isLoc x = false → DA.rt x ρ → D.rt v H
  bk : ∀ S H σ ρ, Stt K c S H σ ρ [] → DA.bk ρ → D.bk σ H
  ct : ∀ S H σ ρ, Stt K c S H σ ρ [] → DA.ct ρ → D.ct σ H
def SimS (K : Fg) (P : Pm) (ts : TS) (as : AS) : Prop := ∀ c D DA, OsIn K c P.O → XOk K c P.W DA.ex → Link K c D DA → ∀ S H σ ρ, Stt K c S H σ ρ [] → as DA ρ → ts D σ H

/-! ### promises -/
structure ASp where
  pre : List A → Prop
  post : List A → A → List A → Prop
  exc : List A → Addr → List (Str × D) → List A → Prop := fun _ _ _ _ => False
def lift (K : Fg) (sp : ASp) : Sp := fun vs H Q E => ∃ (c : Ctx) (S : Hp) (xs : List A), vs.length = xs.length ∧ c.os = [] ∧ Stt K c S H (vs.map some) (xs.map some) [] ∧ Same c.S0 S ∧ Same S c.S0 ∧ sp.pre xs ∧
  (∀ r xs' v H' S', sp.post xs r xs' → vs.length = xs'.length → isLoc r = false → Stt K c S' H' (vs.map some) (xs'.map some) [(v, r)] → Q v H') ∧
  (∀ C fs xs' dd H' S', sp.exc xs C fs xs' → vs.length = xs'.length → Stt K c S' H' (vs.map some) (xs'.map some) [] → XD K S' H' dd fs → E (.ref C) dd H')

theorem lift_mono {K : Fg} {sp : ASp} {vs : List V} {H : Hp} {Q Q' : VK} {E E' : XK} (h : lift K sp vs H Q E) (hq : ∀ v H, Q v H → Q' v H) (he : ∀ a b H, E a b H → E' a b H) : lift K sp vs H Q' E' := by
  obtain ⟨c, S, xs, h1, h2, h3, h4, h5, h6, h7, h8⟩ := h
  exact ⟨c, S, xs, h1, h2, h3, h4, h5, h6, fun r xs' v H' S' a b d e => hq _ _ (h7 r xs' v H' S' a b d e), fun C fs xs' dd H' S' a b d e => he _ _ _ (h8 C fs xs' dd H' S' a b d e)⟩
/-! ### how arguments are passed: an owned thing is handed over, and handed back -/
def pass : List A → AEnv → Option (List A × AEnv)
  | [], ρ => some ([], ρ)
  | .loc i :: xs, ρ => (match ρ[i]? with
    | some (some y) => (match pass xs (ρ.set i none) with
      | some (ys, ρ') => some (y :: ys, ρ')
      | none => none)
    | _ => none)
  | x :: xs, ρ => (match pass xs ρ with
    | some (ys, ρ') => some (x :: ys, ρ')
    | none => none)
/-- what was handed over comes back -/
def give : List A → List A → AEnv → AEnv
  | .loc i :: xs, y :: ys, ρ => give xs ys (ρ.set i (some y))
  | _ :: xs, _ :: ys, ρ => give xs ys ρ
  | _, _, ρ => ρ
/-! ### a call -/
theorem zip_some : ∀ {vs : List V} {xs : List A}, vs.length = xs.length → envP (xs.map some) (vs.map some) = vs.zip xs
  | [], [], _ => rfl
  | [], _ :: _, h => by simp at h
  | _ :: _, [], h => by simp at h
  | v :: vs, x :: xs, h => by
    simp only [List.map_cons, envP, List.zip_cons_cons]
    rw [zip_some (by simpa using h)]
theorem envOk_some : ∀ {vs : List V} {xs : List A}, vs.length = xs.length → (∀ x ∈ xs, isLoc x = false) → EnvOk (xs.map some) (vs.map some)
  | [], [], _, _ => rfl
  | [], _ :: _, h, _ => by simp at h
  | _ :: _, [], h, _ => by simp at h
  | v :: vs, x :: xs, h, hx => ⟨some v, vs.map some, rfl, fun y e => by
      have e2 : x = y := Option.some.inj e
      exact ⟨⟨v, rfl⟩, e2 ▸ not_loc (hx x (by simp))⟩, envOk_some (by simpa using h) fun y hy => hx y (by simp [hy])⟩
theorem EnvOk.noloc : ∀ {xs : List A} {σ : L2.St}, EnvOk (xs.map some) σ → ∀ x ∈ xs, isLoc x = false
  | [], _, _, x, hx => by simp at hx
  | y :: xs, σ, h, x, hx => by
    obtain ⟨w, r, rfl, h1, h2⟩ := h
    rcases List.mem_cons.mp hx with e | e
    · rw [e]; exact isLoc_of (h1 y rfl).2
    · exact EnvOk.noloc h2 x e
/-- S without some cells -/
def cutF (S : Hp) (fp : List Addr) : Hp := fun a => if a ∈ fp then none else S a
section
variable {K : Fg} {c : Ctx} {S H : Hp} {σ : L2.St} {ρ : AEnv} {τ : List (V × A)}
theorem cutF_in {fp : List Addr} {a : Addr} (h : a ∈ fp) : cutF S fp a = none := if_pos h
theorem cutF_out {fp : List Addr} {a : Addr} (h : a ∉ fp) : cutF S fp a = S a := if_neg h
theorem RepP.noloc : ∀ {vs : List V} {xs : List A} {fp : List Addr}, vs.length = xs.length → RepP K S H (vs.zip xs) fp → ∀ x ∈ xs, isLoc x = false
  | [], [], _, _, _, x, hx => by simp at hx
  | [], _ :: _, _, h, _, _, _ => by simp at h
  | _ :: _, [], _, h, _, _, _ => by simp at h
  | v :: vs, y :: xs, fp, hl, h, x, hx => by
    obtain ⟨g, f, h1, h2, _⟩ := h
    rcases List.mem_cons.mp hx with e | e
    · rw [e]
      cases y <;> first | rfl | (simp only [RepA] at h1)
    · exact RepP.noloc (by simpa using hl) h2 x e
theorem pass_len : ∀ {xs : List A} {ρ ρ' : AEnv} {ys : List A}, pass xs ρ = some (ys, ρ') → ys.length = xs.length
  | [], ρ, ρ', ys, h => by
    simp only [pass] at h
    injection h with h3
    injection h3 with h4 h5
    rw [← h4]
  | x :: xs, ρ, ρ', ys, h => by
    cases hx : isLoc x with
    | false =>
      have e : pass (x :: xs) ρ = (match pass xs ρ with
        | some (ys, ρ') => some (x :: ys, ρ')
        | none => none) := by cases x <;> first | rfl | cases hx
      rw [e] at h
      cases q : pass xs ρ with
      | none => rw [q] at h; cases h
      | some z =>
        obtain ⟨zs, ρ1⟩ := z
        rw [q] at h
        injection h with h3
        injection h3 with h4 h5
        rw [← h4]
        simp [pass_len q]
    | true =>
      cases x with
      | loc i =>
        cases hy : ρ[i]? with
        | none => simp [pass, hy] at h
        | some o =>
          cases o with
          | none => simp [pass, hy] at h
          | some y =>
            simp only [pass, hy] at h
            cases q : pass xs (ρ.set i none) with
            | none => rw [q] at h; cases h
            | some z =>
              obtain ⟨zs, ρ1⟩ := z
              rw [q] at h
              injection h with h3
              injection h3 with h4 h5
              rw [← h4]
              simp [pass_len q]
      | _ => cases hx
/-- the things: what is handed over, and the rest -/
theorem pass_perm : ∀ {xs : List A} {vs : List V} {ρ ρ' : AEnv} {ys : List A}, vs.length = xs.length → pass xs ρ = some (ys, ρ') → (∀ v i, (v, A.loc i) ∈ vs.zip xs → σ[i]? = some (some v)) →
    (envP ρ σ ++ tmpP (vs.zip xs)).Perm (vs.zip ys ++ envP ρ' σ)
  | [], vs, ρ, ρ', ys, hl, h, _ => by
    have e : vs = [] := by simpa using hl
    subst e
    simp only [pass] at h
    injection h with h3
    injection h3 with h4 h5
    subst h4 h5
    simp [tmpP]
  | x :: xs, [], ρ, ρ', ys, hl, h, _ => by simp at hl
  | x :: xs, v :: vs, ρ, ρ', ys, hl, h, hs => by
    have hl' : vs.length = xs.length := by simpa using hl
    have hs' : ∀ v i, (v, A.loc i) ∈ vs.zip xs → σ[i]? = some (some v) := fun v i q => hs v i (by simp [q])
    cases hx : isLoc x with
    | false =>
      have e : pass (x :: xs) ρ = (match pass xs ρ with
        | some (ys, ρ') => some (x :: ys, ρ')
        | none => none) := by cases x <;> first | rfl | cases hx
      rw [e] at h
      cases q : pass xs ρ with
      | none => rw [q] at h; cases h
      | some z =>
        obtain ⟨zs, ρ1⟩ := z
        rw [q] at h
        injection h with h3
        injection h3 with h4 h5
        subst h4 h5
        have ih := pass_perm hl' q hs'
        rw [List.zip_cons_cons, tmpP_cons hx, List.zip_cons_cons]
        exact List.perm_middle.trans (List.Perm.cons _ ih)
    | true =>
      cases x with
      | loc i =>
        have hv : σ[i]? = some (some v) := hs v i (by simp)
        rw [List.zip_cons_cons, tmpP_loc]
        cases hy : ρ[i]? with
        | none => simp [pass, hy] at h
        | some o =>
          cases o with
          | none => simp [pass, hy] at h
          | some y =>
            simp only [pass, hy] at h
            cases q : pass xs (ρ.set i none) with
            | none => rw [q] at h; cases h
            | some z =>
              obtain ⟨zs, ρ1⟩ := z
              rw [q] at h
              injection h with h3
              injection h3 with h4 h5
              subst h4 h5
              have ih := pass_perm hl' q hs'
              rw [List.zip_cons_cons]
              exact (List.Perm.append_right _ (envP_take hy hv)).trans (List.Perm.cons _ ih)
      | _ => cases hx
theorem getElem?_none_set {ρ : AEnv} {i j : Nat} (h : ρ[j]? = some none) : (ρ.set i none)[j]? = some none := by
  by_cases e : i = j
  · subst e; rw [List.getElem?_set_self (lt_of_get h)]
  · rw [List.getElem?_set_ne e]; exact h
/-- a slot that is empty stays so while others are handed over -/
theorem pass_keep : ∀ {xs : List A} {ρ ρ' : AEnv} {ys : List A}, pass xs ρ = some (ys, ρ') → ρ'.length = ρ.length ∧ (∀ j : Nat, ρ[j]? = some none → ρ'[j]? = some none) ∧ (∀ i : Nat, A.loc i ∈ xs → ρ'[i]? = some none) ∧
    (∀ j : Nat, A.loc j ∉ xs → ρ'[j]? = ρ[j]?) ∧ ∀ {σ : L2.St}, EnvOk ρ σ → EnvOk ρ' σ
  | [], ρ, ρ', ys, h => by
    simp only [pass] at h
    injection h with h3
    injection h3 with h4 h5
    subst h5
    exact ⟨rfl, fun _ q => q, fun _ q => by simp at q, fun _ _ => rfl, fun q => q⟩
  | x :: xs, ρ, ρ', ys, h => by
    cases hx : isLoc x with
    | false =>
      have e : pass (x :: xs) ρ = (match pass xs ρ with
        | some (ys, ρ') => some (x :: ys, ρ')
        | none => none) := by cases x <;> first | rfl | cases hx
      rw [e] at h
      cases q : pass xs ρ with
      | none => rw [q] at h; cases h
      | some z =>
        obtain ⟨zs, ρ1⟩ := z
        rw [q] at h
        injection h with h3
        injection h3 with h4 h5
        subst h5
        obtain ⟨a1, a2, a3, a4, a5⟩ := pass_keep q
        refine ⟨a1, a2, fun i m => ?_, fun j m => a4 j fun z => m (List.mem_cons_of_mem _ z), a5⟩
        rcases List.mem_cons.mp m with z | z
        · rw [← z] at hx; cases hx
        · exact a3 i z
    | true =>
      cases x with
      | loc i =>
        cases hy : ρ[i]? with
        | none => simp [pass, hy] at h
        | some o =>
          cases o with
          | none => simp [pass, hy] at h
          | some y =>
            simp only [pass, hy] at h
            cases q : pass xs (ρ.set i none) with
            | none => rw [q] at h; cases h
            | some z =>
              obtain ⟨zs, ρ1⟩ := z
              rw [q] at h
              injection h with h3
              injection h3 with h4 h5
              subst h5
              obtain ⟨a1, a2, a3, a4, a5⟩ := pass_keep q
              refine ⟨by simpa using a1, fun j hj => a2 j (getElem?_none_set hj), fun j m => ?_, fun j m => ?_, fun he => a5 (he.put fun _ z => nomatch z)⟩
              · rcases List.mem_cons.mp m with z | z
                · injection z with z; subst z
                  exact a2 j (by rw [List.getElem?_set_self (lt_of_get hy)])
                · exact a3 j z
              · have nj : i ≠ j := fun z => m (by simp [z])
                rw [a4 j fun z => m (List.mem_cons_of_mem _ z), List.getElem?_set_ne nj]
      | _ => cases hx
/-- no slot is handed over twice -/
theorem pass_nodup : ∀ {xs : List A} {ρ ρ' : AEnv} {ys : List A}, pass xs ρ = some (ys, ρ') → ∀ i, ρ[i]? = some none → A.loc i ∉ xs
  | [], ρ, ρ', ys, h, i, _ => by simp
  | x :: xs, ρ, ρ', ys, h, i, hi => by
    cases hx : isLoc x with
    | false =>
      have e : pass (x :: xs) ρ = (match pass xs ρ with
        | some (ys, ρ') => some (x :: ys, ρ')
        | none => none) := by cases x <;> first | rfl | cases hx
      rw [e] at h
      cases q : pass xs ρ with
      | none => rw [q] at h; cases h
      | some z =>
        intro m
        rcases List.mem_cons.mp m with z' | z'
        · rw [← z'] at hx; cases hx
        · exact pass_nodup (ρ' := z.2) (ys := z.1) q i hi z'
    | true =>
      cases x with
      | loc j =>
        cases hy : ρ[j]? with
        | none => simp [pass, hy] at h
        | some o =>
          cases o with
          | none => simp [pass, hy] at h
          | some y =>
            simp only [pass, hy] at h
            cases q : pass xs (ρ.set j none) with
            | none => rw [q] at h; cases h
            | some z =>
              intro m
              rcases List.mem_cons.mp m with z' | z'
              · injection z' with z'; subst z'; rw [hi] at hy; cases hy
              · exact pass_nodup (ρ' := z.2) (ys := z.1) q i (getElem?_none_set hi) z'
      | _ => cases hx
/-- the passed things that stand in no slot, as they are in the end -/
def backT : List A → List V → List A → List (V × A)
  | .loc _ :: xs, _ :: vs, _ :: ys => backT xs vs ys
  | _ :: xs, v :: vs, y :: ys => (v, y) :: backT xs vs ys
  | _, _, _ => []
theorem backT_cons {x y : A} {v : V} {xs ys : List A} {vs : List V} (h : isLoc x = false) : backT (x :: xs) (v :: vs) (y :: ys) = (v, y) :: backT xs vs ys := by
  cases x <;> first | rfl | cases h
/-- back: the things again -/
theorem give_perm : ∀ {xs : List A} {vs : List V} {ρ : AEnv} {ys : List A}, vs.length = xs.length → vs.length = ys.length → (∀ v i, (v, A.loc i) ∈ vs.zip xs → σ[i]? = some (some v)) → (∀ i, A.loc i ∈ xs → ρ[i]? = some none) → (xs.filter isLoc).Nodup →
    (vs.zip ys ++ envP ρ σ).Perm (backT xs vs ys ++ envP (give xs ys ρ) σ)
  | [], vs, ρ, ys, hl, hl2, _, _, _ => by
    have e : vs = [] := by simpa using hl
    subst e
    have e2 : give [] ys ρ = ρ := by cases ys <;> rfl
    rw [e2]
    simp [backT]
  | x :: xs, [], ρ, ys, hl, hl2, _, _, _ => by simp at hl
  | x :: xs, v :: vs, ρ, [], hl, hl2, _, _, _ => by simp at hl2
  | x :: xs, v :: vs, ρ, y :: ys, hl, hl2, hs, hn, hd => by
    have hl' : vs.length = xs.length := by simpa using hl
    have hl2' : vs.length = ys.length := by simpa using hl2
    have hs' : ∀ v i, (v, A.loc i) ∈ vs.zip xs → σ[i]? = some (some v) := fun v i q => hs v i (by simp [q])
    cases hx : isLoc x with
    | false =>
      have e : give (x :: xs) (y :: ys) ρ = give xs ys ρ := by cases x <;> first | rfl | cases hx
      rw [e, backT_cons hx, List.zip_cons_cons]
      rw [List.filter_cons_of_neg (by rw [hx]; exact Bool.false_ne_true)] at hd
      exact List.Perm.cons _ (give_perm hl' hl2' hs' (fun i m => hn i (List.mem_cons_of_mem _ m)) hd)
    | true =>
      cases x with
      | loc i =>
        have hv : σ[i]? = some (some v) := hs v i (by simp)
        have hi : ρ[i]? = some none := hn i (by simp)
        have hd' : A.loc i ∉ xs ∧ (xs.filter isLoc).Nodup := by
          rw [List.filter_cons_of_pos (by exact hx)] at hd
          obtain ⟨d1, d2⟩ := List.nodup_cons.mp hd
          exact ⟨fun m => d1 (List.mem_filter.mpr ⟨m, rfl⟩), d2⟩
        have hn' : ∀ j, A.loc j ∈ xs → (ρ.set i (some y))[j]? = some none := fun j m => by
          have ne : i ≠ j := fun z => hd'.1 (z ▸ m)
          rw [List.getElem?_set_ne ne]
          exact hn j (List.mem_cons_of_mem _ m)
        have ih := give_perm (ρ := ρ.set i (some y)) hl' hl2' hs' hn' hd'.2
        have p : (envP (ρ.set i (some y)) σ).Perm ((v, y) :: envP ρ σ) := by
          have q := envP_some (ρ := ρ) (σ := σ) (i := i) (y := y) (v := v) (lt_of_get hi) hv
          rwa [set_self hi] at q
        show ((v, y) :: (vs.zip ys ++ envP ρ σ)).Perm (backT xs vs ys ++ envP (give xs ys (ρ.set i (some y))) σ)
        exact (List.perm_middle.symm.trans (List.Perm.append_left _ p.symm)).trans ih
      | _ => cases hx
theorem give_ok : ∀ {xs : List A} {vs : List V} {ρ : AEnv} {ys : List A}, vs.length = xs.length → vs.length = ys.length → (∀ v i, (v, A.loc i) ∈ vs.zip xs → σ[i]? = some (some v)) → (∀ i, A.loc i ∈ xs → ρ[i]? = some none) → (xs.filter isLoc).Nodup → (∀ y ∈ ys, isLoc y = false) →
    EnvOk ρ σ → EnvOk (give xs ys ρ) σ ∧ (∀ (j : Nat) y, ρ[j]? = some (some y) → (give xs ys ρ)[j]? = some (some y)) ∧ ∀ i : Nat, A.loc i ∈ xs → ∃ y, (give xs ys ρ)[i]? = some (some y)
  | [], vs, ρ, ys, hl, hl2, _, _, _, _, he => by
    have e : give [] ys ρ = ρ := by cases ys <;> rfl
    rw [e]
    exact ⟨he, fun _ _ q => q, fun _ q => by simp at q⟩
  | x :: xs, [], ρ, ys, hl, hl2, _, _, _, _, he => by simp at hl
  | x :: xs, v :: vs, ρ, [], hl, hl2, _, _, _, _, he => by simp at hl2
  | x :: xs, v :: vs, ρ, y :: ys, hl, hl2, hs, hn, hd, hy, he => by
    have hl' : vs.length = xs.length := by simpa using hl
    have hl2' : vs.length = ys.length := by simpa using hl2
    have hs' : ∀ v i, (v, A.loc i) ∈ vs.zip xs → σ[i]? = some (some v) := fun v i q => hs v i (by simp [q])
    have hy' : ∀ y ∈ ys, isLoc y = false := fun z m => hy z (List.mem_cons_of_mem _ m)
    cases hx : isLoc x with
    | false =>
      have e : give (x :: xs) (y :: ys) ρ = give xs ys ρ := by cases x <;> first | rfl | cases hx
      rw [e]
      rw [List.filter_cons_of_neg (by rw [hx]; exact Bool.false_ne_true)] at hd
      obtain ⟨b4, b5, b6⟩ := give_ok hl' hl2' hs' (fun i m => hn i (List.mem_cons_of_mem _ m)) hd hy' he
      refine ⟨b4, b5, fun i m => ?_⟩
      rcases List.mem_cons.mp m with z | z
      · rw [← z] at hx; cases hx
      · exact b6 i z
    | true =>
      cases x with
      | loc i =>
        have hv : σ[i]? = some (some v) := hs v i (by simp)
        have hi : ρ[i]? = some none := hn i (by simp)
        have hd' : A.loc i ∉ xs ∧ (xs.filter isLoc).Nodup := by
          rw [List.filter_cons_of_pos (by exact hx)] at hd
          obtain ⟨d1, d2⟩ := List.nodup_cons.mp hd
          exact ⟨fun m => d1 (List.mem_filter.mpr ⟨m, rfl⟩), d2⟩
        have hn' : ∀ j, A.loc j ∈ xs → (ρ.set i (some y))[j]? = some none := fun j m => by
          have ne : i ≠ j := fun z => hd'.1 (z ▸ m)
          rw [List.getElem?_set_ne ne]
          exact hn j (List.mem_cons_of_mem _ m)
        obtain ⟨b4, b5, b6⟩ := give_ok hl' hl2' hs' hn' hd'.2 hy' (he.put (o := some y) (i := i) fun z e => by cases e; exact ⟨⟨v, hv⟩, not_loc (hy y (by simp))⟩)
        refine ⟨b4, fun j z hj => b5 j z ?_, fun j m => ?_⟩
        · have ne : i ≠ j := fun q => by subst q; rw [hi] at hj; cases hj
          rw [List.getElem?_set_ne ne]; exact hj
        · rcases List.mem_cons.mp m with z | z
          · injection z with z; subst z
            exact ⟨y, b5 j y (by rw [List.getElem?_set_self (lt_of_get hi)])⟩
          · exact b6 j z
      | _ => cases hx
theorem pass_locs : ∀ {xs : List A} {ρ ρ' : AEnv} {ys : List A}, pass xs ρ = some (ys, ρ') → (xs.filter isLoc).Nodup
  | [], ρ, ρ', ys, h => by simp
  | x :: xs, ρ, ρ', ys, h => by
    cases hx : isLoc x with
    | false =>
      have e : pass (x :: xs) ρ = (match pass xs ρ with
        | some (ys, ρ') => some (x :: ys, ρ')
        | none => none) := by cases x <;> first | rfl | cases hx
      rw [e] at h
      cases q : pass xs ρ with
      | none => rw [q] at h; cases h
      | some z =>
        rw [List.filter_cons_of_neg (by rw [hx]; exact Bool.false_ne_true)]
        exact pass_locs (ρ' := z.2) (ys := z.1) q
    | true =>
      cases x with
      | loc j =>
        cases hy : ρ[j]? with
        | none => simp [pass, hy] at h
        | some o =>
          cases o with
          | none => simp [pass, hy] at h
          | some y =>
            simp only [pass, hy] at h
            cases q : pass xs (ρ.set j none) with
            | none => rw [q] at h; cases h
            | some z =>
              rw [List.filter_cons_of_pos (by exact hx)]
              refine List.nodup_cons.mpr ⟨fun m => ?_, pass_locs (ρ' := z.2) (ys := z.1) q⟩
              exact pass_nodup (ρ' := z.2) (ys := z.1) q j (by rw [List.getElem?_set_self (lt_of_get hy)]) (List.mem_filter.mp m).1
      | _ => cases hx

/-- THE CALL -/
def callA (sp : ASp) (xs : List A) : AE := fun EA ρ Q => ∃ ys ρ', pass xs ρ = some (ys, ρ') ∧ sp.pre ys ∧ (∀ r ys', sp.post ys r ys' → ys'.length = ys.length → Q r (give xs ys' ρ')) ∧ ∀ C fs ys', sp.exc ys C fs ys' → ys'.length = ys.length → EA C fs (give xs ys' ρ')
theorem call_core {xs ys : List A} {vs : List V} {ρ' : AEnv} (hl : vs.length = xs.length) (s : Stt K c S H σ ρ (vs.zip xs ++ τ)) (hp : pass xs ρ = some (ys, ρ')) :
    ∃ c' : Ctx, c'.os = [] ∧ c'.S0 = S ∧ vs.length = ys.length ∧ Stt K c' S H (vs.map some) (ys.map some) [] ∧
      ∀ {H' S' : Hp} {ys' : List A} {τ' : List (V × A)}, ys'.length = ys.length → (∀ p ∈ τ', isLoc p.2 = false) → Stt K c' S' H' (vs.map some) (ys'.map some) τ' → Stt K c S' H' σ (give xs ys' ρ') (τ' ++ (backT xs vs ys' ++ τ)) := by
  obtain ⟨fp, h1, h2, h3⟩ := s.own
  have hlen : ys.length = xs.length := pass_len hp
  have hlv : vs.length = ys.length := hl.trans hlen.symm
  have hs : ∀ v i, (v, A.loc i) ∈ vs.zip xs → σ[i]? = some (some v) := fun v i m => (s.loc v i (List.mem_append_left _ m)).1
  obtain ⟨k1, k2, k3, k4, k5⟩ := pass_keep hp
  have he' : EnvOk ρ' σ := k5 s.env
  have p : (envP ρ σ ++ tmpP (vs.zip xs ++ τ)).Perm (vs.zip ys ++ (envP ρ' σ ++ tmpP τ)) := by
    have e : tmpP (vs.zip xs ++ τ) = tmpP (vs.zip xs) ++ tmpP τ := List.filter_append ..
    rw [e, ← List.append_assoc, ← List.append_assoc]
    exact List.Perm.append_right _ (pass_perm hl hp hs)
  obtain ⟨fq, q1, q2⟩ := RepP.perm p h1
  obtain ⟨fh, fr, r1, r2, r3⟩ := q1.append
  subst r3
  have nd : (fh ++ fr).Nodup := q2.nodup_iff.mp h2
  have h3' : ∀ a ∈ fh ++ fr, S a = none ∧ c.R a = none := fun a ha => h3 a (q2.symm.subset ha)
  have dj : ∀ a ∈ fh, a ∉ fr := fun a ha hb => (List.nodup_append.mp nd).2.2 a ha a hb rfl
  let c' : Ctx := ⟨cutF H fh, S, []⟩
  have nl : ∀ x ∈ ys, isLoc x = false := RepP.noloc hlv r1
  have s0 : Stt K c' S H (vs.map some) (ys.map some) [] := by
    refine ⟨⟨fh, ?_, (List.nodup_append.mp nd).1, fun a ha => ⟨(h3' a (List.mem_append_left _ ha)).1, cutF_in ha⟩⟩, envOk_some hlv nl, fun _ _ m => by simp at m, s.le, fun a o e => ?_, fun _ _ => rfl, Same.refl S, fun p m => by cases m⟩
    · rw [zip_some hlv]
      simpa [tmpP] using r1
    · by_cases q : a ∈ fh
      · rw [show c'.R a = none from cutF_in q] at e; cases e
      · rw [show c'.R a = H a from cutF_out q] at e; exact e
  refine ⟨c', rfl, rfl, hlv, s0, ?_⟩
  intro H' S' ys' τ' hl' hτ s'
  obtain ⟨gp, g1, g2, g3⟩ := s'.own
  have hlv' : vs.length = ys'.length := hlv.trans hl'.symm
  rw [zip_some hlv'] at g1
  have Rfe : ∀ a ∈ fr, cutF H fh a = H a := fun a ha => cutF_out fun z => dj a z ha
  have same : ∀ a ∈ fr, H' a = H a := fun a ha => by
    have th : H a ≠ none := r2.there a ha
    cases e : H a with
    | none => exact absurd e th
    | some o => exact s'.r a o ((Rfe a ha).trans e)
  have Ssame : Same S S' := s'.up
  have none' : ∀ a ∈ fr, S' a = none := fun a ha => by
    have th : H a ≠ none := r2.there a ha
    rw [s'.new a (by rw [show c'.R a = H a from Rfe a ha]; exact th)]
    exact (h3' a (List.mem_append_right _ ha)).1
  have djg : ∀ a ∈ gp, a ∉ fr := fun a ha hb => by
    have z : cutF H fh a = none := (g3 a ha).2
    rw [Rfe a hb] at z
    exact r2.there a hb z
  have RR : ∀ a o, c.R a = some o → cutF H fh a = some o := fun a o e => by
    have na : a ∉ fh := fun z => by rw [(h3' a (List.mem_append_left _ z)).2] at e; cases e
    rw [cutF_out na]; exact s.r a o e
  have inR : ∀ a, cutF H fh a = none → c.R a = none := fun a e => by
    cases z : c.R a with
    | none => rfl
    | some o => rw [RR a o z] at e; cases e
  have v1 : RepP K S' H' (envP ρ' σ ++ tmpP τ) fr := r2.keep Ssame same
  have big : RepP K S' H' ((vs.zip ys' ++ tmpP τ') ++ (envP ρ' σ ++ tmpP τ)) (gp ++ fr) := g1.join v1
  have nl' : ∀ x ∈ ys', isLoc x = false := EnvOk.noloc s'.env
  have gpm := give_perm (σ := σ) (ρ := ρ') hl hlv' hs (fun i m => k3 i m) (pass_locs hp)
  obtain ⟨w4, w5, w6⟩ := give_ok (σ := σ) (ρ := ρ') hl hlv' hs (fun i m => k3 i m) (pass_locs hp) nl' he'
  have tb : tmpP (backT xs vs ys') = backT xs vs ys' := by
    have : ∀ p ∈ backT xs vs ys', isLoc p.2 = false := by
      have key : ∀ (xs : List A) (vs : List V) (zs : List A), (∀ z ∈ zs, isLoc z = false) → ∀ p ∈ backT xs vs zs, isLoc p.2 = false := by
        intro xs
        induction xs with
        | nil => intro vs zs _ p m; simp [backT] at m
        | cons x xs ih =>
          intro vs zs hz p m
          cases vs with
          | nil => cases x <;> simp [backT] at m
          | cons v vs =>
            cases zs with
            | nil => cases x <;> simp [backT] at m
            | cons z zs =>
              cases hx : isLoc x with
              | false =>
                rw [backT_cons hx] at m
                rcases List.mem_cons.mp m with e | e
                · rw [e]; exact hz z (by simp)
                · exact ih vs zs (fun y hy => hz y (List.mem_cons_of_mem _ hy)) p e
              | true =>
                cases x with
                | loc i => exact ih vs zs (fun y hy => hz y (List.mem_cons_of_mem _ hy)) p m
                | _ => cases hx
      exact key xs vs ys' nl'
    refine List.filter_eq_self.mpr fun p m => ?_
    have q := this p m
    obtain ⟨u, z⟩ := p
    cases z <;> first | rfl | cases q
  have etmp : tmpP (τ' ++ (backT xs vs ys' ++ τ)) = tmpP τ' ++ (backT xs vs ys' ++ tmpP τ) := by
    unfold tmpP at tb ⊢
    rw [List.filter_append, List.filter_append, tb]
  have pm : ((vs.zip ys' ++ tmpP τ') ++ (envP ρ' σ ++ tmpP τ)).Perm (envP (give xs ys' ρ') σ ++ tmpP (τ' ++ (backT xs vs ys' ++ τ))) := by
    rw [etmp]
    have a1 : ((vs.zip ys' ++ tmpP τ') ++ (envP ρ' σ ++ tmpP τ)).Perm ((vs.zip ys' ++ envP ρ' σ) ++ (tmpP τ' ++ tmpP τ)) := by
      rw [List.append_assoc, List.append_assoc]
      refine List.Perm.append_left _ ?_
      rw [← List.append_assoc, ← List.append_assoc]
      exact List.Perm.append_right _ List.perm_append_comm
    have a2 := List.Perm.append_right (tmpP τ' ++ tmpP τ) gpm
    have a3 : ((backT xs vs ys' ++ envP (give xs ys' ρ') σ) ++ (tmpP τ' ++ tmpP τ)).Perm (envP (give xs ys' ρ') σ ++ (tmpP τ' ++ (backT xs vs ys' ++ tmpP τ))) := by
      refine (List.Perm.append_right _ List.perm_append_comm).trans ?_
      rw [List.append_assoc]
      refine List.Perm.append_left _ ?_
      rw [← List.append_assoc, ← List.append_assoc]
      exact List.Perm.append_right _ List.perm_append_comm
    exact (a1.trans a2).trans a3
  obtain ⟨fz, z1, z2⟩ := RepP.perm pm big
  have ndb : (gp ++ fr).Nodup := List.nodup_append.mpr ⟨g2, (List.nodup_append.mp nd).2.1, fun a ha b hb e => djg a ha (e ▸ hb)⟩
  refine ⟨⟨fz, z1, z2.nodup_iff.mp ndb, fun a ha => ?_⟩, w4, fun v i m => ?_, s'.le, fun a o e => s'.r a o (RR a o e), fun a ha => ?_, fun a o e => Ssame a o (s.up a o e), s.os⟩
  · rcases List.mem_append.mp (z2.symm.subset ha) with y | y
    · exact ⟨(g3 a y).1, inR a (g3 a y).2⟩
    · exact ⟨none' a y, (h3' a (List.mem_append_right _ y)).2⟩
  · rcases List.mem_append.mp m with z | z
    · have := hτ _ z; cases this
    · rcases List.mem_append.mp z with z | z
      · have tb2 : (v, A.loc i) ∈ tmpP (backT xs vs ys') := by rw [tb]; exact z
        have := (List.mem_filter.mp tb2).2
        cases this
      · obtain ⟨y1, y, y2⟩ := s.loc v i (List.mem_append_right _ z)
        refine ⟨y1, ?_⟩
        by_cases e : A.loc i ∈ xs
        · exact w6 i e
        · exact ⟨y, w5 i y (by rw [k4 i e]; exact y2)⟩
  · have z : cutF H fh a ≠ none := fun e => by
      cases y : c.R a with
      | none => exact ha y
      | some o => rw [RR a o y] at e; cases e
    rw [s'.new a z]; exact s.new a ha
theorem call_sim {sp : ASp} {xs : List A} {vs : List V} {W : WX} {EA : AX} {Q : AK} (hw : XOk K c W EA) (hl : vs.length = xs.length) (s : Stt K c S H σ ρ (vs.zip xs ++ τ)) (h : callA sp xs EA ρ Q) :
    lift K sp vs H (KE K c σ τ Q) (fun cls d H' => W cls d σ H') := by
  obtain ⟨ys, ρ', hp, hpre, hq, hx⟩ := h
  obtain ⟨c', h1, h2, hlv, s0, back⟩ := call_core hl s hp
  refine ⟨c', S, ys, hlv, h1, s0, by rw [h2]; exact Same.refl S, by rw [h2]; exact Same.refl S, hpre, fun r xs' v H' S' hpo hl' hr s' => ?_, fun C fs xs' dd H' S' hex hl' s' hd => ?_⟩
  · have s2 := back (hl'.symm.trans hlv) (τ' := [(v, r)]) (fun p m => by
      have e : p = (v, r) := by simpa using m
      rw [e]; exact hr) s'
    refine ⟨S', give xs xs' ρ', r, ?_, hq r xs' hpo (hl'.symm.trans hlv)⟩
    have s3 : Stt K c S' H' σ (give xs xs' ρ') (backT xs vs xs' ++ ((v, r) :: τ)) := s2.swap (by
      rw [List.cons_append, List.nil_append]
      exact List.perm_middle.symm)
    exact s3.drops
  · have s2 : Stt K c S' H' σ (give xs xs' ρ') (backT xs vs xs' ++ τ) := back (τ' := []) (hl'.symm.trans hlv) (fun p m => by simp at m) s'
    exact hw S' H' σ (give xs xs' ρ') C fs dd (Stt.drops (τ' := []) (ts := backT xs vs xs' ++ τ) (by simpa using s2)) hd (hx C fs xs' hex (hl'.symm.trans hlv))
/-- a new instance is passed first, and is what is made -/
theorem make_lift {C : Addr} {sp : ASp} {W : WX} {EA : AX} {ρ' : AEnv} {vs : List V} {xs ys : List A} {xa : Addr} {Q : AK} {R : VK} (hw : XOk K c W EA) (hl : (V.ref xa :: vs).length = (A.obj C [] :: xs).length)
    (s : Stt K c S H σ ρ ((V.ref xa :: vs).zip (A.obj C [] :: xs) ++ τ)) (hp : pass (A.obj C [] :: xs) ρ = some (A.obj C [] :: ys, ρ')) (hpre : sp.pre (A.obj C [] :: ys))
    (hq : ∀ r zs, sp.post (A.obj C [] :: ys) r zs → zs.length = (A.obj C [] :: ys).length → ∃ y ys', zs = y :: ys' ∧ r = .v .non ∧ Q y (give xs ys' ρ'))
    (hex : ∀ Ce fs zs, sp.exc (A.obj C [] :: ys) Ce fs zs → zs.length = (A.obj C [] :: ys).length → EA Ce fs (give (A.obj C [] :: xs) zs ρ'))
    (kk : ∀ v H', KE K c σ τ Q v H' → R v H') : lift K sp (.ref xa :: vs) H (fun v H2 => v = .non ∧ R (.ref xa) H2) (fun cls d H' => W cls d σ H') := by
  obtain ⟨c', h1, h2, hlv, s0, back⟩ := call_core hl s hp
  refine ⟨c', S, _, hlv, h1, s0, by rw [h2]; exact Same.refl S, by rw [h2]; exact Same.refl S, hpre, fun r xs' v H' S' hpo hl' hr s' => ?_, fun Ce fs xs' dd H' S' hex' hl' s' hd => ?_⟩
  · have s2 := back (hl'.symm.trans hlv) (τ' := [(v, r)]) (fun p m => by
      have e : p = (v, r) := by simpa using m
      rw [e]; exact hr) s'
    obtain ⟨y, ys', rfl, rfl, hQ⟩ := hq r xs' hpo (hl'.symm.trans hlv)
    have rv := s2.data
    simp only [Rep] at rv
    refine ⟨rv, kk _ _ ⟨S', give xs ys' ρ', y, ?_, hQ⟩⟩
    have s3 : Stt K c S' H' σ (give xs ys' ρ') ((V.ref xa, y) :: backT xs vs ys' ++ τ) := s2.drop
    have s4 : Stt K c S' H' σ (give xs ys' ρ') (backT xs vs ys' ++ ((V.ref xa, y) :: τ)) := s3.swap (by
      rw [List.cons_append]
      exact List.perm_middle.symm)
    exact s4.drops
  · have s2 : Stt K c S' H' σ (give (A.obj C [] :: xs) xs' ρ') (backT (A.obj C [] :: xs) (V.ref xa :: vs) xs' ++ τ) := back (τ' := []) (hl'.symm.trans hlv) (fun p m => by simp at m) s'
    exact hw S' H' σ _ Ce fs dd (Stt.drops (τ' := []) (ts := backT (A.obj C [] :: xs) (V.ref xa :: vs) xs' ++ τ) (by simpa using s2)) hd (hex Ce fs xs' hex' (hl'.symm.trans hlv))
end
end Vs

set_option Elab.async false
set_option linter.all false
set_option maxRecDepth 100000
set_option maxHeartbeats 1000000
/-! Vs: rules. -/
namespace Vs
open PySem L2
/-! ### judgements -/
structure QE (X : Cx) (P : Pm) (e : Expr) (ae : AE) : Prop where
  ex : ∃ te, PE X e te ∧ SimE X.K P te ae
structure QT (X : Cx) (P : Pm) (e : Expr) (a : AT) : Prop where
  ex : ∃ t, PT X e t ∧ SimT X.K P t a
structure QW (X : Cx) (P : Pm) (e : Expr) (a : AT) : Prop where
  ex : ∃ t, PW X e t ∧ SimT X.K P t a
structure QA (X : Cx) (P : Pm) (es : List Expr) (a : AA) : Prop where
  ex : ∃ t, PA X es t ∧ SimA X.K P t a
structure QS (X : Cx) (P : Pm) (st : Stmt) (a : AS) : Prop where
  ex : ∃ t, PS X st t ∧ SimS X.K P t a
structure QSs (X : Cx) (P : Pm) (st : List Stmt) (a : AS) : Prop where
  ex : ∃ t, PSs X st t ∧ SimS X.K P t a

/-! ### shared data of a held thing -/
def useA (x : A) (ρ : AEnv) (k : D → AEnv → Prop) : Prop := match x with
  | .loc i => ∃ y, ρ[i]? = some (some y) ∧ k y.toD (ρ.set i (some (.v y.toD)))
  | y => k y.toD ρ
section
variable {K : Fg} {c : Ctx} {S H : Hp} {σ : L2.St} {ρ : AEnv} {τ : List (V × A)} {v : V} {x y : A} {i : Nat}
theorem use_sim {k : D → AEnv → Prop} (s : Stt K c S H σ ρ ((v, x) :: τ)) (h : useA x ρ k) : ∃ S' d ρ', Same S S' ∧ Stt K c S' H σ ρ' ((v, .v d) :: τ) ∧ k d ρ' := by
  cases hx : isLoc x with
  | false =>
    obtain ⟨S', sm, s'⟩ := s.freeze hx
    refine ⟨S', x.toD, ρ, sm, s', ?_⟩
    cases x <;> first | exact h | cases hx
  | true =>
    cases x with
    | loc i =>
      obtain ⟨y, hy, hk⟩ := h
      obtain ⟨S', sm, s'⟩ := s.freezeSlot hy
      have hv : σ[i]? = some (some v) := (s.loc v i (List.mem_cons_self ..)).1
      obtain ⟨v', hv', hr⟩ := s'.slot (i := i) (d := y.toD) (by rw [List.getElem?_set_self (lt_of_get hy)])
      rw [hv] at hv'
      cases hv'
      exact ⟨S', y.toD, _, sm, s'.drop.hold hr, hk⟩
    | _ => cases hx
def usesA : List A → AEnv → (List D → AEnv → Prop) → Prop
  | [], ρ, k => k [] ρ
  | x :: xs, ρ, k => useA x ρ fun d ρ' => usesA xs ρ' fun ds ρ'' => k (d :: ds) ρ''
theorem uses_sim : ∀ {xs : List A} {vs : List V} {S : Hp} {ρ : AEnv} {k : List D → AEnv → Prop}, vs.length = xs.length → Stt K c S H σ ρ (vs.zip xs ++ τ) → usesA xs ρ k → ∃ S' ds ρ', Same S S' ∧ RepL K S' ds vs ∧ Stt K c S' H σ ρ' τ ∧ k ds ρ'
  | [], vs, S, ρ, k, hl, s, h => by
    have e : vs = [] := by simpa using hl
    subst e
    exact ⟨S, [], ρ, Same.refl S, by simp only [RepL], by simpa using s, h⟩
  | x :: xs, [], S, ρ, k, hl, s, h => by simp at hl
  | x :: xs, v :: vs, S, ρ, k, hl, s, h => by
    obtain ⟨S1, d, ρ1, sm, s1, h1⟩ := use_sim (τ := vs.zip xs ++ τ) (by simpa using s) h
    have hr := s1.data
    obtain ⟨S2, ds, ρ2, sm2, r2, s2, h2⟩ := uses_sim (by simpa using hl) s1.drop h1
    exact ⟨S2, d :: ds, ρ2, sm.trans sm2, by simp only [RepL]; exact ⟨v, vs, rfl, Rep.le (Le.of_same sm2) d v hr, r2⟩, s2, h2⟩
end

/-! ### expressions -/
section
variable {X : Cx} {P : Pm} {K : Fg}
def aC (d : D) : AE := fun _ ρ Q => Q (.v d) ρ
def sc : D → Option V
  | .non => some .non
  | .bl b => some (.bl b)
  | .int i => some (.int i)
  | .str x => some (.str x)
  | .ty n => some (.ty n)
  | _ => none
theorem rep_sc {K : Fg} {S : Hp} {d : D} {v : V} (h : sc d = some v) : Rep K S d v := by
  cases d <;> simp only [sc] at h <;> first | (injection h with h; simp only [Rep]; exact h.symm) | cases h
theorem sim_c {d : D} {v : V} (h : sc d = some v) : SimE K P (tC v) (aC d) := fun c EA _ _ τ S H σ ρ Q R s q k => k _ _ ⟨S, ρ, .v d, s.hold (rep_sc h), q⟩
theorem qe_int {i j pos} : QE X P (.Constant (.int i) j pos) (aC (.int i)) := ⟨_, pe_int, sim_c rfl⟩
theorem qe_bl {b j pos} : QE X P (.Constant (.bool b) j pos) (aC (.bl b)) := ⟨_, pe_bl, sim_c rfl⟩
theorem qe_non {j pos} : QE X P (.Constant .none j pos) (aC .non) := ⟨_, pe_non, sim_c rfl⟩
theorem qe_str {x j pos} : QE X P (.Constant (.str x) j pos) (aC (.str x)) := ⟨_, pe_str, sim_c rfl⟩
/-- a module's constant -/
theorem qe_glob {x : Str} {d : D} {v : V} {u : Value} {pos : Pos} (hd : sc d = some v) (hg : Gl X x) (hm : X.mg x = some u) (r : RelV v u) (h : (x == ("__debug__" : Str)) = false := by decide) : QE X P (.Name x pos) (aC d) := ⟨_, pe_glob hg hm r h, sim_c hd⟩
/-- a name's shared datum; what a name holds -/
def aVal (i : Nat) : AE := fun _ ρ Q => ∃ d, ρ[i]? = some (some (.v d)) ∧ Q (.v d) ρ
def aRef (i : Nat) : AE := fun _ ρ Q => (∃ y, ρ[i]? = some (some y)) ∧ Q (.loc i) ρ
theorem sim_val {i : Nat} : SimE K P (tVar i) (aVal i) := fun c EA _ _ τ S H σ ρ Q R s ⟨d, e, q⟩ k => by
  obtain ⟨v, hv, hr⟩ := s.slot e
  exact ⟨v, hv, k _ _ ⟨S, ρ, .v d, s.hold hr, q⟩⟩
theorem Stt.ref {c : Ctx} {S H : Hp} {σ : L2.St} {ρ : AEnv} {τ : List (V × A)} {v : V} {y : A} {i : Nat} (s : Stt K c S H σ ρ τ) (h : ρ[i]? = some (some y)) (hv : σ[i]? = some (some v)) : Stt K c S H σ ρ ((v, .loc i) :: τ) :=
  ⟨s.own, s.env, fun v' j m => by
    rcases List.mem_cons.mp m with q | q
    · injection q with q1 q2
      injection q2 with q2
      subst q1 q2
      exact ⟨hv, y, h⟩
    · exact s.loc v' j q, s.le, s.r, s.new, s.up, s.os⟩
theorem sim_ref {i : Nat} : SimE K P (tVar i) (aRef i) := fun c EA _ _ τ S H σ ρ Q R s ⟨⟨y, e⟩, q⟩ k => by
  obtain ⟨⟨v, hv⟩, _⟩ := s.env.get e
  exact ⟨v, hv, k _ _ ⟨S, ρ, .loc i, s.ref e hv, q⟩⟩
theorem qv (i : Nat) {x : Str} {pos : Pos} (hN : X.N[i]? = some x := by rfl) (hv : Vis X.env.scope x := by first | exact Or.inl rfl | exact Or.inr (Or.inl rfl) | exact Or.inr (Or.inr rfl)) (hd : (x == ("__debug__" : Str)) = false := by decide)
    (hcd : (x == ("__classdict__" : Str)) = false := by decide) : QE X P (.Name x pos) (aVal i) := ⟨_, pe_var hN hv hd hcd, sim_val⟩
theorem qr (i : Nat) {x : Str} {pos : Pos} (hN : X.N[i]? = some x := by rfl) (hv : Vis X.env.scope x := by first | exact Or.inl rfl | exact Or.inr (Or.inl rfl) | exact Or.inr (Or.inr rfl)) (hd : (x == ("__debug__" : Str)) = false := by decide)
    (hcd : (x == ("__classdict__" : Str)) = false := by decide) : QE X P (.Name x pos) (aRef i) := ⟨_, pe_var hN hv hd hcd, sim_ref⟩

/-! two things by their values -/
abbrev AR2 := A → A → AEnv → AK → Prop
abbrev AR1 := A → AEnv → AK → Prop
abbrev ARs := List A → AEnv → AK → Prop
def Sim2 (K : Fg) (r : R2) (ra : AR2) : Prop := ∀ c τ S H σ ρ vx vy x y Q (R : VK), Stt K c S H σ ρ ((vy, y) :: (vx, x) :: τ) → ra x y ρ Q → (∀ v H', KE K c σ τ Q v H' → R v H') → r vx vy H R
def Sim1 (K : Fg) (r : V → Hp → VK → Prop) (ra : AR1) : Prop := ∀ c τ S H σ ρ vx x Q (R : VK), Stt K c S H σ ρ ((vx, x) :: τ) → ra x ρ Q → (∀ v H', KE K c σ τ Q v H' → R v H') → r vx H R
def Sims (K : Fg) (r : List V → Hp → VK → Prop) (ra : ARs) : Prop := ∀ c τ S H σ ρ vs xs Q (R : VK), vs.length = xs.length → Stt K c S H σ ρ (vs.zip xs ++ τ) → ra xs ρ Q → (∀ v H', KE K c σ τ Q v H' → R v H') → r vs H R
def aOp (ra : AR2) (aa ab : AE) : AE := fun EA ρ Q => aa EA ρ fun x ρ1 => ab EA ρ1 fun y ρ2 => ra x y ρ2 Q
def aUn (ra : AR1) (aa : AE) : AE := fun EA ρ Q => aa EA ρ fun x ρ1 => ra x ρ1 Q
theorem sim_op {r : R2} {ra : AR2} {ta tb : TE} {aa ab : AE} (ha : SimE K P ta aa) (hb : SimE K P tb ab) (hr : Sim2 K r ra) : SimE K P (tOp r ta tb) (aOp ra aa ab) := fun c EA ho hw τ S H σ ρ Q R s q k =>
  ha c EA ho hw τ S H σ ρ _ _ s q (fun vx H1 ⟨S1, ρ1, x, s1, q1⟩ => hb c EA ho hw ((vx, x) :: τ) S1 H1 σ ρ1 _ _ s1 q1 (fun vy H2 ⟨S2, ρ2, y, s2, q2⟩ => hr c τ S2 H2 σ ρ2 vx vy x y Q R s2 q2 k))
theorem sim_un {r : V → Hp → VK → Prop} {ra : AR1} {ta : TE} {aa : AE} (ha : SimE K P ta aa) (hr : Sim1 K r ra) : SimE K P (tUn r ta) (aUn ra aa) := fun c EA ho hw τ S H σ ρ Q R s q k =>
  ha c EA ho hw τ S H σ ρ _ _ s q (fun vx H1 ⟨S1, ρ1, x, s1, q1⟩ => hr c τ S1 H1 σ ρ1 vx x Q R s1 q1 k)
theorem qe_op {a b : Expr} {op : Operator} {pos : Pos} {aa ab : AE} {r : R2} {ra : AR2} (ho : OpR X (binaryOp op) r) (hr : Sim2 X.K r ra) (ha : QE X P a aa) (hb : QE X P b ab) : QE X P (.BinOp a op b pos) (aOp ra aa ab) := by
  obtain ⟨ta, pa, sa⟩ := ha.ex
  obtain ⟨tb, pb, sb⟩ := hb.ex
  exact ⟨_, pe_op ho pa pb, sim_op sa sb hr⟩
theorem qe_un {a : Expr} {op : UnaryOp} {pos : Pos} {aa : AE} {r : V → Hp → VK → Prop} {ra : AR1} (ho : UnR X (unaryOp op) r) (hr : Sim1 X.K r ra) (ha : QE X P a aa) : QE X P (.UnaryOp op a pos) (aUn ra aa) := by
  obtain ⟨ta, pa, sa⟩ := ha.ex
  exact ⟨_, pe_un ho pa, sim_un sa hr⟩
theorem qe_cmp {a b : Expr} {op : CmpOp} {pos : Pos} {aa ab : AE} {r : R2} {ra : AR2} (ho : OpR X (compareOp op) r) (hr : Sim2 X.K r ra) (ha : QE X P a aa) (hb : QE X P b ab) (hm : behindInMarks op b = false) : QE X P (.Compare a [op] [b] pos) (aOp ra aa ab) := by
  obtain ⟨ta, pa, sa⟩ := ha.ex
  obtain ⟨tb, pb, sb⟩ := hb.ex
  exact ⟨_, pe_cmpR ho pa pb hm, sim_op sa sb hr⟩
def aTest (ae : AE) : AT := fun EA ρ Q => ae EA ρ fun x ρ1 => ∃ b, dat x ρ1 = some (.bl b) ∧ Q b ρ1
theorem sim_test {te : TE} {ae : AE} (h : SimE K P te ae) : SimT K P (tTest te) (aTest ae) := fun c EA ho hw τ S H σ ρ Q R s q k =>
  h c EA ho hw τ S H σ ρ _ _ s q (fun v H1 ⟨S1, ρ1, x, s1, b, e, q1⟩ => by
    have r := s1.dat (List.mem_cons_self ..) e
    simp only [Rep] at r
    exact ⟨b, r, k _ _ ⟨S1, ρ1, s1.drop, q1⟩⟩)
theorem qt_cmp {a b : Expr} {op : CmpOp} {pos : Pos} {aa ab : AE} {r : R2} {ra : AR2} (ho : OpR X (compareOp op) r) (hr : Sim2 X.K r ra) (ha : QE X P a aa) (hb : QE X P b ab) (hm : behindInMarks op b = false) : QT X P (.Compare a [op] [b] pos) (aTest (aOp ra aa ab)) := by
  obtain ⟨ta, pa, sa⟩ := ha.ex
  obtain ⟨tb, pb, sb⟩ := hb.ex
  exact ⟨_, pt_cmpR ho pa pb hm, sim_test (sim_op sa sb hr)⟩
theorem qt_val {e : Expr} {ae : AE} (h : QE X P e ae) (he : ∀ whole, isTrue e X.env whole = (do let v ← whole; standAt e.pos; holding [v] (truthy v)) := by intro _; rfl) : QT X P e (aTest ae) := by
  obtain ⟨t, p, s⟩ := h.ex
  exact ⟨_, pt_val p he, sim_test s⟩
/-- a op b op' c -/
def aChain (ra rb : AR2) (aa ab ac : AE) : AE := fun EA ρ Q => aa EA ρ fun x ρ1 => ab EA ρ1 fun y ρ2 => ∃ dy, y = .v dy ∧ ra x y ρ2 fun z ρ3 => ∃ b, dat z ρ3 = some (.bl b) ∧ if b = true then ac EA ρ3 fun w ρ4 => rb (.v dy) w ρ4 Q else Q (.v (.bl false)) ρ3
theorem Stt.held {c : Ctx} {S H : Hp} {σ : L2.St} {ρ : AEnv} {τ : List (V × A)} {v v' : V} {x : A} {d : D} (s : Stt K c S H σ ρ ((v, x) :: (v', .v d) :: τ)) : Stt K c S H σ ρ ((v, x) :: τ) := (s.swap (.swap _ _ _)).drop
theorem sim_chain {r r' : R2} {ra rb : AR2} {ta tb tc : TE} {aa ab ac : AE} (ha : SimE K P ta aa) (hb : SimE K P tb ab) (hc : SimE K P tc ac) (h1 : Sim2 K r ra) (h2 : Sim2 K r' rb) : SimE K P (tChain r r' ta tb tc) (aChain ra rb aa ab ac) := fun c EA ho hw τ S H σ ρ Q R s q k =>
  ha c EA ho hw τ S H σ ρ _ _ s q (fun vx H1 ⟨S1, ρ1, x, s1, q1⟩ => hb c EA ho hw ((vx, x) :: τ) S1 H1 σ ρ1 _ _ s1 q1 (fun vy H2 ⟨S2, ρ2, y, s2, dy, ey, q2⟩ => by
    subst ey
    have s2' : Stt K c S2 H2 σ ρ2 ((vy, .v dy) :: (vx, x) :: (vy, .v dy) :: τ) := by
      have hr := s2.data
      have z : Stt K c S2 H2 σ ρ2 ((vy, .v dy) :: (vy, .v dy) :: (vx, x) :: τ) := s2.hold hr
      exact z.swap (List.Perm.cons _ (.swap _ _ _))
    refine h1 c ((vy, .v dy) :: τ) S2 H2 σ ρ2 vx vy x (.v dy) _ _ s2' q2 (fun vz H3 ⟨S3, ρ3, z, s3, b, e, q3⟩ => ?_)
    have rz := s3.dat (List.mem_cons_self ..) e
    simp only [Rep] at rz
    refine ⟨b, rz, ?_⟩
    cases b with
    | true =>
      rw [if_pos rfl] at q3 ⊢
      exact hc c EA ho hw ((vy, .v dy) :: τ) S3 H3 σ ρ3 _ _ s3.drop q3 (fun vw H4 ⟨S4, ρ4, w, s4, q4⟩ => h2 c τ S4 H4 σ ρ4 vy vw (.v dy) w Q R s4 q4 k)
    | false =>
      rw [if_neg Bool.false_ne_true] at q3 ⊢
      exact k _ _ ⟨S3, ρ3, .v (.bl false), s3.drop.drop.hold (rep_sc rfl), q3⟩))
theorem qe_chain {a b d : Expr} {op op' : CmpOp} {pos : Pos} {aa ab ac : AE} {r r' : R2} {ra rb : AR2} (ho : OpR X (compareOp op) r) (hr : Sim2 X.K r ra) (ho' : OpR X (compareOp op') r') (hr' : Sim2 X.K r' rb) (ha : QE X P a aa) (hb : QE X P b ab) (hc : QE X P d ac)
    (hm : lastMarks [op, op'] [b, d] = false := by rfl) : QE X P (.Compare a [op, op'] [b, d] pos) (aChain ra rb aa ab ac) := by
  obtain ⟨ta, pa, sa⟩ := ha.ex
  obtain ⟨tb, pb, sb⟩ := hb.ex
  obtain ⟨tc, pc, sc⟩ := hc.ex
  exact ⟨_, pe_chain ho ho' pa pb pc hm, sim_chain sa sb sc hr hr'⟩
theorem qt_chain {a b d : Expr} {op op' : CmpOp} {pos : Pos} {aa ab ac : AE} {r r' : R2} {ra rb : AR2} (ho : OpR X (compareOp op) r) (hr : Sim2 X.K r ra) (ho' : OpR X (compareOp op') r') (hr' : Sim2 X.K r' rb) (ha : QE X P a aa) (hb : QE X P b ab) (hc : QE X P d ac)
    (hm : lastMarks [op, op'] [b, d] = false := by rfl) : QT X P (.Compare a [op, op'] [b, d] pos) (aTest (aChain ra rb aa ab ac)) := by
  obtain ⟨ta, pa, sa⟩ := ha.ex
  obtain ⟨tb, pb, sb⟩ := hb.ex
  obtain ⟨tc, pc, sc⟩ := hc.ex
  exact ⟨_, pt_chain ho ho' pa pb pc hm, sim_test (sim_chain sa sb sc hr hr')⟩

/-! and, or, not -/
def atAnd (t u : AT) : AT := fun EA ρ Q => t EA ρ fun b ρ1 => if b = true then u EA ρ1 Q else Q false ρ1
def atOr (t u : AT) : AT := fun EA ρ Q => t EA ρ fun b ρ1 => if b = true then Q true ρ1 else u EA ρ1 Q
def atNot (t : AT) : AT := fun EA ρ Q => t EA ρ fun b ρ1 => Q (!b) ρ1
theorem sim_and {t u : TT} {a b : AT} (h1 : SimT K P t a) (h2 : SimT K P u b) : SimT K P (tAnd t u) (atAnd a b) := fun c EA ho hw τ S H σ ρ Q R s q k =>
  h1 c EA ho hw τ S H σ ρ _ _ s q (fun v H1 ⟨S1, ρ1, s1, q1⟩ => by
    cases v with
    | true => rw [if_pos rfl] at q1 ⊢; exact h2 c EA ho hw τ S1 H1 σ ρ1 Q R s1 q1 k
    | false => rw [if_neg Bool.false_ne_true] at q1 ⊢; exact k _ _ ⟨S1, ρ1, s1, q1⟩)
theorem sim_or {t u : TT} {a b : AT} (h1 : SimT K P t a) (h2 : SimT K P u b) : SimT K P (tOr t u) (atOr a b) := fun c EA ho hw τ S H σ ρ Q R s q k =>
  h1 c EA ho hw τ S H σ ρ _ _ s q (fun v H1 ⟨S1, ρ1, s1, q1⟩ => by
    cases v with
    | true => rw [if_pos rfl] at q1 ⊢; exact k _ _ ⟨S1, ρ1, s1, q1⟩
    | false => rw [if_neg Bool.false_ne_true] at q1 ⊢; exact h2 c EA ho hw τ S1 H1 σ ρ1 Q R s1 q1 k)
theorem sim_not {t : TT} {a : AT} (h : SimT K P t a) : SimT K P (tNot t) (atNot a) := fun c EA ho hw τ S H σ ρ Q R s q k =>
  h c EA ho hw τ S H σ ρ _ _ s q (fun v H1 ⟨S1, ρ1, s1, q1⟩ => k _ _ ⟨S1, ρ1, s1, q1⟩)
variable {a b : Expr} {rest : List Expr} {pos : Pos}
theorem qw_and1 {t : AT} (h : QT X P a t) : QW X P (.BoolOp .And [a] pos) t := let ⟨_, p, s⟩ := h.ex; ⟨_, pw_and1 p, s⟩
theorem qw_or1 {t : AT} (h : QT X P a t) : QW X P (.BoolOp .Or [a] pos) t := let ⟨_, p, s⟩ := h.ex; ⟨_, pw_or1 p, s⟩
theorem qw_and {t u : AT} (h : QT X P a t) (h2 : QW X P (.BoolOp .And (b :: rest) pos) u) : QW X P (.BoolOp .And (a :: b :: rest) pos) (atAnd t u) := let ⟨_, p, s⟩ := h.ex; let ⟨_, p2, s2⟩ := h2.ex; ⟨_, pw_and p p2, sim_and s s2⟩
theorem qw_or {t u : AT} (h : QT X P a t) (h2 : QW X P (.BoolOp .Or (b :: rest) pos) u) : QW X P (.BoolOp .Or (a :: b :: rest) pos) (atOr t u) := let ⟨_, p, s⟩ := h.ex; let ⟨_, p2, s2⟩ := h2.ex; ⟨_, pw_or p p2, sim_or s s2⟩
theorem qt_w {t : AT} {e : Expr} (h : QW X P e t) : QT X P e t := let ⟨_, p, s⟩ := h.ex; ⟨_, p.pt, s⟩
theorem qt_not {t : AT} (h : QT X P a t) : QT X P (.UnaryOp .Not a pos) (atNot t) := let ⟨_, p, s⟩ := h.ex; ⟨_, pt_not p, sim_not s⟩
/-! .. as values -/
def aAnd (aa ab : AE) : AE := fun EA ρ Q => aa EA ρ fun x ρ1 => ∃ b, dat x ρ1 = some (.bl b) ∧ if b = true then ab EA ρ1 Q else Q (.v (.bl false)) ρ1
def aOr (aa ab : AE) : AE := fun EA ρ Q => aa EA ρ fun x ρ1 => ∃ b, dat x ρ1 = some (.bl b) ∧ if b = true then Q (.v (.bl true)) ρ1 else ab EA ρ1 Q
def aNot (aa : AE) : AE := fun EA ρ Q => aa EA ρ fun x ρ1 => ∃ b, dat x ρ1 = some (.bl b) ∧ Q (.v (.bl (!b))) ρ1
theorem sim_andV {ta tb : TE} {aa ab : AE} (h1 : SimE K P ta aa) (h2 : SimE K P tb ab) : SimE K P (tAndV ta tb) (aAnd aa ab) := fun c EA ho hw τ S H σ ρ Q R s q k =>
  h1 c EA ho hw τ S H σ ρ _ _ s q (fun v H1 ⟨S1, ρ1, x, s1, b, e, q1⟩ => by
    have r := s1.dat (List.mem_cons_self ..) e
    simp only [Rep] at r
    refine ⟨b, r, ?_⟩
    cases b with
    | true => rw [if_pos rfl] at q1 ⊢; exact h2 c EA ho hw τ S1 H1 σ ρ1 Q R s1.drop q1 k
    | false => rw [if_neg Bool.false_ne_true] at q1 ⊢; exact k _ _ ⟨S1, ρ1, _, s1.drop.hold (rep_sc rfl), q1⟩)
theorem sim_orV {ta tb : TE} {aa ab : AE} (h1 : SimE K P ta aa) (h2 : SimE K P tb ab) : SimE K P (tOrV ta tb) (aOr aa ab) := fun c EA ho hw τ S H σ ρ Q R s q k =>
  h1 c EA ho hw τ S H σ ρ _ _ s q (fun v H1 ⟨S1, ρ1, x, s1, b, e, q1⟩ => by
    have r := s1.dat (List.mem_cons_self ..) e
    simp only [Rep] at r
    refine ⟨b, r, ?_⟩
    cases b with
    | true => rw [if_pos rfl] at q1 ⊢; exact k _ _ ⟨S1, ρ1, _, s1.drop.hold (rep_sc rfl), q1⟩
    | false => rw [if_neg Bool.false_ne_true] at q1 ⊢; exact h2 c EA ho hw τ S1 H1 σ ρ1 Q R s1.drop q1 k)
theorem sim_notV {ta : TE} {aa : AE} (h1 : SimE K P ta aa) : SimE K P (tNotV ta) (aNot aa) := fun c EA ho hw τ S H σ ρ Q R s q k =>
  h1 c EA ho hw τ S H σ ρ _ _ s q (fun v H1 ⟨S1, ρ1, x, s1, b, e, q1⟩ => by
    have r := s1.dat (List.mem_cons_self ..) e
    simp only [Rep] at r
    exact ⟨b, r, k _ _ ⟨S1, ρ1, _, s1.drop.hold (rep_sc rfl), q1⟩⟩)
theorem qe_one {op} {t : AE} (h : QE X P a t) : QE X P (.BoolOp op [a] pos) t := let ⟨_, p, s⟩ := h.ex; ⟨_, pe_one p, s⟩
theorem qe_and {t u : AE} (h : QE X P a t) (h2 : QE X P (.BoolOp .And (b :: rest) pos) u) : QE X P (.BoolOp .And (a :: b :: rest) pos) (aAnd t u) := let ⟨_, p, s⟩ := h.ex; let ⟨_, p2, s2⟩ := h2.ex; ⟨_, pe_and p p2, sim_andV s s2⟩
theorem qe_or {t u : AE} (h : QE X P a t) (h2 : QE X P (.BoolOp .Or (b :: rest) pos) u) : QE X P (.BoolOp .Or (a :: b :: rest) pos) (aOr t u) := let ⟨_, p, s⟩ := h.ex; let ⟨_, p2, s2⟩ := h2.ex; ⟨_, pe_or p p2, sim_orV s s2⟩
theorem qe_not {t : AE} (h : QE X P a t) : QE X P (.UnaryOp .Not a pos) (aNot t) := let ⟨_, p, s⟩ := h.ex; ⟨_, pe_not p, sim_notV s⟩
/-- a if t else b -/
def aIf (t : AT) (aa ab : AE) : AE := fun EA ρ Q => t EA ρ fun b ρ1 => if b = true then aa EA ρ1 Q else ab EA ρ1 Q
theorem qe_ifExp {t : AT} {aa ab : AE} {d : Expr} (hc : QT X P d t) (ha : QE X P a aa) (hb : QE X P b ab) : QE X P (.IfExp d a b pos) (aIf t aa ab) := by
  obtain ⟨t', p, s⟩ := hc.ex
  obtain ⟨ta, pa, sa⟩ := ha.ex
  obtain ⟨tb, pb, sb⟩ := hb.ex
  refine ⟨_, pe_ifExp p pa pb, fun c EA ho hw τ S H σ ρ Q R st q k => s c EA ho hw τ S H σ ρ _ _ st q (fun v H1 ⟨S1, ρ1, s1, q1⟩ => ?_)⟩
  cases v with
  | true => rw [if_pos rfl] at q1 ⊢; exact sa c EA ho hw τ S1 H1 σ ρ1 Q R s1 q1 k
  | false => rw [if_neg Bool.false_ne_true] at q1 ⊢; exact sb c EA ho hw τ S1 H1 σ ρ1 Q R s1 q1 k

/-! arguments -/
def aNil : AA := fun _ ρ Q => Q [] ρ
def aCons (ae : AE) (aa : AA) : AA := fun EA ρ Q => ae EA ρ fun x ρ1 => aa EA ρ1 fun xs ρ2 => Q (x :: xs) ρ2
theorem sim_nil : SimA K P tNil aNil := fun c EA ho hw τ S H σ ρ Q R s q k => k _ _ ⟨S, ρ, [], rfl, by simpa using s, q⟩
theorem sim_cons {te : TE} {ta : TA} {ae : AE} {aa : AA} (h1 : SimE K P te ae) (h2 : SimA K P ta aa) : SimA K P (tCons te ta) (aCons ae aa) := fun c EA ho hw τ S H σ ρ Q R s q k =>
  h1 c EA ho hw τ S H σ ρ _ _ s q (fun v H1 ⟨S1, ρ1, x, s1, q1⟩ => h2 c EA ho hw ((v, x) :: τ) S1 H1 σ ρ1 _ _ s1 q1 (fun vs H2 ⟨S2, ρ2, xs, hl, s2, q2⟩ =>
    k _ _ ⟨S2, ρ2, x :: xs, by simp [hl], by
      rw [List.zip_cons_cons]
      exact s2.swap List.perm_middle, q2⟩))
theorem qa_nil : QA X P [] aNil := ⟨_, pa_nil, sim_nil⟩
theorem qa_cons {e : Expr} {es : List Expr} {ae : AE} {aa : AA} (h1 : QE X P e ae) (h2 : QA X P es aa) (hs : starEach (e :: es) X.env = (false, eval e X.env) :: starEach es X.env := by rfl) : QA X P (e :: es) (aCons ae aa) :=
  let ⟨_, p, s⟩ := h1.ex; let ⟨_, p2, s2⟩ := h2.ex; ⟨_, pa_cons p p2 hs, sim_cons s s2⟩
/-- (a, b, ..): a shared tuple -/
def aTup (aa : AA) : AE := fun EA ρ Q => aa EA ρ fun xs ρ1 => xs.length ≤ 1000 ∧ usesA xs ρ1 fun ds ρ2 => Q (.v (.tup ds)) ρ2
def aLst (aa : AA) : AE := fun EA ρ Q => aa EA ρ fun xs ρ1 => xs.length ≤ 1000 ∧ usesA xs ρ1 fun ds ρ2 => Q (.lst ds) ρ2
theorem sz1000 {n : Nat} (h : n ≤ 1000) : n ≤ sizeLine := Nat.le_trans h (by decide)
theorem qe_tup {es : List Expr} {aa : AA} {x1} (h : QA X P es aa) : QE X P (.Tuple es x1 pos) (aTup aa) := by
  obtain ⟨t, p, s⟩ := h.ex
  refine ⟨_, pe_tup p, fun c EA ho hw τ S H σ ρ Q R st q k => s c EA ho hw τ S H σ ρ _ _ st q (fun vs H1 ⟨S1, ρ1, xs, hl, s1, hz, q1⟩ => ⟨by rw [hl]; exact sz1000 hz, fun p hp => ?_⟩)⟩
  obtain ⟨S2, ds, ρ2, sm, rl, s2, q2⟩ := uses_sim hl s1 q1
  have f1 := (s2.fresh hp).1
  refine k _ _ ⟨_, ρ2, .v (.tup ds), s2.share (o := .tup vs) hp ?_, q2⟩
  simp only [Rep]
  exact ⟨p, vs, rfl, SqT.of upd_same, RepL.le (Le.of_same (Same.up f1)) ds vs rl⟩
theorem qe_lst {es : List Expr} {aa : AA} (h : QA X P es aa) : QE X P (.List es pos) (aLst aa) := by
  obtain ⟨t, p, s⟩ := h.ex
  refine ⟨_, pe_lst p, fun c EA ho hw τ S H σ ρ Q R st q k => s c EA ho hw τ S H σ ρ _ _ st q (fun vs H1 ⟨S1, ρ1, xs, hl, s1, hz, q1⟩ => ⟨by rw [hl]; exact sz1000 hz, fun p hp => ?_⟩)⟩
  obtain ⟨S2, ds, ρ2, sm, rl, s2, q2⟩ := uses_sim hl s1 q1
  refine k _ _ ⟨_, ρ2, .lst ds, s2.alloc hp rfl ?_, q2⟩
  simp only [RepA]
  exact ⟨p, vs, rfl, upd_same, rl, by first | rfl | trivial⟩
/-- {} -/
def aDict0 : AE := fun _ ρ Q => Q (.dic []) ρ
theorem qe_dict0 : QE X P (.Dict [] [] pos) aDict0 := ⟨_, pe_dnewK, fun c EA ho hw τ S H σ ρ Q R s q k p hp => k _ _ ⟨S, ρ, .dic [], s.alloc hp rfl (by
  simp only [RepA]
  exact ⟨p, [], rfl, upd_same, by simp only [RepK], by first | rfl | trivial⟩), q⟩⟩
/-- a built-in called by its name -/
def aCB (ra : ARs) (aa : AA) : AE := fun EA ρ Q => aa EA ρ fun xs ρ1 => ra xs ρ1 Q
theorem sim_cb {r : List V → Hp → VK → Prop} {ra : ARs} {ta : TA} {aa : AA} (hr : Sims K r ra) (h : SimA K P ta aa) : SimE K P (tCB r ta) (aCB ra aa) := fun c EA ho hw τ S H σ ρ Q R s q k =>
  h c EA ho hw τ S H σ ρ _ _ s q (fun vs H1 ⟨S1, ρ1, xs, hl, s1, q1⟩ => hr c τ S1 H1 σ ρ1 vs xs Q R hl s1 q1 k)
theorem qe_callB {x : Str} {id : String} {e : Expr} {es : List Expr} {aa : AA} {r : List V → Hp → VK → Prop} {ra : ARs} {p : Pos} (hc : CallR X (.builtin id) r) (hr : Sims X.K r ra) (hg : Gl X x) (hm : X.mg x = none) (hv : bootBuiltins x = some (.builtin id)) (ha : QA X P (e :: es) aa) (hn : x ≠ "__name__" := by decide) (hdb : (x == ("__debug__" : Str)) = false := by decide) (he : starEach (e :: es) X.env = (false, eval e X.env) :: starEach es X.env := by rfl) (hpl : (backTo pos (starEach es X.env)).any (·.1) = false := by rfl) :
    QE X P (.Call (.Name x p) (e :: es) [] pos) (aCB ra aa) := let ⟨_, pa, sa⟩ := ha.ex; ⟨_, pe_callB hc hg hm hv pa hn hdb he hpl, sim_cb hr sa⟩
theorem qe_callTy {x : Str} {T : String} {e : Expr} {es : List Expr} {aa : AA} {r : List V → Hp → VK → Prop} {ra : ARs} {p : Pos} (hc : CallR X (.type T) r) (hr : Sims X.K r ra) (hg : Gl X x) (hm : X.mg x = none) (hv : bootBuiltins x = some (.type T)) (ha : QA X P (e :: es) aa) (hn : x ≠ "__name__" := by decide) (hdb : (x == ("__debug__" : Str)) = false := by decide) (he : starEach (e :: es) X.env = (false, eval e X.env) :: starEach es X.env := by rfl) (hpl : (backTo pos (starEach es X.env)).any (·.1) = false := by rfl) :
    QE X P (.Call (.Name x p) (e :: es) [] pos) (aCB ra aa) := let ⟨_, pa, sa⟩ := ha.ex; ⟨_, pe_callTy hc hg hm hv pa hn hdb he hpl, sim_cb hr sa⟩
end
end Vs

set_option Elab.async false
set_option linter.all false
set_option maxRecDepth 100000
set_option maxHeartbeats 1000000
/-! Vs: operations by values. -/
namespace Vs
open PySem L2
/-! ### data as the library's data -/
mutual
def pd : D → PyData
  | .non => .none
  | .bl b => .bool b
  | .int i => .int i
  | .str x => .str x
  | .lst xs => .list (pdL xs)
  | .tup xs => .tuple (pdL xs)
  | .ty _ => .none
  | .dic _ => .none
  | .obj _ _ => .none
def pdL : List D → List PyData
  | [] => []
  | x :: xs => pd x :: pdL xs
end
/-- no dicts, no instances, nested at most n deep -/
def PlD : Nat → D → Prop
  | _, .non => True
  | _, .bl _ => True
  | _, .int _ => True
  | _, .str _ => True
  | 0, .lst _ => False
  | 0, .tup _ => False
  | n + 1, .lst xs => ∀ x ∈ xs, PlD n x
  | n + 1, .tup xs => ∀ x ∈ xs, PlD n x
  | _, .ty _ => False
  | _, .dic _ => False
  | _, .obj _ _ => False
mutual
def deq : D → D → Bool
  | .non, .non => true
  | .bl a, .bl b => a == b
  | .bl a, .int j => (if a then 1 else 0) == j
  | .int i, .bl b => i == (if b then 1 else 0)
  | .int i, .int j => i == j
  | .str x, .str y => x == y
  | .lst xs, .lst ys => deqL xs ys
  | .tup xs, .tup ys => deqL xs ys
  | _, _ => false
def deqL : List D → List D → Bool
  | [], [] => true
  | x :: xs, y :: ys => deq x y && deqL xs ys
  | _, _ => false
end
theorem pdL_map : ∀ xs : List D, pdL xs = xs.map pd
  | [] => rfl
  | x :: xs => by simp only [pdL, List.map_cons, pdL_map xs]
mutual
theorem deq_pd : ∀ (n : Nat) (d e : D), PlD n d → PlD n e → deq d e = PyData.eqv (pd d) (pd e)
  | n, d, e, hd, he => by
    cases d <;> cases e <;> first
      | (simp only [deq, pd, PyData.eqv]; done)
      | (cases n <;> simp only [PlD] at hd he; done)
      | skip
    · rename_i xs ys
      cases n with
      | zero => simp only [PlD] at hd
      | succ n =>
        simp only [PlD] at hd he
        simp only [deq, pd, PyData.eqv]
        exact deqL_pd n xs ys hd he
    · rename_i xs ys
      cases n with
      | zero => simp only [PlD] at hd
      | succ n =>
        simp only [PlD] at hd he
        simp only [deq, pd, PyData.eqv]
        exact deqL_pd n xs ys hd he
theorem deqL_pd : ∀ (n : Nat) (xs ys : List D), (∀ x ∈ xs, PlD n x) → (∀ x ∈ ys, PlD n x) → deqL xs ys = PyData.eqvAll (pdL xs) (pdL ys)
  | n, [], [], _, _ => by simp only [deqL, pdL, PyData.eqvAll]
  | n, [], _ :: _, _, _ => by simp only [deqL, pdL, PyData.eqvAll]
  | n, _ :: _, [], _, _ => by simp only [deqL, pdL, PyData.eqvAll]
  | n, x :: xs, y :: ys, h1, h2 => by
    simp only [deqL, pdL, PyData.eqvAll]
    rw [deq_pd n x y (h1 x (by simp)) (h2 y (by simp)), deqL_pd n xs ys (fun z hz => h1 z (by simp [hz])) (fun z hz => h2 z (by simp [hz]))]
end
mutual
theorem pd_plain : ∀ (n : Nat) (d : D), PlD n d → (pd d).plain = true ∧ (pd d).depth ≤ n
  | n, d, h => by
    cases d <;> first
      | (simp only [pd, PyData.plain, PyData.depth]; exact ⟨rfl, Nat.zero_le _⟩)
      | (simp only [pd, PyData.plain, PyData.depth]; exact ⟨trivial, Nat.zero_le _⟩)
      | (cases n <;> simp only [PlD] at h; done)
      | skip
    · rename_i xs
      cases n with
      | zero => simp only [PlD] at h
      | succ n =>
        simp only [PlD] at h
        obtain ⟨h1, h2⟩ := pdL_plain n xs h
        simp only [pd, PyData.plain, PyData.depth]
        exact ⟨h1, by omega⟩
    · rename_i xs
      cases n with
      | zero => simp only [PlD] at h
      | succ n =>
        simp only [PlD] at h
        obtain ⟨h1, h2⟩ := pdL_plain n xs h
        simp only [pd, PyData.plain, PyData.depth]
        exact ⟨h1, by omega⟩
theorem pdL_plain : ∀ (n : Nat) (xs : List D), (∀ x ∈ xs, PlD n x) → PyData.plainAll (pdL xs) = true ∧ PyData.depthAll (pdL xs) ≤ n
  | n, [], _ => by simp only [pdL, PyData.plainAll, PyData.depthAll]; exact ⟨trivial, Nat.zero_le _⟩
  | n, x :: xs, h => by
    obtain ⟨h1, h2⟩ := pd_plain n x (h x (by simp))
    obtain ⟨h3, h4⟩ := pdL_plain n xs fun z hz => h z (by simp [hz])
    simp only [pdL, PyData.plainAll, PyData.depthAll, h1, h3]
    exact ⟨rfl, Nat.max_le.mpr ⟨h2, h4⟩⟩
end
section
variable {K : Fg} {H : Hp}
mutual
theorem rep_dp : ∀ (n : Nat) (d : D) (v : V), PlD n d → Rep K H d v → Dp K H v (pd d)
  | n, d, v, h, r => by
    cases d <;> first
      | (simp only [Rep] at r; subst r; simp only [pd]; first | exact .non | exact .bl _ | exact .int _ | exact .str _)
      | (cases n <;> simp only [PlD] at h; done)
      | skip
    · rename_i xs
      cases n with
      | zero => simp only [PlD] at h
      | succ n =>
        simp only [PlD] at h
        simp only [Rep] at r
        obtain ⟨a, vs, rfl, h1, h2⟩ := r
        simp only [pd]
        exact .lst h1 (repL_dp n xs vs h h2)
    · rename_i xs
      cases n with
      | zero => simp only [PlD] at h
      | succ n =>
        simp only [PlD] at h
        simp only [Rep] at r
        obtain ⟨a, vs, rfl, h1, h2⟩ := r
        simp only [pd]
        exact .tup h1 (repL_dp n xs vs h h2)
theorem repL_dp : ∀ (n : Nat) (xs : List D) (vs : List V), (∀ x ∈ xs, PlD n x) → RepL K H xs vs → DpAll K H vs (pdL xs)
  | n, [], vs, _, r => by
    simp only [RepL] at r
    subst r
    simp only [pdL]
    exact .nil
  | n, x :: xs, vs, h, r => by
    simp only [RepL] at r
    obtain ⟨v, w, rfl, r1, r2⟩ := r
    simp only [pdL]
    exact .cons (rep_dp n x v (h x (by simp)) r1) (repL_dp n xs w (fun z hz => h z (by simp [hz])) r2)
end
end
/-! ### what a held thing is -/
section
variable {K : Fg} {c : Ctx} {S H : Hp} {σ : L2.St} {ρ : AEnv} {τ : List (V × A)} {v : V} {x y : A} {i : Nat} {P : Pm}
theorem Stt.thing {d : D} (s : Stt K c S H σ ρ τ) (m : (v, x) ∈ τ) (h : Vs.dat x ρ = some d) : ∃ y g, RepA K S H y v g ∧ y.toD = d := by
  obtain ⟨fp, h1, _, _⟩ := s.own
  cases hx : isLoc x with
  | false =>
    have e : x.toD = d := by
      cases x <;> first | exact Option.some.inj h | cases hx
    have m2 : (v, x) ∈ envP ρ σ ++ tmpP τ := List.mem_append_right _ (List.mem_filter.mpr ⟨m, by cases x <;> first | rfl | cases hx⟩)
    obtain ⟨g, a1, _⟩ := h1.pick m2
    exact ⟨x, g, a1, e⟩
  | true =>
    cases x with
    | loc i =>
      obtain ⟨hv, y, hy⟩ := s.loc v i m
      have e : y.toD = d := by
        simp only [Vs.dat, hy] at h
        exact Option.some.inj h
      obtain ⟨f1, f2, q1, q2, q3⟩ := h1.append
      obtain ⟨fq, z1, z2⟩ := RepP.perm (envP_take hy hv) q1
      obtain ⟨g, h', a1, _, _⟩ := z1
      exact ⟨y, g, a1, e⟩
    | _ => cases hx
theorem repA_lst {g : List Addr} {xs : List D} (r : RepA K S H y v g) (e : y.toD = .lst xs) (hl : Le S H) : ∃ a vs, v = .ref a ∧ SqL K H a vs ∧ RepL K S xs vs := by
  cases y with
  | v d =>
    simp only [A.toD] at e
    subst e
    simp only [RepA, Rep] at r
    obtain ⟨⟨a, vs, h1, h2, h3⟩, _⟩ := r
    exact ⟨a, vs, h1, SqL.le hl h2, h3⟩
  | lst ys =>
    simp only [A.toD] at e
    injection e with e
    subst e
    simp only [RepA] at r
    obtain ⟨a, vs, h1, h2, h3, _⟩ := r
    exact ⟨a, vs, h1, SqL.of h2, h3⟩
  | dic ys => simp only [A.toD] at e; cases e
  | obj C ys => simp only [A.toD] at e; cases e
  | loc i => simp only [RepA] at r
theorem repA_tup {g : List Addr} {xs : List D} (r : RepA K S H y v g) (e : y.toD = .tup xs) (hl : Le S H) : ∃ a vs, v = .ref a ∧ SqT K S a vs ∧ SqT K H a vs ∧ RepL K S xs vs := by
  cases y with
  | v d =>
    simp only [A.toD] at e
    subst e
    simp only [RepA, Rep] at r
    obtain ⟨⟨a, vs, h1, h2, h3⟩, _⟩ := r
    exact ⟨a, vs, h1, h2, SqT.le hl h2, h3⟩
  | lst ys => simp only [A.toD] at e; cases e
  | dic ys => simp only [A.toD] at e; cases e
  | obj C ys => simp only [A.toD] at e; cases e
  | loc i => simp only [RepA] at r
theorem repA_dic {g : List Addr} {xs : List (Key × D)} (r : RepA K S H y v g) (e : y.toD = .dic xs) (hl : Le S H) : ∃ a ws, v = .ref a ∧ Rd H a (.dK ws) ∧ RepK K S xs ws := by
  cases y with
  | v d =>
    simp only [A.toD] at e
    subst e
    simp only [RepA, Rep] at r
    obtain ⟨⟨a, vs, h1, h2, h3⟩, _⟩ := r
    exact ⟨a, vs, h1, Rd.le hl (.inr (.inr ⟨_, rfl⟩)) h2, h3⟩
  | dic ys =>
    simp only [A.toD] at e
    injection e with e
    subst e
    simp only [RepA] at r
    obtain ⟨a, vs, h1, h2, h3, _⟩ := r
    exact ⟨a, vs, h1, .inl h2, h3⟩
  | lst ys => simp only [A.toD] at e; cases e
  | obj C ys => simp only [A.toD] at e; cases e
  | loc i => simp only [RepA] at r
theorem RepL.len : ∀ {xs : List D} {vs : List V}, RepL K S xs vs → vs.length = xs.length
  | [], vs, h => by simp only [RepL] at h; rw [h]; rfl
  | x :: xs, vs, h => by
    simp only [RepL] at h
    obtain ⟨v, r, rfl, _, h2⟩ := h
    simp [RepL.len h2]
theorem RepL.get : ∀ {xs : List D} {vs : List V} {i : Nat} {d : D}, RepL K S xs vs → xs[i]? = some d → ∃ v, vs[i]? = some v ∧ Rep K S d v
  | [], vs, i, d, _, h => by simp at h
  | x :: xs, vs, i, d, h, e => by
    simp only [RepL] at h
    obtain ⟨v, r, rfl, h1, h2⟩ := h
    cases i with
    | zero =>
      have : x = d := by simpa using e
      subst this
      exact ⟨v, by simp, h1⟩
    | succ i =>
      obtain ⟨w, e1, e2⟩ := RepL.get (i := i) h2 (by simpa using e)
      exact ⟨w, by simpa using e1, e2⟩
theorem RepL.at {xs : List D} {vs : List V} {j : Int} {d : D} (h : RepL K S xs vs) (e : atI xs j = some d) : ∃ v, atI vs j = some v ∧ Rep K S d v := by
  unfold atI at e ⊢
  rw [h.len]
  cases q : ixN xs.length j with
  | none => rw [q] at e; cases e
  | some n =>
    rw [q] at e
    exact h.get e
theorem RepL.set : ∀ {xs : List D} {vs : List V} {d : D} {v : V} (i : Nat), RepL K S xs vs → Rep K S d v → RepL K S (xs.set i d) (vs.set i v)
  | [], vs, d, v, i, h, _ => by
    simp only [RepL] at h
    subst h
    simp [RepL]
  | x :: xs, vs, d, v, 0, h, hr => by
    simp only [RepL] at h
    obtain ⟨w, r, rfl, h1, h2⟩ := h
    simp only [List.set_cons_zero, RepL]
    exact ⟨v, r, rfl, hr, h2⟩
  | x :: xs, vs, d, v, i + 1, h, hr => by
    simp only [RepL] at h
    obtain ⟨w, r, rfl, h1, h2⟩ := h
    simp only [List.set_cons_succ, RepL]
    exact ⟨w, r.set i v, rfl, h1, RepL.set i h2 hr⟩
theorem RepL.app : ∀ {xs ys : List D} {vs ws : List V}, RepL K S xs vs → RepL K S ys ws → RepL K S (xs ++ ys) (vs ++ ws)
  | [], ys, vs, ws, h, h' => by
    simp only [RepL] at h
    subst h
    exact h'
  | x :: xs, ys, vs, ws, h, h' => by
    simp only [RepL] at h
    obtain ⟨v, r, rfl, h1, h2⟩ := h
    simp only [List.cons_append, RepL]
    exact ⟨v, r ++ ws, rfl, h1, RepL.app h2 h'⟩
theorem RepL.take : ∀ {xs : List D} {vs : List V} (n : Nat), RepL K S xs vs → RepL K S (xs.take n) (vs.take n)
  | xs, vs, 0, _ => by simp [RepL]
  | [], vs, n + 1, h => by
    simp only [RepL] at h
    subst h
    simp [RepL]
  | x :: xs, vs, n + 1, h => by
    simp only [RepL] at h
    obtain ⟨v, r, rfl, h1, h2⟩ := h
    simp only [List.take_succ_cons, RepL]
    exact ⟨v, r.take n, rfl, h1, RepL.take n h2⟩
theorem RepL.drop : ∀ {xs : List D} {vs : List V} (n : Nat), RepL K S xs vs → RepL K S (xs.drop n) (vs.drop n)
  | xs, vs, 0, h => by simpa using h
  | [], vs, n + 1, h => by
    simp only [RepL] at h
    subst h
    simp [RepL]
  | x :: xs, vs, n + 1, h => by
    simp only [RepL] at h
    obtain ⟨v, r, rfl, h1, h2⟩ := h
    simp only [List.drop_succ_cons]
    exact RepL.drop n h2

/-! ### dicts -/
def valD : List (Key × D) → Key → Option D
  | [], _ => none
  | (k', x) :: r, k => if k' = k then some x else valD r k
def putD (kvs : List (Key × D)) (k : Key) (d : D) : List (Key × D) := if (kvs.any fun p => decide (p.1 = k)) = true then kvs.map (fun p => if p.1 = k then (p.1, d) else p) else kvs ++ [(k, d)]
/-- a datum as a key -/
def keyD : D → Option Key
  | .int i => some (.inl i)
  | .str x => some (.inr x)
  | _ => none
theorem key_rep {d : D} {k : Key} {v : V} (h : keyD d = some k) (r : Rep K S d v) : v = kV k := by
  cases d <;> simp [keyD] at h <;> subst h <;> simpa only [Rep, kV] using r
theorem RepK.val : ∀ {kvs : List (Key × D)} {ws : List (Key × V)} {k : Key}, RepK K S kvs ws → (valD kvs k = none ∧ valV ws k = none) ∨ ∃ d v, valD kvs k = some d ∧ valV ws k = some v ∧ Rep K S d v
  | [], ws, k, h => by
    simp only [RepK] at h
    subst h
    exact .inl ⟨rfl, rfl⟩
  | (k', x) :: r, ws, k, h => by
    simp only [RepK] at h
    obtain ⟨v, r', rfl, h1, h2⟩ := h
    by_cases e : k' = k
    · exact .inr ⟨x, v, by simp [valD, e], by simp [valV, List.find?_cons, e], h1⟩
    · have e1 : valD ((k', x) :: r) k = valD r k := by simp [valD, e]
      have e2 : valV ((k', v) :: r') k = valV r' k := by simp [valV, List.find?_cons, e]
      rw [e1, e2]
      exact RepK.val h2
theorem RepK.len : ∀ {kvs : List (Key × D)} {ws : List (Key × V)}, RepK K S kvs ws → ws.length = kvs.length
  | [], ws, h => by simp only [RepK] at h; rw [h]; rfl
  | (k', x) :: r, ws, h => by
    simp only [RepK] at h
    obtain ⟨v, r', rfl, h1, h2⟩ := h
    simp [RepK.len h2]
theorem RepK.any : ∀ {kvs : List (Key × D)} {ws : List (Key × V)} (k : Key), RepK K S kvs ws → (ws.any fun p => decide (p.1 = k)) = kvs.any fun p => decide (p.1 = k)
  | [], ws, k, h => by simp only [RepK] at h; rw [h]; rfl
  | (k', x) :: r, ws, k, h => by
    simp only [RepK] at h
    obtain ⟨v, r', rfl, h1, h2⟩ := h
    simp only [List.any_cons, RepK.any k h2]
theorem RepK.mapk : ∀ {kvs : List (Key × D)} {ws : List (Key × V)} (k : Key) {d : D} {v : V}, RepK K S kvs ws → Rep K S d v → RepK K S (kvs.map fun p => if p.1 = k then (p.1, d) else p) (ws.map fun p => if p.1 = k then (p.1, v) else p)
  | [], ws, k, d, v, h, _ => by
    simp only [RepK] at h
    subst h
    simp [RepK]
  | (k', x) :: r, ws, k, d, v, h, hr => by
    simp only [RepK] at h
    obtain ⟨w, r', rfl, h1, h2⟩ := h
    have ih := RepK.mapk k h2 hr
    simp only [List.map_cons]
    by_cases e : k' = k
    · simp only [e, if_true, RepK]
      exact ⟨v, _, rfl, hr, ih⟩
    · simp only [e, if_false, RepK]
      exact ⟨w, _, rfl, h1, ih⟩
theorem RepK.app : ∀ {kvs : List (Key × D)} {ws : List (Key × V)} (k : Key) {d : D} {v : V}, RepK K S kvs ws → Rep K S d v → RepK K S (kvs ++ [(k, d)]) (ws ++ [(k, v)])
  | [], ws, k, d, v, h, hr => by
    simp only [RepK] at h
    subst h
    simp only [List.nil_append, RepK]
    exact ⟨v, [], rfl, hr, rfl⟩
  | (k', x) :: r, ws, k, d, v, h, hr => by
    simp only [RepK] at h
    obtain ⟨w, r', rfl, h1, h2⟩ := h
    simp only [List.cons_append, RepK]
    exact ⟨w, _, rfl, h1, RepK.app k h2 hr⟩
theorem RepK.put {kvs : List (Key × D)} {ws : List (Key × V)} (k : Key) {d : D} {v : V} (h : RepK K S kvs ws) (hr : Rep K S d v) : RepK K S (putD kvs k d) (putK ws k v) := by
  unfold putD putK
  rw [h.any k]
  split
  · exact h.mapk k hr
  · exact h.app k hr
end

/-! ### operations by values -/
section
variable {X : Cx} {K : Fg}
/-- numbers -/
def aI0 (g : Int → Int → D) : AR2 := fun x y ρ Q => ∃ i j, dat x ρ = some (.int i) ∧ dat y ρ = some (.int j) ∧ Q (.v (g i j)) ρ
def aI (C : Int → Int → Prop) (g : Int → Int → D) : AR2 := fun x y ρ Q => ∃ i j, dat x ρ = some (.int i) ∧ dat y ρ = some (.int j) ∧ C i j ∧ Q (.v (g i j)) ρ
theorem two_dat {c : Ctx} {S H : Hp} {σ : L2.St} {ρ : AEnv} {τ : List (V × A)} {vx vy : V} {x y : A} {d e : D} (s : Stt K c S H σ ρ ((vy, y) :: (vx, x) :: τ)) (h1 : dat x ρ = some d) (h2 : dat y ρ = some e) : Rep K H d vx ∧ Rep K H e vy :=
  ⟨s.dat (List.mem_cons_of_mem _ (List.mem_cons_self ..)) h1, s.dat (List.mem_cons_self ..) h2⟩
theorem KE.sc {c : Ctx} {S H : Hp} {σ : L2.St} {ρ : AEnv} {τ : List (V × A)} {d : D} {v : V} {Q : AK} (s : Stt K c S H σ ρ τ) (h : Vs.sc d = some v) (q : Q (.v d) ρ) : KE K c σ τ Q v H := ⟨S, ρ, .v d, s.hold (rep_sc h), q⟩
theorem s2_I0 {g : Int → Int → V} {g' : Int → Int → D} (h : ∀ i j, sc (g' i j) = some (g i j)) : Sim2 K (rI0 g) (aI0 g') := by
  intro c τ S H σ ρ vx vy x y Q R s q k
  obtain ⟨i, j, h1, h2, q⟩ := q
  obtain ⟨r1, r2⟩ := two_dat s h1 h2
  simp only [Rep] at r1 r2
  exact ⟨i, j, r1, r2, k _ _ (KE.sc s.drop.drop (h i j) q)⟩
theorem s2_I {C : Int → Int → Prop} {g : Int → Int → V} {g' : Int → Int → D} (h : ∀ i j, sc (g' i j) = some (g i j)) : Sim2 K (rI C g) (aI C g') := by
  intro c τ S H σ ρ vx vy x y Q R s q k
  obtain ⟨i, j, h1, h2, hc, q⟩ := q
  obtain ⟨r1, r2⟩ := two_dat s h1 h2
  simp only [Rep] at r1 r2
  exact ⟨i, j, r1, r2, hc, k _ _ (KE.sc s.drop.drop (h i j) q)⟩
def aAdd : AR2 := aI0 fun i j => .int (i + j)
def aSub : AR2 := aI0 fun i j => .int (i - j)
def aMul : AR2 := aI CMul fun i j => .int (i * j)
def aDiv : AR2 := aI CDiv fun i j => .int (i / j)
def aMod : AR2 := aI (fun _ j => 0 < j) fun i j => .int (i % j)
def aPow : AR2 := aI CPow fun i j => .int (i ^ j.toNat)
def aLt : AR2 := aI0 fun i j => .bl (decide (i < j))
def aLe : AR2 := aI0 fun i j => .bl (decide (i ≤ j))
def aGt : AR2 := aI0 fun i j => .bl (decide (j < i))
def aGe : AR2 := aI0 fun i j => .bl (decide (j ≤ i))
theorem s_add : Sim2 K (rI0 fun i j => .int (i + j)) aAdd := s2_I0 fun _ _ => rfl
theorem s_sub : Sim2 K (rI0 fun i j => .int (i - j)) aSub := s2_I0 fun _ _ => rfl
theorem s_mul : Sim2 K (rI CMul fun i j => .int (i * j)) aMul := s2_I fun _ _ => rfl
theorem s_div : Sim2 K (rI CDiv fun i j => .int (i / j)) aDiv := s2_I fun _ _ => rfl
theorem s_mod : Sim2 K (rI (fun _ j => 0 < j) fun i j => .int (i % j)) aMod := s2_I fun _ _ => rfl
theorem s_pow : Sim2 K (rI CPow fun i j => .int (i ^ j.toNat)) aPow := s2_I fun _ _ => rfl
theorem s_lt : Sim2 K (rI0 fun i j => .bl (decide (i < j))) aLt := s2_I0 fun _ _ => rfl
theorem s_le : Sim2 K (rI0 fun i j => .bl (decide (i ≤ j))) aLe := s2_I0 fun _ _ => rfl
theorem s_gt : Sim2 K (rI0 fun i j => .bl (decide (j < i))) aGt := s2_I0 fun _ _ => rfl
theorem s_ge : Sim2 K (rI0 fun i j => .bl (decide (j ≤ i))) aGe := s2_I0 fun _ _ => rfl
def aNeg : AR1 := fun x ρ Q => ∃ i, dat x ρ = some (.int i) ∧ Q (.v (.int (-i))) ρ
theorem s_neg : Sim1 K (rU fun i => .int (-i)) aNeg := by
  intro c τ S H σ ρ vx x Q R s q k
  obtain ⟨i, h1, q⟩ := q
  have r1 := s.dat (List.mem_cons_self ..) h1
  simp only [Rep] at r1
  exact ⟨i, r1, k _ _ (KE.sc s.drop rfl q)⟩
/-- == -/
def rEqR (K : Fg) : R2 := fun x y H Q => ∃ d e, Rep K H d x ∧ Rep K H e y ∧ PlD 20 d ∧ PlD 20 e ∧ Q (.bl (deq d e)) H
def rNeR (K : Fg) : R2 := fun x y H Q => ∃ d e, Rep K H d x ∧ Rep K H e y ∧ PlD 20 d ∧ PlD 20 e ∧ Q (.bl (!deq d e)) H
theorem or_eq (hu : X.A.units + 64 < cLine) : OpR X (compareOp .Eq) (rEqR X.K) := by
  intro pins s σ H x y v u Q I rx ry h
  obtain ⟨d, e, hd, he, pd1, pe1, q⟩ := h
  obtain ⟨as, r1⟩ := Dp.reads I _ x v (rep_dp 20 d x pd1 hd) rx
  obtain ⟨bs, r2⟩ := Dp.reads I _ y u (rep_dp 20 e y pe1 he) ry
  obtain ⟨a1, a2⟩ := pd_plain 20 d pd1
  obtain ⟨b1, b2⟩ := pd_plain 20 e pe1
  refine SeqAt.eq_plain r1 r2 a1 b1 ?_ ⟨.bl _, H, I, rfl, ?_⟩
  · have := Nat.min_le_left (pd d).depth (pd e).depth
    omega
  · rw [← deq_pd 20 d e pd1 pe1]; exact q
theorem or_ne (hu : X.A.units + 64 < cLine) : OpR X (compareOp .NotEq) (rNeR X.K) := by
  intro pins s σ H x y v u Q I rx ry h
  obtain ⟨d, e, hd, he, pd1, pe1, q⟩ := h
  obtain ⟨as, r1⟩ := Dp.reads I _ x v (rep_dp 20 d x pd1 hd) rx
  obtain ⟨bs, r2⟩ := Dp.reads I _ y u (rep_dp 20 e y pe1 he) ry
  obtain ⟨a1, a2⟩ := pd_plain 20 d pd1
  obtain ⟨b1, b2⟩ := pd_plain 20 e pe1
  refine SeqAt.ne_plain r1 r2 a1 b1 ?_ ⟨.bl _, H, I, rfl, ?_⟩
  · have := Nat.min_le_left (pd d).depth (pd e).depth
    omega
  · rw [← deq_pd 20 d e pd1 pe1]; exact q
def aEq : AR2 := fun x y ρ Q => ∃ d e, dat x ρ = some d ∧ dat y ρ = some e ∧ PlD 20 d ∧ PlD 20 e ∧ Q (.v (.bl (deq d e))) ρ
def aNe : AR2 := fun x y ρ Q => ∃ d e, dat x ρ = some d ∧ dat y ρ = some e ∧ PlD 20 d ∧ PlD 20 e ∧ Q (.v (.bl (!deq d e))) ρ
theorem s_eq : Sim2 K (rEqR K) aEq := by
  intro c τ S H σ ρ vx vy x y Q R s q k
  obtain ⟨d, e, h1, h2, p1, p2, q⟩ := q
  obtain ⟨r1, r2⟩ := two_dat s h1 h2
  exact ⟨d, e, r1, r2, p1, p2, k _ _ (KE.sc s.drop.drop rfl q)⟩
theorem s_ne : Sim2 K (rNeR K) aNe := by
  intro c τ S H σ ρ vx vy x y Q R s q k
  obtain ⟨d, e, h1, h2, p1, p2, q⟩ := q
  obtain ⟨r1, r2⟩ := two_dat s h1 h2
  exact ⟨d, e, r1, r2, p1, p2, k _ _ (KE.sc s.drop.drop rfl q)⟩
/-- is None -/
def isNon : D → Bool
  | .non => true
  | _ => false
theorem isNon_rep {H : Hp} {d : D} {v : V} (r : Rep K H d v) : decide (v = .non) = isNon d := by
  cases d <;> simp only [Rep] at r <;> first
    | (subst r; rfl)
    | (obtain ⟨_, _, rfl, _⟩ := r; rfl)
    | (obtain ⟨_, _, _, rfl, _⟩ := r; rfl)
def aIs : AR2 := fun x y ρ Q => ∃ d, dat x ρ = some d ∧ dat y ρ = some .non ∧ Q (.v (.bl (isNon d))) ρ
def aIsNot : AR2 := fun x y ρ Q => ∃ d, dat x ρ = some d ∧ dat y ρ = some .non ∧ Q (.v (.bl (!isNon d))) ρ
theorem s_is : Sim2 K (fun x y H Q => y = .non ∧ Q (.bl (decide (x = .non))) H) aIs := by
  intro c τ S H σ ρ vx vy x y Q R s q k
  obtain ⟨d, h1, h2, q⟩ := q
  obtain ⟨r1, r2⟩ := two_dat s h1 h2
  simp only [Rep] at r2
  refine ⟨r2, ?_⟩
  rw [isNon_rep r1]
  exact k _ _ (KE.sc s.drop.drop rfl q)
theorem s_isNot : Sim2 K (fun x y H Q => y = .non ∧ Q (.bl (!decide (x = .non))) H) aIsNot := by
  intro c τ S H σ ρ vx vy x y Q R s q k
  obtain ⟨d, h1, h2, q⟩ := q
  obtain ⟨r1, r2⟩ := two_dat s h1 h2
  simp only [Rep] at r2
  refine ⟨r2, ?_⟩
  rw [isNon_rep r1]
  exact k _ _ (KE.sc s.drop.drop rfl q)
/-- x in c -/
def InD (d e : D) (b : Bool) : Prop := match e with
  | .lst xs => PlD 20 d ∧ (∀ x ∈ xs, PlD 20 x) ∧ b = xs.any fun z => deq z d
  | .tup xs => PlD 20 d ∧ (∀ x ∈ xs, PlD 20 x) ∧ b = xs.any fun z => deq z d
  | .dic kvs => ∃ k, keyD d = some k ∧ b = (valD kvs k).isSome
  | .str z => ∃ c, d = .str ⟨#[c]⟩ ∧ b = decide (c ∈ z.cps.toList)
  | _ => False
def rInR (K : Fg) (neg : Bool) : R2 := fun x y H Q => ∃ d e b, Rep K H d x ∧ Rep K H e y ∧ InD d e b ∧ Q (.bl (if neg then !b else b)) H
theorem any_pd {xs : List D} {d : D} (hx : ∀ x ∈ xs, PlD 20 x) (hd : PlD 20 d) : ((pdL xs).any fun y => PyData.eqv y (pd d)) = xs.any fun z => deq z d := by
  rw [pdL_map, List.any_map]
  induction xs with
  | nil => rfl
  | cons x xs ih =>
    have := ih fun z hz => hx z (by simp [hz])
    simp only [List.any_cons, Function.comp] at this ⊢
    rw [deq_pd 20 x d (hx x (by simp)) hd, this]
theorem or_in (hu : X.A.units + 64 < cLine) : OpR X (compareOp .In) (rInR X.K false) := by
  intro pins s σ H x y v u Q I rx ry h
  obtain ⟨d, e, b, hd, he, hin, q⟩ := h
  cases e with
  | lst xs =>
    simp only [InD] at hin
    obtain ⟨p1, p2, rfl⟩ := hin
    obtain ⟨as, r1⟩ := Dp.reads I _ x v (rep_dp 20 d x p1 hd) rx
    obtain ⟨bs, r2⟩ := Dp.reads I _ y u (rep_dp 21 (.lst xs) y (by simpa only [PlD] using p2) he) ry
    obtain ⟨a1, a2⟩ := pd_plain 20 d p1
    obtain ⟨b1, b2⟩ := pdL_plain 20 xs p2
    simp only [pd] at r2
    refine SeqAt.in_list_data r2 r1 b1 a1 ?_ ⟨.bl _, H, I, rfl, ?_⟩
    · have := Nat.min_le_right (PyData.depthAll (pdL xs)) (pd d).depth
      omega
    · rw [any_pd p2 p1]; exact q
  | tup xs =>
    simp only [InD] at hin
    obtain ⟨p1, p2, rfl⟩ := hin
    obtain ⟨as, r1⟩ := Dp.reads I _ x v (rep_dp 20 d x p1 hd) rx
    obtain ⟨bs, r2⟩ := Dp.reads I _ y u (rep_dp 21 (.tup xs) y (by simpa only [PlD] using p2) he) ry
    obtain ⟨a1, a2⟩ := pd_plain 20 d p1
    obtain ⟨b1, b2⟩ := pdL_plain 20 xs p2
    simp only [pd] at r2
    refine SeqAt.in_tuple_data r2 r1 b1 a1 ?_ ⟨.bl _, H, I, rfl, ?_⟩
    · have := Nat.min_le_right (PyData.depthAll (pdL xs)) (pd d).depth
      omega
    · rw [any_pd p2 p1]; exact q
  | dic kvs =>
    simp only [InD] at hin
    obtain ⟨k, hk, rfl⟩ := hin
    simp only [Rep] at he
    obtain ⟨a, ws, rfl, h1, h2⟩ := he
    have ex := key_rep hk hd
    subst ex
    cases ry
    refine d_in (by omega) I (o := valV ws k) (.inl ⟨ws, k, h1, rfl, rfl⟩) rx fun s' I' => ⟨.bl _, H, I', rfl, ?_⟩
    rcases h2.val (k := k) with ⟨e1, e2⟩ | ⟨d', v', e1, e2, _⟩ <;> (rw [e2]; rw [e1] at q; exact q)
  | str z =>
    simp only [InD] at hin
    obtain ⟨ch, rfl, rfl⟩ := hin
    simp only [Rep] at hd he
    exact op_in_sign pins s σ H x y v u Q I rx ry ⟨ch, z, hd, he, q⟩
  | non => cases hin
  | bl _ => cases hin
  | int _ => cases hin
  | ty _ => cases hin
  | obj _ _ => cases hin
theorem or_notIn (hu : X.A.units + 64 < cLine) : OpR X (compareOp .NotIn) (rInR X.K true) := by
  intro pins s σ H x y v u Q I rx ry h
  obtain ⟨d, e, b, hd, he, hin, q⟩ := h
  cases e with
  | lst xs =>
    simp only [InD] at hin
    obtain ⟨p1, p2, rfl⟩ := hin
    obtain ⟨as, r1⟩ := Dp.reads I _ x v (rep_dp 20 d x p1 hd) rx
    obtain ⟨bs, r2⟩ := Dp.reads I _ y u (rep_dp 21 (.lst xs) y (by simpa only [PlD] using p2) he) ry
    obtain ⟨a1, a2⟩ := pd_plain 20 d p1
    obtain ⟨b1, b2⟩ := pdL_plain 20 xs p2
    simp only [pd] at r2
    refine SeqAt.notIn_list_data r2 r1 b1 a1 ?_ ⟨.bl _, H, I, rfl, ?_⟩
    · have := Nat.min_le_right (PyData.depthAll (pdL xs)) (pd d).depth
      omega
    · rw [any_pd p2 p1]; exact q
  | tup xs =>
    simp only [InD] at hin
    obtain ⟨p1, p2, rfl⟩ := hin
    obtain ⟨as, r1⟩ := Dp.reads I _ x v (rep_dp 20 d x p1 hd) rx
    obtain ⟨bs, r2⟩ := Dp.reads I _ y u (rep_dp 21 (.tup xs) y (by simpa only [PlD] using p2) he) ry
    obtain ⟨a1, a2⟩ := pd_plain 20 d p1
    obtain ⟨b1, b2⟩ := pdL_plain 20 xs p2
    simp only [pd] at r2
    refine SeqAt.notIn_tuple_data r2 r1 b1 a1 ?_ ⟨.bl _, H, I, rfl, ?_⟩
    · have := Nat.min_le_right (PyData.depthAll (pdL xs)) (pd d).depth
      omega
    · rw [any_pd p2 p1]; exact q
  | dic kvs =>
    simp only [InD] at hin
    obtain ⟨k, hk, rfl⟩ := hin
    simp only [Rep] at he
    obtain ⟨a, ws, rfl, h1, h2⟩ := he
    have ex := key_rep hk hd
    subst ex
    cases ry
    refine d_notIn (by omega) I (o := valV ws k) (.inl ⟨ws, k, h1, rfl, rfl⟩) rx fun s' I' => ⟨.bl _, H, I', rfl, ?_⟩
    rcases h2.val (k := k) with ⟨e1, e2⟩ | ⟨d', v', e1, e2, _⟩ <;> (rw [e2]; rw [e1] at q; exact q)
  | str z =>
    simp only [InD] at hin
    obtain ⟨ch, rfl, rfl⟩ := hin
    simp only [Rep] at hd he
    exact op_notIn_sign pins s σ H x y v u Q I rx ry ⟨ch, z, hd, he, q⟩
  | non => cases hin
  | bl _ => cases hin
  | int _ => cases hin
  | ty _ => cases hin
  | obj _ _ => cases hin
def aIn (neg : Bool) : AR2 := fun x y ρ Q => ∃ d e b, dat x ρ = some d ∧ dat y ρ = some e ∧ InD d e b ∧ Q (.v (.bl (if neg then !b else b))) ρ
theorem s_in {neg : Bool} : Sim2 K (rInR K neg) (aIn neg) := by
  intro c τ S H σ ρ vx vy x y Q R s q k
  obtain ⟨d, e, b, h1, h2, hi, q⟩ := q
  obtain ⟨r1, r2⟩ := two_dat s h1 h2
  exact ⟨d, e, b, r1, r2, hi, k _ _ (KE.sc s.drop.drop rfl q)⟩
end
end Vs

set_option Elab.async false
set_option linter.all false
set_option maxRecDepth 100000
set_option maxHeartbeats 1000000
/-! Vs: subscripts, built-ins, statements. -/
namespace Vs
open PySem L2
section
variable {X : Cx} {P : Pm} {K : Fg} {a b e : Expr} {pos : Pos} {aa ab : AE}
/-! ### subscripts -/
def ItD (d i z : D) : Prop := match d with
  | .lst xs => ∃ j, i = .int j ∧ atI xs j = some z
  | .tup xs => ∃ j, i = .int j ∧ atI xs j = some z
  | .str x => ∃ j ch, i = .int j ∧ x.length ≤ 100000 ∧ atI x.cps.toList j = some ch ∧ z = .str ⟨#[ch]⟩
  | _ => False
def aItem : AR2 := fun x y ρ Q => ∃ d i z, dat x ρ = some d ∧ dat y ρ = some i ∧ ItD d i z ∧ Q (.v z) ρ
theorem s_item : Sim2 K (rIx K) aItem := by
  intro c τ S H σ ρ vx vy x y Q R s q k
  obtain ⟨d, i, z, h1, h2, hi, q⟩ := q
  obtain ⟨y0, g, r0, e0⟩ := s.thing (List.mem_cons_of_mem _ (List.mem_cons_self ..)) h1
  have r2 := (two_dat s h1 h2).2
  cases d with
  | lst xs =>
    simp only [ItD] at hi
    obtain ⟨j, rfl, hj⟩ := hi
    obtain ⟨p, vs, rfl, h3, h4⟩ := repA_lst r0 e0 s.le
    simp only [Rep] at r2
    obtain ⟨w, e1, e2⟩ := h4.at hj
    exact .inl ⟨p, vs, j, w, rfl, r2, h3, e1, k _ _ ⟨S, ρ, .v z, s.drop.drop.hold e2, q⟩⟩
  | tup xs =>
    simp only [ItD] at hi
    obtain ⟨j, rfl, hj⟩ := hi
    obtain ⟨p, vs, rfl, _, h3, h4⟩ := repA_tup r0 e0 s.le
    simp only [Rep] at r2
    obtain ⟨w, e1, e2⟩ := h4.at hj
    exact .inr (.inl ⟨p, vs, j, w, rfl, r2, h3, e1, k _ _ ⟨S, ρ, .v z, s.drop.drop.hold e2, q⟩⟩)
  | str t =>
    simp only [ItD] at hi
    obtain ⟨j, ch, rfl, hl, hj, rfl⟩ := hi
    have r1 := (two_dat s h1 h2).1
    simp only [Rep] at r1 r2
    exact .inr (.inr ⟨t, j, ch, r1, r2, Nat.le_trans hl (by decide), hj, k _ _ (KE.sc s.drop.drop rfl q)⟩)
  | non => cases hi
  | bl _ => cases hi
  | int _ => cases hi
  | ty _ => cases hi
  | dic _ => cases hi
  | obj _ _ => cases hi
theorem qe_item (ha : QE X P a aa) (hb : QE X P b ab) (hs : PlainIx b := by intro _ _; rfl) : QE X P (.Subscript a b pos) (aOp aItem aa ab) :=
  let ⟨_, p, s⟩ := ha.ex; let ⟨_, p2, s2⟩ := hb.ex; ⟨_, pe_ix ix_seq p p2 hs, sim_op s s2 s_item⟩
/-- d[k] -/
def aDItem : AR2 := fun x y ρ Q => ∃ kvs i k z, dat x ρ = some (.dic kvs) ∧ dat y ρ = some i ∧ keyD i = some k ∧ valD kvs k = some z ∧ Q (.v z) ρ
theorem qe_ditem (hu : X.A.units + 64 < cLine) (ha : QE X P a aa) (hb : QE X P b ab) (hs : NoSl b := by intro _ _; rfl) : QE X P (.Subscript a b pos) (aOp aDItem aa ab) := by
  obtain ⟨ta, pa, sa⟩ := ha.ex
  obtain ⟨tb, pb, sb⟩ := hb.ex
  refine ⟨_, pe_dget (by omega) pa pb hs, fun c EA ho hw τ S H σ ρ Q R s q k => sa c EA ho hw τ S H σ ρ _ _ s q fun vx H1 ⟨S1, ρ1, x, s1, q1⟩ => sb c EA ho hw ((vx, x) :: τ) S1 H1 σ ρ1 _ _ s1 q1 fun vy H2 ⟨S2, ρ2, y, s2, kvs, i, kk, z, h1, h2, h3, h4, q2⟩ => ?_⟩
  obtain ⟨y0, g, r0, e0⟩ := s2.thing (List.mem_cons_of_mem _ (List.mem_cons_self ..)) h1
  obtain ⟨p, ws, rfl, h5, h6⟩ := repA_dic r0 e0 s2.le
  have r2 := (two_dat s2 h1 h2).2
  have ek := key_rep h3 r2
  subst ek
  rcases h6.val (k := kk) with ⟨e1, _⟩ | ⟨d', v', e1, e2, e3⟩
  · rw [e1] at h4; cases h4
  · rw [h4] at e1
    cases e1
    exact ⟨p, v', rfl, .inl ⟨ws, kk, h5, rfl, e2.symm⟩, k _ _ ⟨S2, ρ2, .v z, s2.drop.drop.hold e3, q2⟩⟩
/-- d.get(k) -/
def aGet1 (aa ab : AE) : AE := fun EA ρ Q => aa EA ρ fun x ρ1 => (∃ kvs, dat x ρ1 = some (.dic kvs)) ∧ ab EA ρ1 fun y ρ2 => ∃ kvs i k, dat x ρ2 = some (.dic kvs) ∧ dat y ρ2 = some i ∧ keyD i = some k ∧ Q (.v ((valD kvs k).getD .non)) ρ2
theorem qe_dget1 {o : Expr} {apos cpos : Pos} (hu : X.A.units + 64 < cLine) (ha : QE X P o aa) (hb : QE X P e ab) (m : M1 X o "get" apos e cpos) : QE X P (.Call (.Attribute o "get" apos) [e] [] cpos) (aGet1 aa ab) := by
  obtain ⟨ta, pa, sa⟩ := ha.ex
  obtain ⟨tb, pb, sb⟩ := hb.ex
  refine ⟨_, pe_dget1 (by omega) pa pb m, fun c EA ho hw τ S H σ ρ Q R s q k => sa c EA ho hw τ S H σ ρ _ _ s q fun vx H1 ⟨S1, ρ1, x, s1, ⟨kvs0, h0⟩, q1⟩ => ?_⟩
  obtain ⟨y0, g, r0, e0⟩ := s1.thing (List.mem_cons_self ..) h0
  obtain ⟨p, ws, rfl, h5, h6⟩ := repA_dic r0 e0 s1.le
  refine ⟨p, rfl, .inl ⟨ws, h5⟩, sb c EA ho hw ((.ref p, x) :: τ) S1 H1 σ ρ1 _ _ s1 q1 fun vy H2 ⟨S2, ρ2, y, s2, kvs, i, kk, h1, h2, h3, q2⟩ => ?_⟩
  obtain ⟨y1, g1, r1, e1⟩ := s2.thing (List.mem_cons_of_mem _ (List.mem_cons_self ..)) h1
  obtain ⟨p', ws', e2, h7, h8⟩ := repA_dic r1 e1 s2.le
  cases e2
  have r2 := (two_dat s2 h1 h2).2
  have ek := key_rep h3 r2
  subst ek
  refine ⟨valV ws' kk, .inl ⟨ws', kk, h7, rfl, rfl⟩, ?_⟩
  rcases h8.val (k := kk) with ⟨e1, e2⟩ | ⟨d', v', e1, e2, e3⟩
  · rw [e1] at q2
    rw [e2]
    exact k _ _ (KE.sc s2.drop.drop rfl q2)
  · rw [e1] at q2
    rw [e2]
    exact k _ _ ⟨S2, ρ2, .v d', s2.drop.drop.hold e3, q2⟩

/-! ### slices -/
abbrev AO := AX → AEnv → (Option Int → AEnv → Prop) → Prop
structure QO (X : Cx) (P : Pm) (e : Option Expr) (ao : AO) : Prop where
  ex : ∃ t, PO X e t ∧ ∀ c EA, OsIn X.K c P.O → XOk X.K c P.W EA → ∀ τ S H σ ρ Q (R : Option Int → Hp → Prop), Stt X.K c S H σ ρ τ → ao EA ρ Q → (∀ o H', (∃ S' ρ', Stt X.K c S' H' σ ρ' τ ∧ Q o ρ') → R o H') → t σ H R
def aoNone : AO := fun _ ρ Q => Q none ρ
def aoSome (ae : AE) : AO := fun EA ρ Q => ae EA ρ fun x ρ1 => ∃ i, dat x ρ1 = some (.int i) ∧ Q (some i) ρ1
theorem qo_none : QO X P none aoNone := ⟨_, po_none, fun c EA _ _ τ S H σ ρ Q R s q k => k _ _ ⟨S, ρ, s, q⟩⟩
theorem qo_some (ha : QE X P a aa) : QO X P (some a) (aoSome aa) := by
  obtain ⟨ta, pa, sa⟩ := ha.ex
  refine ⟨_, po_some pa, fun c EA ho hw τ S H σ ρ Q R s q k => sa c EA ho hw τ S H σ ρ _ _ s q fun vx H1 ⟨S1, ρ1, x, s1, i, h1, q1⟩ => ?_⟩
  have r := s1.dat (List.mem_cons_self ..) h1
  simp only [Rep] at r
  exact ⟨i, r, k _ _ ⟨S1, ρ1, s1.drop, q1⟩⟩
def cutD (xs : List D) (lo hi : Option Int) : List D := (xs.drop (HT.sIx xs.length 0 lo)).take (HT.sIx xs.length xs.length hi - HT.sIx xs.length 0 lo)
theorem RepL.cut {S : Hp} {xs : List D} {vs : List V} (lo hi : Option Int) (h : RepL K S xs vs) : RepL K S (cutD xs lo hi) (cutV vs lo hi) := by
  unfold cutD cutV
  rw [h.len]
  exact (h.drop _).take _
def aSlice (aa : AE) (al ah : AO) : AE := fun EA ρ Q => aa EA ρ fun x ρ1 => al EA ρ1 fun lo ρ2 => ah EA ρ2 fun hi ρ3 => ∃ d, dat x ρ3 = some d ∧ match d with
  | .lst xs => Q (.lst (cutD xs lo hi)) ρ3
  | .tup xs => Q (.v (.tup (cutD xs lo hi))) ρ3
  | _ => False
theorem cutV_whole {vs : List V} {lo hi : Option Int} (h1 : HT.sIx vs.length 0 lo = 0) (h2 : HT.sIx vs.length vs.length hi = vs.length) : cutV vs lo hi = vs := by
  unfold cutV
  rw [h1, h2]
  simp
theorem qe_slice {lo hi : Option Expr} {p2 : Pos} {al ah : AO} (ha : QE X P a aa) (hl : QO X P lo al) (hh : QO X P hi ah) : QE X P (.Subscript a (.Slice lo hi none p2) pos) (aSlice aa al ah) := by
  obtain ⟨ta, pa, sa⟩ := ha.ex
  obtain ⟨tl, pl, sl⟩ := hl.ex
  obtain ⟨th, ph, sh⟩ := hh.ex
  refine ⟨_, pe_slice (SlR.or sl_list sl_tupA) pa pl ph, fun c EA ho hw τ S H σ ρ Q R s q k => sa c EA ho hw τ S H σ ρ _ _ s q fun vx H1 ⟨S1, ρ1, x, s1, q1⟩ =>
    sl c EA ho hw _ S1 H1 σ ρ1 _ _ s1 q1 fun l H2 ⟨S2, ρ2, s2, q2⟩ => sh c EA ho hw _ S2 H2 σ ρ2 _ _ s2 q2 fun u H3 ⟨S3, ρ3, s3, d, h1, q3⟩ => ?_⟩
  obtain ⟨y0, g, r0, e0⟩ := s3.thing (List.mem_cons_self ..) h1
  cases d with
  | lst xs =>
    obtain ⟨p, vs, rfl, h5, h6⟩ := repA_lst r0 e0 s3.le
    refine .inl ⟨p, vs, rfl, h5, fun pn hp => k _ _ ⟨S3, ρ3, .lst (cutD xs l u), s3.drop.alloc hp rfl ?_, q3⟩⟩
    simp only [RepA]
    exact ⟨pn, _, rfl, upd_same, h6.cut l u, by first | rfl | trivial⟩
  | tup xs =>
    obtain ⟨p, vs, rfl, h4, h5, h6⟩ := repA_tup r0 e0 s3.le
    refine .inr ⟨p, vs, rfl, h5, fun hw2 => k _ _ ⟨S3, ρ3, .v (.tup (cutD xs l u)), s3.drop.hold ?_, q3⟩, fun _ pn hp => ?_⟩
    · have e1 := h6.cut l u
      rw [cutV_whole hw2.1 hw2.2] at e1
      simp only [Rep]
      exact ⟨p, vs, rfl, h4, e1⟩
    · have f1 := (s3.fresh hp).1
      refine k _ _ ⟨_, ρ3, .v (.tup (cutD xs l u)), s3.drop.share (o := .tup (cutV vs l u)) hp ?_, q3⟩
      simp only [Rep]
      exact ⟨pn, _, rfl, SqT.of upd_same, RepL.le (Le.of_same (Same.up f1)) _ _ (h6.cut l u)⟩
  | non => cases q3
  | bl _ => cases q3
  | int _ => cases q3
  | str _ => cases q3
  | ty _ => cases q3
  | dic _ => cases q3
  | obj _ _ => cases q3

/-! ### texts -/
def aAddS : AR2 := fun x y ρ Q => ∃ i j, dat x ρ = some (.str i) ∧ dat y ρ = some (.str j) ∧ i.length + j.length ≤ 100000 ∧ Q (.v (.str (i ++ j))) ρ
theorem s_addS : Sim2 K (fun x y H Q => ∃ i j, x = .str i ∧ y = .str j ∧ i.length + j.length ≤ sizeLine ∧ Q (.str (i ++ j)) H) aAddS := by
  intro c τ S H σ ρ vx vy x y Q R s q k
  obtain ⟨i, j, h1, h2, hc, q⟩ := q
  obtain ⟨r1, r2⟩ := two_dat s h1 h2
  simp only [Rep] at r1 r2
  exact ⟨i, j, r1, r2, Nat.le_trans hc (by decide), k _ _ (KE.sc s.drop.drop rfl q)⟩
/-- tuples, lists -/
def aAddT : AR2 := fun x y ρ Q => ∃ xs ys, dat x ρ = some (.tup xs) ∧ dat y ρ = some (.tup ys) ∧ xs.length + ys.length ≤ 100000 ∧ Q (.v (.tup (xs ++ ys))) ρ
theorem s_addT : Sim2 K (rCatA K) aAddT := by
  intro c τ S H σ ρ vx vy x y Q R s q k
  obtain ⟨xs, ys, h1, h2, hc, q⟩ := q
  obtain ⟨y0, g, r0, e0⟩ := s.thing (List.mem_cons_of_mem _ (List.mem_cons_self ..)) h1
  obtain ⟨y1, g1, r1, e1⟩ := s.thing (List.mem_cons_self ..) h2
  obtain ⟨p, vs, rfl, a1, a2, a3⟩ := repA_tup r0 e0 s.le
  obtain ⟨p', vs', rfl, b1, b2, b3⟩ := repA_tup r1 e1 s.le
  have ab := a3.app b3
  refine ⟨p, p', vs, vs', rfl, rfl, a2, b2, by rw [a3.len, b3.len]; exact Nat.le_trans hc (by decide), fun z => ?_, fun z1 z2 => ?_, fun z1 z2 pn hp => ?_⟩
  · rw [z] at ab
    refine k _ _ ⟨S, ρ, .v (.tup (xs ++ ys)), s.drop.drop.hold ?_, q⟩
    simp only [Rep]
    exact ⟨p', vs', rfl, b1, ab⟩
  · rw [z2, List.append_nil] at ab
    refine k _ _ ⟨S, ρ, .v (.tup (xs ++ ys)), s.drop.drop.hold ?_, q⟩
    simp only [Rep]
    exact ⟨p, vs, rfl, a1, ab⟩
  · have f1 := (s.fresh hp).1
    refine k _ _ ⟨_, ρ, .v (.tup (xs ++ ys)), s.drop.drop.share (o := .tup (vs ++ vs')) hp ?_, q⟩
    simp only [Rep]
    exact ⟨pn, _, rfl, SqT.of upd_same, RepL.le (Le.of_same (Same.up f1)) _ _ ab⟩

/-! ### built-ins -/
theorem one_arg {c : Ctx} {S H : Hp} {σ : L2.St} {ρ : AEnv} {τ : List (V × A)} {vs : List V} {x : A} (hl : vs.length = [x].length) (s : Stt K c S H σ ρ (vs.zip [x] ++ τ)) : ∃ v, vs = [v] ∧ Stt K c S H σ ρ ((v, x) :: τ) := by
  match vs, hl, s with
  | [v], _, s => exact ⟨v, rfl, by simpa using s⟩
theorem two_args {c : Ctx} {S H : Hp} {σ : L2.St} {ρ : AEnv} {τ : List (V × A)} {vs : List V} {x y : A} (hl : vs.length = [x, y].length) (s : Stt K c S H σ ρ (vs.zip [x, y] ++ τ)) : ∃ v w, vs = [v, w] ∧ Stt K c S H σ ρ ((w, y) :: (v, x) :: τ) := by
  match vs, hl, s with
  | [v, w], _, s => exact ⟨v, w, rfl, by
      have : Stt K c S H σ ρ ((v, x) :: (w, y) :: τ) := by simpa using s
      exact this.swap (.swap _ _ _)⟩
def lenD : D → Option Nat
  | .lst xs => some xs.length
  | .tup xs => some xs.length
  | .dic xs => some xs.length
  | .str x => if x.length ≤ 100000 then some x.length else none
  | _ => none
def rLenR (K : Fg) : List V → Hp → VK → Prop := fun xs H Q => (∃ x n, xs = [x] ∧ LenV K x H n ∧ Q (.int n) H) ∨ ∃ a kvs, xs = [V.ref a] ∧ Rd H a (.dK kvs) ∧ Q (.int kvs.length) H
theorem cr_len : CallR X (.builtin "len") (rLenR X.K) := by
  intro pins s σ H xs us Q I r h
  rcases h with h | ⟨a, kvs, rfl, ha, q⟩
  · exact call_len pins s σ H xs us Q I r h
  · obtain ⟨u, rfl, ru⟩ := vals1 r
    cases ru
    exact d_len I ha fun t s' I' => ⟨.int kvs.length, H, I', ⟨t, rfl⟩, q⟩
def aLen : ARs := fun xs ρ Q => ∃ x d n, xs = [x] ∧ dat x ρ = some d ∧ lenD d = some n ∧ Q (.v (.int n)) ρ
theorem s_len : Sims K (rLenR K) aLen := by
  intro c τ S H σ ρ vs xs Q R hl s q k
  obtain ⟨x, d, n, rfl, h1, h2, q⟩ := q
  obtain ⟨v, rfl, s⟩ := one_arg hl s
  obtain ⟨y0, g, r0, e0⟩ := s.thing (List.mem_cons_self ..) h1
  have kk : R (.int n) H := k _ _ (KE.sc s.drop rfl q)
  cases d with
  | lst xs =>
    simp only [lenD] at h2; injection h2 with h2; subst h2
    obtain ⟨p, vs, rfl, h3, h4⟩ := repA_lst r0 e0 s.le
    exact .inl ⟨_, xs.length, rfl, .inl ⟨vs, h3, h4.len.symm⟩, kk⟩
  | tup xs =>
    simp only [lenD] at h2; injection h2 with h2; subst h2
    obtain ⟨p, vs, rfl, _, h3, h4⟩ := repA_tup r0 e0 s.le
    exact .inl ⟨_, xs.length, rfl, .inr ⟨vs, h3, h4.len.symm⟩, kk⟩
  | dic xs =>
    simp only [lenD] at h2; injection h2 with h2; subst h2
    obtain ⟨p, vs, rfl, h3, h4⟩ := repA_dic r0 e0 s.le
    exact .inr ⟨p, vs, rfl, h3, by rw [h4.len]; exact kk⟩
  | str z =>
    simp only [lenD] at h2
    have r := s.dat (List.mem_cons_self ..) h1
    simp only [Rep] at r
    subst r
    by_cases hz : z.length ≤ 100000
    · rw [if_pos hz] at h2; injection h2 with h2; subst h2
      exact .inl ⟨_, z.length, rfl, ⟨Nat.le_trans hz (by decide), rfl⟩, kk⟩
    · rw [if_neg hz] at h2; cases h2
  | non => cases h2
  | bl _ => cases h2
  | int _ => cases h2
  | ty _ => cases h2
  | obj _ _ => cases h2
/-- int(x) of a number or a truth value -/
def aInt : ARs := fun xs ρ Q => ∃ x, xs = [x] ∧ ((∃ i, dat x ρ = some (.int i) ∧ Q (.v (.int i)) ρ) ∨ ∃ b, dat x ρ = some (.bl b) ∧ Q (.v (.int (if b then 1 else 0))) ρ)
theorem s_int : Sims K (fun xs H Q => (∃ i, xs = [.int i] ∧ Q (.int i) H) ∨ ∃ k, xs = [.bl k] ∧ Q (.int (if k then 1 else 0)) H) aInt := by
  intro c τ S H σ ρ vs xs Q R hl s q k
  obtain ⟨x, rfl, q⟩ := q
  obtain ⟨v, rfl, s⟩ := one_arg hl s
  rcases q with ⟨i, h1, q⟩ | ⟨b, h1, q⟩
  · have r := s.dat (List.mem_cons_self ..) h1
    simp only [Rep] at r
    exact .inl ⟨i, by rw [r], k _ _ (KE.sc s.drop rfl q)⟩
  · have r := s.dat (List.mem_cons_self ..) h1
    simp only [Rep] at r
    exact .inr ⟨b, by rw [r], k _ _ (KE.sc s.drop rfl q)⟩
def aAbs : ARs := fun xs ρ Q => ∃ x i, xs = [x] ∧ dat x ρ = some (.int i) ∧ Q (.v (.int (if i < 0 then -i else i))) ρ
theorem s_abs : Sims K (fun xs H Q => ∃ i, xs = [.int i] ∧ Q (.int (if i < 0 then -i else i)) H) aAbs := by
  intro c τ S H σ ρ vs xs Q R hl s q k
  obtain ⟨x, i, rfl, h1, q⟩ := q
  obtain ⟨v, rfl, s⟩ := one_arg hl s
  have r := s.dat (List.mem_cons_self ..) h1
  simp only [Rep] at r
  exact ⟨i, by rw [r], k _ _ (KE.sc s.drop rfl q)⟩
def aMax2 : ARs := fun xs ρ Q => ∃ x y i j, xs = [x, y] ∧ dat x ρ = some (.int i) ∧ dat y ρ = some (.int j) ∧ Q (.v (.int (if j > i then j else i))) ρ
def aMin2 : ARs := fun xs ρ Q => ∃ x y i j, xs = [x, y] ∧ dat x ρ = some (.int i) ∧ dat y ρ = some (.int j) ∧ Q (.v (.int (if j < i then j else i))) ρ
theorem s_max2 : Sims K (fun xs H Q => ∃ i j, xs = [.int i, .int j] ∧ Q (.int (if j > i then j else i)) H) aMax2 := by
  intro c τ S H σ ρ vs xs Q R hl s q k
  obtain ⟨x, y, i, j, rfl, h1, h2, q⟩ := q
  obtain ⟨v, w, rfl, s2⟩ := two_args (x := x) (y := y) hl s
  obtain ⟨r1, r2⟩ := two_dat s2 h1 h2
  simp only [Rep] at r1 r2
  exact ⟨i, j, by rw [r1, r2], k _ _ (KE.sc s2.drop.drop rfl q)⟩
theorem s_min2 : Sims K (fun xs H Q => ∃ i j, xs = [.int i, .int j] ∧ Q (.int (if j < i then j else i)) H) aMin2 := by
  intro c τ S H σ ρ vs xs Q R hl s q k
  obtain ⟨x, y, i, j, rfl, h1, h2, q⟩ := q
  obtain ⟨v, w, rfl, s2⟩ := two_args (x := x) (y := y) hl s
  obtain ⟨r1, r2⟩ := two_dat s2 h1 h2
  simp only [Rep] at r1 r2
  exact ⟨i, j, by rw [r1, r2], k _ _ (KE.sc s2.drop.drop rfl q)⟩
/-- list(x): of a list, a tuple, a dict -/
def keyOf : Key → D
  | .inl i => .int i
  | .inr x => .str x
def itemsD : D → Option (List D)
  | .lst xs => some xs
  | .tup xs => some xs
  | .dic kvs => some (kvs.map fun p => keyOf p.1)
  | _ => none
def rListR (K : Fg) : List V → Hp → VK → Prop := fun xs H Q => (∃ p ys, xs = [.ref p] ∧ (SqL K H p ys ∨ SqT K H p ys) ∧ ∀ l, H l = none → Q (.ref l) (upd H l (.lst ys))) ∨
  ∃ (a : Addr) (kvs : List (Key × V)), xs = [.ref a] ∧ Rd H a (.dK kvs) ∧ ∀ p, H p = none → Q (.ref p) (upd H p (.lst (kvs.map fun kv => kV kv.1)))
theorem cr_list (hc : X.calm = true) : CallR X (.type "list") (rListR X.K) := by
  intro pins s σ H xs us Q I r h
  rcases h with h | h
  · exact call_list_of pins s σ H xs us Q I r h
  · exact call_listD hc pins s σ H xs us Q I r h
theorem repK_keys {S : Hp} : ∀ {kvs : List (Key × D)} {ws : List (Key × V)}, RepK K S kvs ws → RepL K S (kvs.map fun p => keyOf p.1) (ws.map fun kv => kV kv.1)
  | [], ws, h => by
    simp only [RepK] at h
    subst h
    simp [RepL]
  | (k, x) :: r, ws, h => by
    simp only [RepK] at h
    obtain ⟨v, r', rfl, h1, h2⟩ := h
    simp only [List.map_cons, RepL]
    refine ⟨_, _, rfl, ?_, repK_keys h2⟩
    cases k <;> simp only [keyOf, Rep, kV]
def aList : ARs := fun xs ρ Q => ∃ x d ys, xs = [x] ∧ dat x ρ = some d ∧ itemsD d = some ys ∧ Q (.lst ys) ρ
theorem Stt.newList {c : Ctx} {S H : Hp} {σ : L2.St} {ρ : AEnv} {τ : List (V × A)} {p : Addr} {vs : List V} {ds : List D} (s : Stt K c S H σ ρ τ) (hp : H p = none) (h : RepL K S ds vs) : Stt K c S (upd H p (.lst vs)) σ ρ ((.ref p, .lst ds) :: τ) := by
  refine s.alloc hp rfl ?_
  simp only [RepA]
  exact ⟨p, vs, rfl, upd_same, h, by first | rfl | trivial⟩
theorem s_list : Sims K (rListR K) aList := by
  intro c τ S H σ ρ vs xs Q R hl s q k
  obtain ⟨x, d, ys, rfl, h1, h2, q⟩ := q
  obtain ⟨v, rfl, s⟩ := one_arg hl s
  obtain ⟨y0, g, r0, e0⟩ := s.thing (List.mem_cons_self ..) h1
  cases d with
  | lst xs =>
    simp only [itemsD] at h2; injection h2 with h2; subst h2
    obtain ⟨p, vs, rfl, h3, h4⟩ := repA_lst r0 e0 s.le
    exact .inl ⟨p, vs, rfl, .inl h3, fun l hn => k _ _ ⟨S, ρ, _, s.drop.newList hn h4, q⟩⟩
  | tup xs =>
    simp only [itemsD] at h2; injection h2 with h2; subst h2
    obtain ⟨p, vs, rfl, _, h3, h4⟩ := repA_tup r0 e0 s.le
    exact .inl ⟨p, vs, rfl, .inr h3, fun l hn => k _ _ ⟨S, ρ, _, s.drop.newList hn h4, q⟩⟩
  | dic xs =>
    simp only [itemsD] at h2; injection h2 with h2; subst h2
    obtain ⟨p, vs, rfl, h3, h4⟩ := repA_dic r0 e0 s.le
    exact .inr ⟨p, vs, rfl, h3, fun l hn => k _ _ ⟨S, ρ, _, s.drop.newList hn (repK_keys h4), q⟩⟩
  | non => cases h2
  | bl _ => cases h2
  | int _ => cases h2
  | str _ => cases h2
  | ty _ => cases h2
  | obj _ _ => cases h2
/-- tuple(x) of a list or a tuple -/
def aTuple : ARs := fun xs ρ Q => ∃ x d ys, xs = [x] ∧ dat x ρ = some d ∧ (d = .lst ys ∨ d = .tup ys) ∧ Q (.v (.tup ys)) ρ
theorem s_tuple : Sims K (fun xs H Q => ∃ p ys, xs = [.ref p] ∧ ((SqL K H p ys ∧ ∀ l, H l = none → Q (.ref l) (upd H l (.tup ys))) ∨ (SqT K H p ys ∧ Q (.ref p) H))) aTuple := by
  intro c τ S H σ ρ vs xs Q R hl s q k
  obtain ⟨x, d, ys, rfl, h1, h2, q⟩ := q
  obtain ⟨v, rfl, s⟩ := one_arg hl s
  obtain ⟨y0, g, r0, e0⟩ := s.thing (List.mem_cons_self ..) h1
  rcases h2 with rfl | rfl
  · obtain ⟨p, vs, rfl, h3, h4⟩ := repA_lst r0 e0 s.le
    refine ⟨p, vs, rfl, .inl ⟨h3, fun l hn => ?_⟩⟩
    have f1 := (s.fresh hn).1
    refine k _ _ ⟨_, ρ, _, s.drop.share (o := .tup vs) (d := .tup ys) hn ?_, q⟩
    simp only [Rep]
    exact ⟨l, vs, rfl, SqT.of upd_same, RepL.le (Le.of_same (Same.up f1)) _ _ h4⟩
  · obtain ⟨p, vs, rfl, h3, h5, h4⟩ := repA_tup r0 e0 s.le
    refine ⟨p, vs, rfl, .inr ⟨h5, k _ _ ⟨S, ρ, _, s.drop.hold (d := .tup ys) ?_, q⟩⟩⟩
    simp only [Rep]
    exact ⟨p, vs, rfl, h3, h4⟩
/-- all(xs) of a list of truth values -/
def aAll : ARs := fun xs ρ Q => ∃ (x : A) (bs : List Bool), xs = [x] ∧ dat x ρ = some (.lst (bs.map D.bl)) ∧ Q (.v (.bl (bs.all id))) ρ
theorem repL_bl {S : Hp} : ∀ {bs : List Bool} {vs : List V}, RepL K S (bs.map D.bl) vs → vs = bs.map V.bl
  | [], vs, h => by simp only [List.map_nil, RepL] at h; rw [h]; rfl
  | b :: bs, vs, h => by
    simp only [List.map_cons, RepL] at h
    obtain ⟨v, r, rfl, h1, h2⟩ := h
    simp only [Rep] at h1
    rw [h1, repL_bl h2]; rfl
theorem s_all : Sims K (rAll K) aAll := by
  intro c τ S H σ ρ vs xs Q R hl s q k
  obtain ⟨x, bs, rfl, h1, q⟩ := q
  obtain ⟨v, rfl, s⟩ := one_arg hl s
  obtain ⟨y0, g, r0, e0⟩ := s.thing (List.mem_cons_self ..) h1
  obtain ⟨p, vs, rfl, h3, h4⟩ := repA_lst r0 e0 s.le
  have e := repL_bl h4
  subst e
  exact ⟨p, bs, rfl, h3, k _ _ (KE.sc s.drop rfl q)⟩
end
end Vs

set_option Elab.async false
set_option linter.all false
set_option maxRecDepth 100000
set_option maxHeartbeats 1000000
/-! Vs: statements, defs, calls. -/
namespace Vs
open PySem L2
section
variable {X : Cx} {P : Pm} {K : Fg} {pos : Pos}
/-! ### statements -/
def asNext : AS := fun DA ρ => DA.nx ρ
def asSeq (a b : AS) : AS := fun DA ρ => a { DA with nx := b DA } ρ
def asExpr (ae : AE) : AS := fun DA ρ => ae DA.ex ρ fun _ ρ' => DA.nx ρ'
def retA (x : A) (ρ : AEnv) (rt : A → AEnv → Prop) : Prop := match x with
  | .loc i => ∃ y, ρ[i]? = some (some y) ∧ rt y (ρ.set i none)
  | y => rt y ρ
def asRet (ae : AE) : AS := fun DA ρ => ae DA.ex ρ fun x ρ' => retA x ρ' DA.rt
def asRetN : AS := fun DA ρ => DA.rt (.v .non) ρ
def asIf (t : AT) (a b : AS) : AS := fun DA ρ => t DA.ex ρ fun b' ρ' => if b' = true then a DA ρ' else b DA ρ'
def asBreak : AS := fun DA ρ => DA.bk ρ
def asCont : AS := fun DA ρ => DA.ct ρ
theorem ss_next : SimS K P tNext asNext := fun c D DA _ _ l S H σ ρ s q => l.nx S H σ ρ s q
theorem ss_seq {t u : TS} {a b : AS} (h1 : SimS K P t a) (h2 : SimS K P u b) : SimS K P (tSeq t u) (asSeq a b) := fun c D DA ho hw l S H σ ρ s q =>
  h1 c { D with nx := u D } { DA with nx := b DA } ho hw ⟨fun S H σ ρ s q => h2 c D DA ho hw l S H σ ρ s q, l.rt, l.bk, l.ct⟩ S H σ ρ s q
theorem ss_expr {te : TE} {ae : AE} (h : SimE K P te ae) : SimS K P (tDrop te) (asExpr ae) := fun c D DA ho hw l S H σ ρ s q =>
  h c DA.ex ho hw [] S H σ ρ _ _ s q fun v H1 ⟨S1, ρ1, x, s1, q1⟩ => l.nx S1 H1 σ ρ1 s1.drop q1
theorem ret_sim {c : Ctx} {S H : Hp} {σ : L2.St} {ρ : AEnv} {v : V} {x : A} {rt : A → AEnv → Prop} {R : Prop} (s : Stt K c S H σ ρ [(v, x)]) (h : retA x ρ rt) (k : ∀ y ρ', isLoc y = false → Stt K c S H σ ρ' [(v, y)] → rt y ρ' → R) : R := by
  cases hx : isLoc x with
  | false =>
    refine k x ρ hx s ?_
    cases x <;> first | exact h | cases hx
  | true =>
    cases x with
    | loc i =>
      obtain ⟨y, hy, hr⟩ := h
      have hv := (s.loc v i (List.mem_cons_self ..)).1
      exact k y _ (isLoc_of (s.env.get hy).2) (s.drop.takeSlot hy hv (fun u m => by simp at m)) hr
    | _ => cases hx
theorem ss_ret {te : TE} {ae : AE} (h : SimE K P te ae) : SimS K P (tRet te) (asRet ae) := fun c D DA ho hw l S H σ ρ s q =>
  h c DA.ex ho hw [] S H σ ρ _ _ s q fun v H1 ⟨S1, ρ1, x, s1, q1⟩ => ret_sim s1 q1 fun y ρ' hy s2 q2 => l.rt S1 H1 σ ρ' v y s2 hy q2
theorem ss_if {t : TT} {a : AT} {u u' : TS} {b b' : AS} (h : SimT K P t a) (h1 : SimS K P u b) (h2 : SimS K P u' b') : SimS K P (tIfS t u u') (asIf a b b') := fun c D DA ho hw l S H σ ρ s q =>
  h c DA.ex ho hw [] S H σ ρ _ _ s q fun v H1 ⟨S1, ρ1, s1, q1⟩ => by
    cases v with
    | true => rw [if_pos rfl] at q1 ⊢; exact h1 c D DA ho hw l S1 H1 σ ρ1 s1 q1
    | false => rw [if_neg Bool.false_ne_true] at q1 ⊢; exact h2 c D DA ho hw l S1 H1 σ ρ1 s1 q1
theorem qss_nil : QSs X P [] asNext := ⟨_, pss_nil, ss_next⟩
theorem qss_cons {st : Stmt} {rest : List Stmt} {a b : AS} (h1 : QS X P st a) (h2 : QSs X P rest b) : QSs X P (st :: rest) (asSeq a b) := let ⟨_, p, s⟩ := h1.ex; let ⟨_, p2, s2⟩ := h2.ex; ⟨_, pss_cons p p2, ss_seq s s2⟩
theorem qss_one {st : Stmt} {a : AS} (h1 : QS X P st a) : QSs X P [st] a := let ⟨_, p, s⟩ := h1.ex; ⟨_, pss_one p, s⟩
theorem qs_pass : QS X P (.Pass pos) asNext := ⟨_, ps_pass, ss_next⟩
theorem qs_break : QS X P (.Break pos) asBreak := ⟨_, ps_break, fun c D DA _ _ l S H σ ρ s q => l.bk S H σ ρ s q⟩
theorem qs_cont : QS X P (.Continue pos) asCont := ⟨_, ps_continue, fun c D DA _ _ l S H σ ρ s q => l.ct S H σ ρ s q⟩
theorem qs_expr {e : Expr} {ae : AE} (h : QE X P e ae) (hs : swapsWith e none pos.line X.env = pure false := by rfl) : QS X P (.Expr e pos) (asExpr ae) := let ⟨_, p, s⟩ := h.ex; ⟨_, ps_expr p hs, ss_expr s⟩
theorem qs_ret {e : Expr} {ae : AE} (h : QE X P e ae) : QS X P (.Return (some e) pos) (asRet ae) := let ⟨_, p, s⟩ := h.ex; ⟨_, ps_ret p, ss_ret s⟩
theorem qs_retN : QS X P (.Return none pos) asRetN := ⟨_, ps_retN, fun c D DA _ _ l S H σ ρ s q => l.rt S H σ ρ .non (.v .non) (s.hold (rep_sc rfl)) rfl q⟩
theorem qs_if {e : Expr} {a b : List Stmt} {t : AT} {u u' : AS} (h : QT X P e t) (h1 : QSs X P a u) (h2 : QSs X P b u') : QS X P (.If e a b pos) (asIf t u u') := let ⟨_, p, s⟩ := h.ex; let ⟨_, p1, s1⟩ := h1.ex; let ⟨_, p2, s2⟩ := h2.ex; ⟨_, ps_if p p1 p2, ss_if s s1 s2⟩

/-! ### a name gets a thing -/
theorem Stt.clear {c : Ctx} {S H : Hp} {σ : L2.St} {ρ : AEnv} {τ : List (V × A)} (s : Stt K c S H σ ρ τ) (i : Nat) (hn : ∀ v, (v, A.loc i) ∉ τ) : Stt K c S H σ (ρ.set i none) τ := by
  cases h : ρ[i]? with
  | none =>
    have : ρ.set i none = ρ := List.set_eq_of_length_le (by simpa using h)
    rw [this]; exact s
  | some o =>
    cases o with
    | none => rw [set_self h]; exact s
    | some y =>
      obtain ⟨⟨v, hv⟩, _⟩ := s.env.get h
      exact (s.takeSlot h hv hn).drop
theorem Stt.store {c : Ctx} {S H : Hp} {σ : L2.St} {ρ : AEnv} {τ : List (V × A)} {v : V} {x : A} {i : Nat} (s : Stt K c S H σ ρ ((v, x) :: τ)) (hx : isLoc x = false) (ho : ∀ p ∈ c.os, p.1 ≠ i) (hn : ∀ u, (u, A.loc i) ∉ τ) : Stt K c S H (σ.set i (some v)) (ρ.set i (some x)) τ := by
  have s1 : Stt K c S H σ (ρ.set i none) ((v, x) :: τ) := s.clear i fun u m => by
    rcases List.mem_cons.mp m with q | q
    · injection q with _ q; rw [← q] at hx; cases hx
    · exact hn u q
  refine ⟨?_, ?_, fun u j m => ?_, s1.le, s1.r, s1.new, s1.up, fun p m => ?_⟩
  · by_cases hi : i < ρ.length
    · obtain ⟨fp, h1, h2, h3⟩ := s1.own
      have hlen : i < σ.length := by rw [s.env.len]; exact hi
      have hv : (σ.set i (some v))[i]? = some (some v) := by rw [List.getElem?_set_self hlen]
      have p : (envP (ρ.set i none) σ ++ tmpP ((v, x) :: τ)).Perm (envP (ρ.set i (some x)) (σ.set i (some v)) ++ tmpP τ) := by
        rw [tmpP_cons hx]
        have q := envP_some (ρ := ρ) (σ := σ.set i (some v)) (i := i) (y := x) (v := v) hi hv
        rw [envP_none] at q
        exact List.perm_middle.trans (List.Perm.append_right _ q.symm)
      obtain ⟨fq, q1, q2⟩ := RepP.perm p h1
      exact ⟨fq, q1, q2.nodup_iff.mp h2, fun a ha => h3 a (q2.symm.subset ha)⟩
    · have hl : ρ.length ≤ i := by omega
      rw [List.set_eq_of_length_le hl, List.set_eq_of_length_le (by rw [s.env.len]; exact hl)]
      exact s.drop.own
  · exact s.env.store fun y e => by cases e; exact ⟨⟨v, rfl⟩, not_loc hx⟩
  · obtain ⟨z1, y, z2⟩ := s.loc u j (List.mem_cons_of_mem _ m)
    have ne : i ≠ j := fun e => hn u (e ▸ m)
    exact ⟨by rw [List.getElem?_set_ne ne]; exact z1, y, by rw [List.getElem?_set_ne ne]; exact z2⟩
  · rw [List.getElem?_set_ne (Ne.symm (ho p m))]
    exact s.os p m
def setA (x : A) (ρ : AEnv) (i : Nat) (nx : AEnv → Prop) : Prop := match x with
  | .loc j => ∃ y, ρ[j]? = some (some y) ∧ nx ((ρ.set j (some (.v y.toD))).set i (some (.v y.toD)))
  | y => nx (ρ.set i (some y))
theorem set_sim {c : Ctx} {S H : Hp} {σ : L2.St} {ρ : AEnv} {v : V} {x : A} {i : Nat} {nx : AEnv → Prop} {R : Prop} (s : Stt K c S H σ ρ [(v, x)]) (ho : ∀ p ∈ c.os, p.1 ≠ i) (h : setA x ρ i nx) (k : ∀ S' ρ', Stt K c S' H (σ.set i (some v)) ρ' [] → nx ρ' → R) : R := by
  cases hx : isLoc x with
  | false =>
    refine k S _ (s.store hx ho (by simp)) ?_
    cases x <;> first | exact h | cases hx
  | true =>
    cases x with
    | loc j =>
      obtain ⟨y, hy, hk⟩ := h
      obtain ⟨S', d, ρ', sm, s', hk'⟩ := use_sim (k := fun d ρ' => nx (ρ'.set i (some (.v d)))) s ⟨y, hy, hk⟩
      exact k S' _ (s'.store rfl ho (by simp)) hk'
    | _ => cases hx
def asSet (i : Nat) (ae : AE) : AS := fun DA ρ => ae DA.ex ρ fun x ρ' => setA x ρ' i DA.nx
theorem OsIn.ne {K : Fg} {c : Ctx} {O : OL} {i : Nat} (h : OsIn K c O) (hi : i ∉ O) : ∀ p ∈ c.os, p.1 ≠ i := fun p m e => hi (e ▸ h.1 p m)
theorem qs_set {i : Nat} {x : Str} {e : Expr} {ae : AE} {pos' : Pos} (hN : X.N.Nodup) (hi : X.N[i]? = some x) (hx : Loc X.env.scope x) (h : QE X P e ae) (hO : i ∉ P.O) (hs : swapsWith e (some (.Name x pos')) pos.line X.env = pure false := by rfl) (hf : X.fn x = true ∨ X.env.scope.names.lookup x = some .local := by first | exact .inl rfl | exact .inr rfl | assumption) :
    QS X P (.Assign [.Name x pos'] e pos) (asSet i ae) := by
  obtain ⟨t, p, s⟩ := h.ex
  refine ⟨_, ps_set hN hi hx p hs hf, fun c D DA ho hw l S H σ ρ st q => s c DA.ex ho hw [] S H σ ρ _ _ st q fun v H1 ⟨S1, ρ1, y, s1, q1⟩ => ?_⟩
  exact set_sim s1 (ho.ne hO) q1 fun S' ρ' s2 q2 => l.nx S' H1 _ ρ' s2 q2

/-! ### an owned thing is changed -/
theorem Stt.write {c : Ctx} {S H : Hp} {σ : L2.St} {ρ : AEnv} {τ : List (V × A)} {p : Addr} {o : HO} {y y' : A} {j : Nat} (s : Stt K c S H σ ρ τ) (h : ρ[j]? = some (some y)) (hv : σ[j]? = some (some (.ref p))) (hg : ∀ g, RepA K S H y (.ref p) g → g = [p]) (hy : isLoc y' = false) (hr : RepA K S (upd H p o) y' (.ref p) [p]) :
    Stt K c S (upd H p o) σ (ρ.set j (some y')) τ := by
  refine s.slotTo h hv (fun g f a1 a2 nd a3 => ?_) hy
  have eg := hg g a1
  subst eg
  have np : p ∉ f := fun z => (List.nodup_append.mp nd).2.2 p (List.mem_cons_self ..) p z rfl
  have Sp : S p = none := (a3 p (by simp)).1
  have Rp : c.R p = none := (a3 p (by simp)).2
  exact ⟨[p], hr, nd, a3, fun a ha => upd_ne (fun z => np (z ▸ ha)), Same.refl S, s.le.up Sp, fun a o' e => by rw [upd_ne (ne_of_none e Rp)]; exact s.r a o' e, s.new⟩
/-- o[i] = e, o an owned list -/
def asSetL (av ao ai : AE) : AS := fun DA ρ => av DA.ex ρ fun x ρ1 => useA x ρ1 fun d ρ2 => ao DA.ex ρ2 fun o ρ3 => ai DA.ex ρ3 fun iv ρ4 => ∃ j xs k n, o = .loc j ∧ ρ4[j]? = some (some (.lst xs)) ∧ dat iv ρ4 = some (.int k) ∧ ixN xs.length k = some n ∧ DA.nx (ρ4.set j (some (.lst (xs.set n d))))
def asSetD (av ao ai : AE) : AS := fun DA ρ => av DA.ex ρ fun x ρ1 => useA x ρ1 fun d ρ2 => ao DA.ex ρ2 fun o ρ3 => ai DA.ex ρ3 fun iv ρ4 => ∃ j kvs i k, o = .loc j ∧ ρ4[j]? = some (some (.dic kvs)) ∧ dat iv ρ4 = some i ∧ keyD i = some k ∧ kvs.length ≤ 100000 ∧ DA.nx (ρ4.set j (some (.dic (putD kvs k d))))
theorem RepA.lst_inv {S H : Hp} {xs : List D} {v : V} {g : List Addr} (h : RepA K S H (.lst xs) v g) : ∃ a vs, v = .ref a ∧ H a = some (.lst vs) ∧ RepL K S xs vs ∧ g = [a] := by simpa only [RepA] using h
theorem RepA.dic_inv {S H : Hp} {xs : List (Key × D)} {v : V} {g : List Addr} (h : RepA K S H (.dic xs) v g) : ∃ a ws, v = .ref a ∧ H a = some (.dK ws) ∧ RepK K S xs ws ∧ g = [a] := by simpa only [RepA] using h
theorem RepA.mk_lst {S H : Hp} {xs : List D} {a : Addr} {vs : List V} (h : H a = some (.lst vs)) (r : RepL K S xs vs) : RepA K S H (.lst xs) (.ref a) [a] := by
  simp only [RepA]
  exact ⟨a, vs, rfl, h, r, by first | rfl | trivial⟩
theorem RepA.mk_dic {S H : Hp} {xs : List (Key × D)} {a : Addr} {vs : List (Key × V)} (h : H a = some (.dK vs)) (r : RepK K S xs vs) : RepA K S H (.dic xs) (.ref a) [a] := by
  simp only [RepA]
  exact ⟨a, vs, rfl, h, r, by first | rfl | trivial⟩
theorem Stt.slotA {c : Ctx} {S H : Hp} {σ : L2.St} {ρ : AEnv} {τ : List (V × A)} {y : A} {j : Nat} {v : V} (s : Stt K c S H σ ρ τ) (h : ρ[j]? = some (some y)) (hv : σ[j]? = some (some v)) : ∃ g, RepA K S H y v g := by
  obtain ⟨fp, h1, _, _⟩ := s.own
  obtain ⟨f1, f2, q1, q2, q3⟩ := h1.append
  obtain ⟨fq, z1, z2⟩ := RepP.perm (envP_take h hv) q1
  obtain ⟨g, h', a1, _, _⟩ := z1
  exact ⟨g, a1⟩
theorem qs_setL {o i e : Expr} {av ao ai : AE} {pos' : Pos} (hv : QE X P e av) (ho' : QE X P o ao) (hi : QE X P i ai)
    (ha : ∀ v, assign (.Subscript o i pos') X.env v = (do
      let ov ← holding [v] (eval o X.env)
      let iv ← holding [v, ov] (eval i X.env)
      standAt pos'
      holding [v, ov, iv] (setItem ov iv v)
      release [v, ov, iv] []) := by intro _; rfl)
    (hs : swapsWithSole [.Subscript o i pos'] e pos.line X.env = pure false := by rfl) (hw : swappedStores [.Subscript o i pos'] e X.env = pure none := by rfl)
    (h1 : (assignEach [.Subscript o i pos'] X.env).map (·.2) = [assign (.Subscript o i pos') X.env] := by rfl) : QS X P (.Assign [.Subscript o i pos'] e pos) (asSetL av ao ai) := by
  obtain ⟨tv, pv, sv⟩ := hv.ex
  obtain ⟨to, po, so⟩ := ho'.ex
  obtain ⟨ti, pi, si⟩ := hi.ex
  refine ⟨_, ps_asg pv (pg_sub po pi set_list ha) hs hw h1, fun c D DA ho hw l S H σ ρ st q => sv c DA.ex ho hw [] S H σ ρ _ _ st q fun v H1 ⟨S1, ρ1, y, s1, q1⟩ => ?_⟩
  obtain ⟨S2, d, ρ2, sm, s2, q2⟩ := use_sim s1 q1
  refine so c DA.ex ho hw _ S2 H1 σ ρ2 _ _ s2 q2 fun vo H2 ⟨S3, ρ3, xo, s3, q3⟩ => si c DA.ex ho hw _ S3 H2 σ ρ3 _ _ s3 q3 fun vi H3 ⟨S4, ρ4, xi, s4, j, xs, k, n, eo, hj, hk, hn, q4⟩ => ?_
  subst eo
  have hvo : σ[j]? = some (some vo) := (s4.loc vo j (by simp)).1
  obtain ⟨g, ra⟩ := s4.slotA hj hvo
  obtain ⟨p, vs, rfl, hp, rl, rfl⟩ := ra.lst_inv
  have rk := s4.dat (List.mem_cons_self ..) hk
  simp only [Rep] at rk
  have rd : Rep X.K S4 d v := s4.dataMem (by simp)
  refine ⟨p, vs, k, n, rfl, rk, hp, by rw [rl.len]; exact hn, ?_⟩
  have s5 := s4.write (o := .lst (vs.set n v)) (y' := .lst (xs.set n d)) hj hvo (fun g' h => by obtain ⟨a', _, e, _, _, e2⟩ := h.lst_inv; cases e; exact e2) rfl (.mk_lst upd_same (rl.set n rd))
  exact l.nx S4 _ σ _ s5.drop.drop.drop q4
theorem qs_setD {o i e : Expr} {av ao ai : AE} {pos' : Pos} (hu : X.A.units + 64 < cLine) (hv : QE X P e av) (ho' : QE X P o ao) (hi : QE X P i ai)
    (ha : ∀ v, assign (.Subscript o i pos') X.env v = (do
      let ov ← holding [v] (eval o X.env)
      let iv ← holding [v, ov] (eval i X.env)
      standAt pos'
      holding [v, ov, iv] (setItem ov iv v)
      release [v, ov, iv] []) := by intro _; rfl)
    (hs : swapsWithSole [.Subscript o i pos'] e pos.line X.env = pure false := by rfl) (hw : swappedStores [.Subscript o i pos'] e X.env = pure none := by rfl)
    (h1 : (assignEach [.Subscript o i pos'] X.env).map (·.2) = [assign (.Subscript o i pos') X.env] := by rfl) : QS X P (.Assign [.Subscript o i pos'] e pos) (asSetD av ao ai) := by
  obtain ⟨tv, pv, sv⟩ := hv.ex
  obtain ⟨to, po, so⟩ := ho'.ex
  obtain ⟨ti, pi, si⟩ := hi.ex
  refine ⟨_, ps_asg pv (pg_sub po pi (set_dict (by omega)) ha) hs hw h1, fun c D DA ho hw l S H σ ρ st q => sv c DA.ex ho hw [] S H σ ρ _ _ st q fun v H1 ⟨S1, ρ1, y, s1, q1⟩ => ?_⟩
  obtain ⟨S2, d, ρ2, sm, s2, q2⟩ := use_sim s1 q1
  refine so c DA.ex ho hw _ S2 H1 σ ρ2 _ _ s2 q2 fun vo H2 ⟨S3, ρ3, xo, s3, q3⟩ => si c DA.ex ho hw _ S3 H2 σ ρ3 _ _ s3 q3 fun vi H3 ⟨S4, ρ4, xi, s4, j, kvs, i, k, eo, hj, hk, hkk, hn, q4⟩ => ?_
  subst eo
  have hvo : σ[j]? = some (some vo) := (s4.loc vo j (by simp)).1
  obtain ⟨g, ra⟩ := s4.slotA hj hvo
  obtain ⟨p, ws, rfl, hp, rl, rfl⟩ := ra.dic_inv
  have rk := s4.dat (List.mem_cons_self ..) hk
  have ek := key_rep hkk rk
  subst ek
  have rd : Rep X.K S4 d v := s4.dataMem (by simp)
  refine ⟨p, upd H3 p (.dK (putK ws k v)), rfl, .inl ⟨ws, k, hp, rfl, by rw [rl.len]; exact Nat.lt_of_le_of_lt hn (by decide), rfl⟩, ?_⟩
  have s5 := s4.write (o := .dK (putK ws k v)) (y' := .dic (putD kvs k d)) hj hvo (fun g' h => by obtain ⟨a', _, e, _, _, e2⟩ := h.dic_inv; cases e; exact e2) rfl (.mk_dic upd_same (rl.put k rd))
  exact l.nx S4 _ σ _ s5.drop.drop.drop q4
/-- o.append(e), o an owned list -/
def aAppend (ao ae : AE) : AE := fun EA ρ Q => ao EA ρ fun o ρ1 => (∃ xs, dat o ρ1 = some (.lst xs)) ∧ ae EA ρ1 fun x ρ2 => useA x ρ2 fun d ρ3 => ∃ j xs, o = .loc j ∧ ρ3[j]? = some (some (.lst xs)) ∧ xs.length ≤ 100000 ∧ Q (.v .non) (ρ3.set j (some (.lst (xs ++ [d]))))
theorem qe_append {o e : Expr} {ao ae : AE} {apos cpos : Pos} (ho' : QE X P o ao) (he : QE X P e ae) (hbase : attributeBase o "append" X.env (eval o X.env) = eval o X.env := by rfl)
    (hfew : ((backTo cpos (starEach (e :: []) X.env)).all (fun x => !x.1) && (backToKw cpos (keywordEach [] X.env)).all (fun x => x.1.isSome)
      && decide ((e :: []).length + ([] : List Keyword).length + (if ([] : List Keyword).isEmpty then 0 else 1) < 30)) = true := by rfl)
    (hline : (apos.endLine == cpos.line) = true := by rfl) (hs : starEach [e] X.env = (false, eval e X.env) :: starEach [] X.env := by rfl) (hplain : (backTo cpos (starEach [] X.env)).any (·.1) = false := by rfl) :
    QE X P (.Call (.Attribute o "append" apos) [e] [] cpos) (aAppend ao ae) := by
  obtain ⟨to, po, so⟩ := ho'.ex
  obtain ⟨te, pe, se⟩ := he.ex
  refine ⟨_, pe_bm PySem.F.plainAttrs_list PySem.F.slot_list_append PySem.F.type_list_append mt_append po (pa_cons pe pa_nil hs) hbase hfew hline hs hplain, fun c EA ho hw τ S H σ ρ Q R st q k => so c EA ho hw τ S H σ ρ _ _ st q fun vo H1 ⟨S1, ρ1, xo, s1, ⟨xs0, h0⟩, q1⟩ => ?_⟩
  obtain ⟨y0, g0, r0, e0⟩ := s1.thing (List.mem_cons_self ..) h0
  obtain ⟨p, vs, rfl, h3, h4⟩ := repA_lst r0 e0 s1.le
  refine ⟨.inl ⟨rfl, vs, h3⟩, se c EA ho hw _ S1 H1 σ ρ1 _ _ s1 q1 fun v H2 ⟨S2, ρ2, x, s2, q2⟩ => ?_⟩
  obtain ⟨S3, d, ρ3, sm, s3, j, xs, eo, hj, hn, q3⟩ := use_sim s2 q2
  subst eo
  have hvo : σ[j]? = some (some (.ref p)) := (s3.loc _ j (by simp)).1
  obtain ⟨g, ra⟩ := s3.slotA hj hvo
  obtain ⟨p', ws, e1, hp, rl, rfl⟩ := ra.lst_inv
  cases e1
  have rd : Rep X.K S3 d v := s3.data
  refine ⟨p, ws, v, rfl, rfl, hp, by rw [rl.len]; exact Nat.lt_of_le_of_lt hn (by decide), k _ _ ⟨S3, _, .v .non, ?_, q3⟩⟩
  have s5 := s3.write (o := .lst (ws ++ [v])) (y' := .lst (xs ++ [d])) hj hvo (fun g' h => by obtain ⟨a', _, e, _, _, e2⟩ := h.lst_inv; cases e; exact e2) rfl (.mk_lst upd_same (rl.app (by simp only [RepL]; exact ⟨v, [], rfl, rd, rfl⟩)))
  exact s5.drop.drop.hold (rep_sc rfl)
end
end Vs

set_option Elab.async false
set_option linter.all false
set_option maxRecDepth 100000
set_option maxHeartbeats 1000000
/-! Vs: defs, calls, fields. -/
namespace Vs
open PySem PyProof.Rows L2
/-! ### a def -/
/-- what the parameters hold at the end: those that are never stored to, by their slots; the others are shared -/
def fin (O : List Nat) : Nat → List A → AEnv → Option (List A)
  | _, [], _ => some []
  | k, x :: xs, o :: ρ => (if k ∈ O then (match o with
      | some y => (match fin O (k + 1) xs ρ with
        | some ys => some (y :: ys)
        | none => none)
      | none => none)
    else (match x with
      | .v d => (match fin O (k + 1) xs ρ with
        | some ys => some (.v d :: ys)
        | none => none)
      | _ => none))
  | _, _ :: _, [] => none
def startA (n : Nat) (xs : List A) : AEnv := xs.map some ++ List.replicate (n - xs.length) none
def endsOf (O : List Nat) (sp : ASp) (xs : List A) : AEnds where
  nx := fun ρ => ∃ xs', fin O 0 xs ρ = some xs' ∧ sp.post xs (.v .non) xs'
  rt := fun r ρ => ∃ xs', fin O 0 xs ρ = some xs' ∧ sp.post xs r xs'
  bk := fun _ => False
  ct := fun _ => False
  ex := fun C fs ρ => ∃ xs', fin O 0 xs ρ = some xs' ∧ sp.exc xs C fs xs'
section
variable {K : Fg}
theorem fin_rep {S S0 H : Hp} {O : List Nat} (hs : Same S0 S) : ∀ {xs : List A} {vs : List V} {ρ : AEnv} {σ : L2.St} {ys : List A} {f : List Addr} {k : Nat}, vs.length = xs.length → (∀ (j : Nat) (v : V) (d : D), vs[j]? = some v → xs[j]? = some (A.v d) → Rep K S0 d v) → EnvOk ρ σ → (∀ (j : Nat) v, vs[j]? = some v → k + j ∈ O → σ[j]? = some (some v)) → fin O k xs ρ = some ys → RepP K S H (envP ρ σ) f →
    ∃ g, RepP K S H (vs.zip ys) g ∧ g.Sublist f ∧ vs.length = ys.length
  | [], vs, ρ, σ, ys, f, k, hl, _, _, _, h, hp => by
    have e : vs = [] := by simpa using hl
    subst e
    simp only [fin] at h
    injection h with h
    subst h
    exact ⟨[], rfl, List.nil_sublist _, rfl⟩
  | x :: xs, [], ρ, σ, ys, f, k, hl, _, _, _, h, hp => by simp at hl
  | x :: xs, v :: vs, [], σ, ys, f, k, hl, _, _, _, h, hp => by simp [fin] at h
  | x :: xs, v :: vs, o :: ρ, σ, ys, f, k, hl, h0, he, ho, h, hp => by
    obtain ⟨w, r, rfl, h1, h2⟩ := he
    have hl' : vs.length = xs.length := by simpa using hl
    have h0' : ∀ (j : Nat) (v : V) (d : D), vs[j]? = some v → xs[j]? = some (A.v d) → Rep K S0 d v := fun j u d a b => h0 (j + 1) u d (by simpa using a) (by simpa using b)
    have ho' : ∀ (j : Nat) u, vs[j]? = some u → (k + 1) + j ∈ O → r[j]? = some (some u) := fun j u a b => by
      have := ho (j + 1) u (by simpa using a) (by rw [← Nat.add_assoc, Nat.add_right_comm]; exact b)
      simpa using this
    simp only [fin] at h
    by_cases hk : k ∈ O
    · rw [if_pos hk] at h
      cases o with
      | none => cases h
      | some y =>
        have hw : w = some v := by
          have := ho 0 v (by simp) (by simpa using hk)
          simpa using this
        subst hw
        cases q : fin O (k + 1) xs ρ with
        | none => rw [q] at h; cases h
        | some zs =>
          rw [q] at h
          injection h with h
          subst h
          simp only [envP] at hp
          obtain ⟨g, f', a1, a2, rfl⟩ := hp
          obtain ⟨g', b1, b2, b3⟩ := fin_rep hs hl' h0' h2 ho' q a2
          exact ⟨g ++ g', ⟨g, g', a1, b1, rfl⟩, List.Sublist.append (List.Sublist.refl _) b2, by simp [b3]⟩
    · rw [if_neg hk] at h
      cases x with
      | v d =>
        cases q : fin O (k + 1) xs ρ with
        | none => rw [q] at h; cases h
        | some zs =>
          rw [q] at h
          injection h with h
          subst h
          have tail : ∃ f', RepP K S H (envP ρ r) f' ∧ f'.Sublist f := by
            cases o with
            | none =>
              refine ⟨f, ?_, List.Sublist.refl _⟩
              cases w <;> simpa only [envP] using hp
            | some y =>
              cases w with
              | none => exact ⟨f, by simpa only [envP] using hp, List.Sublist.refl _⟩
              | some u =>
                simp only [envP] at hp
                obtain ⟨g, f', a1, a2, rfl⟩ := hp
                exact ⟨f', a2, List.sublist_append_right _ _⟩
          obtain ⟨f', t1, t2⟩ := tail
          obtain ⟨g', b1, b2, b3⟩ := fin_rep hs hl' h0' h2 ho' q t1
          exact ⟨g', ⟨[], g', RepA.ofv (Rep.le (Le.of_same hs) d v (h0 0 v d (by simp) (by simp))), b1, by simp⟩, b2.trans t2, by simp [b3]⟩
      | _ => cases h
theorem envP_start : ∀ {vs : List V} {xs : List A} (n : Nat), vs.length = xs.length → envP (xs.map some ++ List.replicate n none) (vs.map some ++ List.replicate n none) = vs.zip xs
  | [], [], 0, _ => rfl
  | [], [], n + 1, _ => by
    have := envP_start (vs := []) (xs := []) n rfl
    simp only [List.map_nil, List.nil_append, List.replicate_succ, envP] at this ⊢
    exact this
  | [], _ :: _, _, h => by simp at h
  | _ :: _, [], _, h => by simp at h
  | v :: vs, x :: xs, n, h => by
    simp only [List.map_cons, List.cons_append, envP, List.zip_cons_cons]
    rw [envP_start n (by simpa using h)]
theorem envOk_start : ∀ {vs : List V} {xs : List A} (n : Nat), vs.length = xs.length → (∀ x ∈ xs, isLoc x = false) → EnvOk (xs.map some ++ List.replicate n none) (vs.map some ++ List.replicate n none)
  | [], [], 0, _, _ => rfl
  | [], [], n + 1, _, _ => by
    have := envOk_start (vs := []) (xs := []) n rfl (by simp)
    simp only [List.map_nil, List.nil_append] at this ⊢
    exact ⟨none, _, rfl, fun _ e => (nomatch e), this⟩
  | [], _ :: _, _, h, _ => by simp at h
  | _ :: _, [], _, h, _ => by simp at h
  | v :: vs, x :: xs, n, h, hx => ⟨some v, _, rfl, fun y e => by
      have e2 : x = y := Option.some.inj e
      exact ⟨⟨v, rfl⟩, e2 ▸ not_loc (hx x (by simp))⟩, envOk_start n (by simpa using h) fun y hy => hx y (by simp [hy])⟩
/-- the slots that are never stored to, with their values -/
def osOf (O : List Nat) (vs : List V) : List (Nat × V) := O.filterMap fun j => (vs[j]?).map fun v => (j, v)
theorem osOf_mem {O : List Nat} {vs : List V} {p : Nat × V} : p ∈ osOf O vs ↔ p.1 ∈ O ∧ vs[p.1]? = some p.2 := by
  unfold osOf
  rw [List.mem_filterMap]
  constructor
  · rintro ⟨j, h1, h2⟩
    cases e : vs[j]? with
    | none => rw [e] at h2; cases h2
    | some v =>
      rw [e] at h2
      have h3 : (j, v) = p := Option.some.inj h2
      subst h3
      exact ⟨h1, e⟩
  · rintro ⟨h1, h2⟩
    exact ⟨p.1, h1, by rw [h2]; rfl⟩
section
variable {Pr : Program} {w : World} {mg : Str → Option Value} {base : Heap} {x qual : Str} {params : Arguments} {body : List Stmt} {scope : Scope} {dvs : List V} {kws : List (Str × V)} {f : Addr} {fd : FuncData}
abbrev Fok (Pr : Program) (w : World) (K : Fg) (mg : Str → Option Value) (base : Heap) (k : Nat) (f : Addr) (fd : FuncData) (ps : List Str) (sp : ASp) : Prop := FnOk Pr w K mg base (L2.CX Pr w) k f fd ps (lift K sp)
theorem fn_mk {N ps : List Str} {k : Nat} {sp : ASp} (O : List Nat) (F : FunD K x qual params body scope dvs kws f fd) (S : FnScope N ps scope) (hlen : ∀ xs, sp.pre xs → xs.length = ps.length) (hO : ∀ j ∈ O, j < ps.length)
    (hb : ∀ (cdv : Value) (Ar : Around) (outer : List Env) (s : Shared) (H : Hp) (E : XK), Room k (Ar.deeper (envOfC qual scope s.heap.objs.size f cdv)) →
      ∃ as, QSs (cxOf (L2.CX Pr w) Pr w K mg base N qual scope f cdv Ar outer s H E) ⟨fun cls d _ H => E cls d H, O⟩ body as ∧ ∀ xs, sp.pre xs → as (endsOf O sp xs) (startA N.length xs)) : Fok Pr w K mg base (k + 1) f fd ps sp := by
  refine F.ok S (fun vs H Q E h => ?_) (fun cdv Ar outer s H vs Q E hr h => ?_)
  · obtain ⟨c, S', xs, h1, _, _, _, _, h2, _⟩ := h
    rw [h1]; exact hlen xs h2
  obtain ⟨as, hq, hr2⟩ := hb cdv Ar outer s H E hr
  obtain ⟨t, ht, hs⟩ := hq.ex
  refine ⟨t, ht, ?_⟩
  obtain ⟨c, S1, xs, hl, hos, st, ss1, ss2, hpre, hQ, hE⟩ := h
  have hnl := EnvOk.noloc st.env
  obtain ⟨fp, a1, a2, a3⟩ := st.own
  rw [zip_some hl] at a1
  have a1' : RepP K S1 H (vs.zip xs) fp := by simpa [tmpP] using a1
  have lenps := hlen xs hpre
  -- shared data of the parameters
  have sh : ∀ (j : Nat) v d, vs[j]? = some v → xs[j]? = some (A.v d) → Rep K S1 d v := fun j v d e1 e2 => by
    have m : (v, A.v d) ∈ vs.zip xs := List.mem_of_getElem? (i := j) (by rw [List.getElem?_zip_eq_some]; exact ⟨e1, e2⟩)
    obtain ⟨g, b1, _⟩ := a1'.pick m
    simp only [RepA] at b1
    exact b1.1
  let c2 : Ctx := ⟨c.R, c.S0, osOf O vs⟩
  have len0 : startA N.length xs = xs.map some ++ List.replicate (N.length - vs.length) none := by unfold startA; rw [hl]
  have hlt : ∀ j ∈ O, j < vs.length := fun j hj => by rw [hl, lenps]; exact hO j hj
  have s0 : Stt K c2 S1 H (L2.start N vs) (startA N.length xs) [] := by
    rw [len0]
    unfold L2.start
    refine ⟨⟨fp, ?_, a2, a3⟩, envOk_start _ hl hnl, fun _ _ m => by simp at m, st.le, st.r, st.new, st.up, fun p m => ?_⟩
    · rw [envP_start _ hl]
      simpa [tmpP] using a1'
    · obtain ⟨m1, m2⟩ := osOf_mem.mp m
      rw [List.getElem?_append_left (by simpa using hlt p.1 m1), List.getElem?_map, m2]
      rfl
  have hoin : OsIn K c2 O := ⟨fun p m => (osOf_mem.mp m).1, fun j hj => by
    obtain ⟨v, hv⟩ : ∃ v, vs[j]? = some v := ⟨vs[j]'(hlt j hj), by simp [hlt j hj]⟩
    exact ⟨v, osOf_mem.mpr ⟨hj, hv⟩⟩, fun _ _ _ _ _ _ => trivial⟩
  -- from a state of the body to one of the caller
  have back : ∀ {S' H' : Hp} {σ : L2.St} {ρ : AEnv} {τ : List (V × A)} {ys : List A}, Stt K c2 S' H' σ ρ τ → (∀ p ∈ τ, isLoc p.2 = false) → fin O 0 xs ρ = some ys → Stt K c S' H' (vs.map some) (ys.map some) τ ∧ vs.length = ys.length := by
    intro S' H' σ ρ τ ys s' hτ hf
    have sm : Same S1 S' := fun a o e => s'.up a o (ss2 a o e)
    obtain ⟨fq, b1, b2, b3⟩ := s'.own
    obtain ⟨f1, f2, u1, u2, rfl⟩ := b1.append
    obtain ⟨g, v1, v2, v3⟩ := fin_rep (K := K) (S0 := S1) (O := O) (k := 0) sm hl sh s'.env (fun j v e1 e2 => s'.os (j, v) (osOf_mem.mpr ⟨by simpa using e2, e1⟩)) hf u1
    have nl := RepP.noloc v3 v1
    refine ⟨⟨⟨g ++ f2, ?_, ?_, fun a ha => b3 a ?_⟩, envOk_some v3 nl, fun v i m => ?_, s'.le, s'.r, s'.new, s'.up, fun p m => by rw [hos] at m; cases m⟩, v3⟩
    · rw [zip_some v3]
      exact v1.join u2
    · exact (List.Sublist.append v2 (List.Sublist.refl f2)).nodup b2
    · exact (List.Sublist.append v2 (List.Sublist.refl f2)).subset ha
    · have := hτ _ m; cases this
  have hx : XOk K c2 (fun cls d _ H => E cls d H) (endsOf O sp xs).ex := by
    intro S' H' σ ρ C fs dd s' hd hex
    obtain ⟨ys, hf, hp⟩ := hex
    obtain ⟨s2, hl2⟩ := back s' (by simp) hf
    exact hE C fs ys dd H' S' hp hl2 s2 hd
  refine hs c2 _ (endsOf O sp xs) hoin hx ⟨fun S' H' σ ρ s' q => ?_, fun S' H' σ ρ v r s' hr' q => ?_, fun S' H' σ ρ s' q => q.elim, fun S' H' σ ρ s' q => q.elim⟩ S1 H (L2.start N vs) (startA N.length xs) s0 (hr2 xs hpre)
  · obtain ⟨ys, hf, hp⟩ := q
    have s3 : Stt K c2 S' H' σ ρ [(.non, .v .non)] := s'.hold (rep_sc rfl)
    obtain ⟨s2, hl2⟩ := back s3 (by simp [isLoc]) hf
    exact hQ _ ys .non H' S' hp hl2 rfl s2
  · obtain ⟨ys, hf, hp⟩ := q
    obtain ⟨s2, hl2⟩ := back s' (fun p m => by
      have e : p = (v, r) := by simpa using m
      rw [e]; exact hr') hf
    exact hQ _ ys v H' S' hp hl2 hr' s2
end
end

/-! ### calls -/
section
variable {X : Cx} {P : Pm} {k : Nat} {f C : Addr} {fd : FuncData} {ps : List Str} {sp : ASp} {dvs : List V} {ds : List Value} {dd : List D} {x m : Str} {p pos apos : Pos} {e o : Expr} {es : List Expr} {aa : AA} {ao : AE}
theorem rep_zip {S : Hp} {K : Fg} {c : Ctx} {H : Hp} {σ : L2.St} {ρ : AEnv} {τ : List (V × A)} : ∀ {ds : List D} {dvs : List V}, RepL K S ds dvs → Stt K c S H σ ρ τ → Stt K c S H σ ρ (dvs.zip (ds.map A.v) ++ τ)
  | [], dvs, h, s => by
    simp only [RepL] at h
    subst h
    simpa using s
  | d :: ds, dvs, h, s => by
    simp only [RepL] at h
    obtain ⟨v, r, rfl, h1, h2⟩ := h
    simp only [List.map_cons, List.zip_cons_cons, List.cons_append]
    exact (rep_zip h2 s).hold h1
/-- the defaults, as data that stand in every heap -/
def Dfl (K : Fg) (dd : List D) (dvs : List V) : Prop := ∀ S, RepL K S dd dvs
theorem dfl_nil {K : Fg} : Dfl K [] [] := fun S => by simp only [RepL]
def aCall (sp : ASp) (dd : List D) (aa : AA) : AE := fun EA ρ Q => aa EA ρ fun xs ρ1 => callA sp (xs ++ dd.map A.v) EA ρ1 Q
theorem sim_call {K : Fg} {ta : TA} (hd : Dfl K dd dvs) (h : SimA K P ta aa) : SimE K P (tCallSD (lift K sp) dvs (fun σ cls d H => P.W cls d σ H) ta) (aCall sp dd aa) := fun c EA ho hw τ S H σ ρ Q R s q kk =>
  h c EA ho hw τ S H σ ρ _ _ s q fun vs H1 ⟨S1, ρ1, xs, hl, s1, q1⟩ => by
    have hdl : dvs.length = (dd.map A.v).length := by rw [List.length_map]; exact (hd S1).len
    have s2 : Stt K c S1 H1 σ ρ1 ((vs ++ dvs).zip (xs ++ dd.map A.v) ++ τ) := by
      rw [List.zip_append hl, List.append_assoc]
      have z := rep_zip (hd S1) s1
      refine z.swap ?_
      rw [← List.append_assoc, ← List.append_assoc]
      exact List.Perm.append_right _ List.perm_append_comm
    exact lift_mono (call_sim hw (by simp [hl, hdl]) s2 q1) (fun v H h => kk v H h) fun _ _ _ h => h
theorem qe_call (F : Fok X.prog X.w X.K X.mg X.base k f fd ps sp) (hr : Room k X.A) (hg : Gl X x) (hm : X.mg x = some (.ref f)) (hk : PySem.W.keepIn X.K (.ref f) = true) (hb : Binds X.K fd ps ds) (hd : Vals dvs ds) (hD : Dfl X.K dd dvs) (hx : ∀ σ, PassesAt (L2.CX X.prog X.w) X σ (fun cls d H => P.W cls d σ H)) (ha : QA X P (e :: es) aa)
    (hdb : (x == ("__debug__" : Str)) = false := by decide) (he : starEach (e :: es) X.env = (false, eval e X.env) :: starEach es X.env := by rfl) (hpl : (backTo pos (starEach es X.env)).any (·.1) = false := by rfl) :
    QE X P (.Call (.Name x p) (e :: es) [] pos) (aCall sp dd aa) := let ⟨_, pa, sa⟩ := ha.ex; ⟨_, pe_callSD F hr hg hm hk hb hd hx pa hdb he hpl, sim_call hD sa⟩
/-- o.m(..) -/
def tMethSD (C : Addr) (m : Str) (sp : Sp) (dvs : List V) (E : L2.St → XK) (ta : TE) (t : TA) : TE := fun σ H Q => ta σ H fun x H1 => ∃ a dx fs, x = .ref a ∧ H1 a = some (.ins C dx fs) ∧ fs.lookup m = none ∧ t σ H1 fun vs H2 => sp (x :: (vs ++ dvs)) H2 Q (E σ)
theorem pe_methSD {CX : CXT} {sp : Sp} {E : L2.St → XK} {ta : TE} {t : TA} {pl : Sem Bool} (he : PE X o ta) (c : Cls X.K C) (hm : Meth X.K C m f) (F : FnOk X.prog X.w X.K X.mg X.base CX k f fd ps sp) (hr : Room k X.A) (hb : Binds X.K fd ps ds) (hd : Vals dvs ds) (hx : ∀ σ, PassesAt CX X σ (E σ)) (ha : PA X (e :: es) t)
    (hst : starEach (e :: es) X.env = (false, eval e X.env) :: starEach es X.env := by rfl) (hpl : (backTo pos (starEach es X.env)).any (·.1) = false := by rfl)
    (ht : eval (.Call (.Attribute o m apos) (e :: es) [] pos) X.env = (do
      let ov ← eval o X.env
      standAt apos.atName
      let (f, first) ← holding [ov] (getMethod ov m pl)
      callWith pos f first (backTo pos (starEach (e :: es) X.env)) (backToKw pos (keywordEach [] X.env))) := by rfl) :
    PE X (.Call (.Attribute o m apos) (e :: es) [] pos) (tMethSD C m sp dvs E ta t) := by
  refine ⟨fun pins s σ H Q I h => ?_⟩
  refine PySem.W.methodCall_KW (pl := pl) (thn (he.run pins s σ H _ I h) fun u s1 ⟨x, H1, I1, rx, a, dx, fs, ex, ea, l, q⟩ => ?_) ht
  subst ex
  obtain rfl : u = Value.ref a := rx
  refine getmeth_ok I1 ea c hm l ?_
  refine PySem.W.callWith_K (first := [.ref a]) (h₀ := X.base) I.ok.mod.kin hm.kp (thn (ha.run pos pins s1 σ H1 _ I1 q) fun us s2 ⟨vs, H2, I2, r, q2⟩ => ⟨I2.kIn, ?_⟩) hst hpl
  exact run_fnSD (us := .ref a :: us) (vs := .ref a :: vs) F hr hb hd (hx σ) I2 (.cons rfl r) q2
theorem pe_methSD0 {CX : CXT} {sp : Sp} {E : L2.St → XK} {ta : TE} {pl : Sem Bool} (he : PE X o ta) (c : Cls X.K C) (hm : Meth X.K C m f) (F : FnOk X.prog X.w X.K X.mg X.base CX k f fd ps sp) (hr : Room k X.A) (hb : Binds X.K fd ps ds) (hd : Vals dvs ds) (hx : ∀ σ, PassesAt CX X σ (E σ))
    (ht : eval (.Call (.Attribute o m apos) [] [] pos) X.env = (do
      let ov ← eval o X.env
      standAt apos.atName
      let (f, first) ← holding [ov] (getMethod ov m pl)
      callWith pos f first (backTo pos (starEach [] X.env)) (backToKw pos (keywordEach [] X.env))) := by rfl) :
    PE X (.Call (.Attribute o m apos) [] [] pos) (tMethSD C m sp dvs E ta tNil) := by
  refine ⟨fun pins s σ H Q I h => ?_⟩
  refine PySem.W.methodCall_KW (pl := pl) (thn (he.run pins s σ H _ I h) fun u s1 ⟨x, H1, I1, rx, a, dx, fs, ex, ea, l, q⟩ => ?_) ht
  subst ex
  obtain rfl : u = Value.ref a := rx
  refine getmeth_ok I1 ea c hm l ?_
  exact PySem.W.callWith_K0 (first := [.ref a]) I1.kIn hm.kp (run_fnSD (us := [.ref a]) (vs := [.ref a]) F hr hb hd (hx σ) I1 (.cons rfl .nil) q)
/-- what method calls ask of the receiver -/
def isObjA (C : Addr) (m : Str) (x : A) (ρ : AEnv) : Prop := ∃ fs, dat x ρ = some (.obj C fs) ∧ fs.lookup m = none
theorem repF_look {K : Fg} {S : Hp} {m : Str} : ∀ {fs : List (Str × D)} {ws : List (Str × V)}, RepF K S fs ws → (fs.lookup m = none ∧ ws.lookup m = none) ∨ ∃ d v, fs.lookup m = some d ∧ ws.lookup m = some v ∧ Rep K S d v
  | [], ws, h => by
    simp only [RepF] at h
    subst h
    exact .inl ⟨rfl, rfl⟩
  | (k, x) :: r, ws, h => by
    simp only [RepF] at h
    obtain ⟨v, r', rfl, h1, h2⟩ := h
    by_cases e : m = k
    · subst e
      exact .inr ⟨x, v, by simp [List.lookup], by simp [List.lookup], h1⟩
    · have q : (m == k) = false := by simpa using e
      have e1 : List.lookup m ((k, x) :: r) = List.lookup m r := by simp [List.lookup, q]
      have e2 : List.lookup m ((k, v) :: r') = List.lookup m r' := by simp [List.lookup, q]
      rw [e1, e2]
      exact repF_look h2
theorem isObj_sim {K : Fg} {c : Ctx} {S H : Hp} {σ : L2.St} {ρ : AEnv} {τ : List (V × A)} {v : V} {y : A} (s : Stt K c S H σ ρ τ) (mm : (v, y) ∈ τ) (h : isObjA C m y ρ) : ∃ a dx ws, v = .ref a ∧ H a = some (.ins C dx ws) ∧ ws.lookup m = none := by
  obtain ⟨fs, h1, h2⟩ := h
  have r := s.dat mm h1
  simp only [Rep] at r
  obtain ⟨a, dx, ws, rfl, h3, h4⟩ := r
  refine ⟨a, dx, ws, rfl, h3, ?_⟩
  rcases repF_look (m := m) h4 with ⟨_, e⟩ | ⟨d, v, e1, e2, _⟩
  · exact e
  · rw [h2] at e1; cases e1
def aMeth (C : Addr) (m : Str) (sp : ASp) (dd : List D) (ao : AE) (aa : AA) : AE := fun EA ρ Q => ao EA ρ fun o ρ1 => isObjA C m o ρ1 ∧ aa EA ρ1 fun xs ρ2 => callA sp (o :: (xs ++ dd.map A.v)) EA ρ2 Q
theorem sim_meth {K : Fg} {to : TE} {ta : TA} (hd : Dfl K dd dvs) (h0 : SimE K P to ao) (h : SimA K P ta aa) : SimE K P (tMethSD C m (lift K sp) dvs (fun σ cls d H => P.W cls d σ H) to ta) (aMeth C m sp dd ao aa) := fun c EA ho hw τ S H σ ρ Q R s q kk =>
  h0 c EA ho hw τ S H σ ρ _ _ s q fun vo H0 ⟨S0, ρ0, o, s0, hob, q0⟩ => by
    obtain ⟨a, dx, ws, rfl, h1, h2⟩ := isObj_sim s0 (List.mem_cons_self ..) hob
    refine ⟨a, dx, ws, rfl, h1, h2, h c EA ho hw _ S0 H0 σ ρ0 _ _ s0 q0 fun vs H1 ⟨S1, ρ1, xs, hl, s1, q1⟩ => ?_⟩
    have hdl : dvs.length = (dd.map A.v).length := by rw [List.length_map]; exact (hd S1).len
    have s2 : Stt K c S1 H1 σ ρ1 ((V.ref a :: (vs ++ dvs)).zip (o :: (xs ++ dd.map A.v)) ++ τ) := by
      rw [List.zip_cons_cons, List.zip_append hl]
      have z := rep_zip (hd S1) s1
      refine z.swap ?_
      rw [List.cons_append, List.append_assoc]
      refine List.Perm.trans ?_ (List.perm_middle (l₁ := vs.zip xs ++ dvs.zip (dd.map A.v)) (a := (V.ref a, o)) (l₂ := τ) |>.trans (by rw [List.append_assoc]))
      rw [List.append_assoc, ← List.append_assoc, ← List.append_assoc]
      exact List.Perm.append_right _ List.perm_append_comm
    exact lift_mono (call_sim hw (by simp [hl, hdl]) s2 q1) (fun v H h => kk v H h) fun _ _ _ h => h
theorem qe_meth {pl : Sem Bool} (he : QE X P o ao) (c : Cls X.K C) (hm : Meth X.K C m f) (F : Fok X.prog X.w X.K X.mg X.base k f fd ps sp) (hr : Room k X.A) (hb : Binds X.K fd ps ds) (hd : Vals dvs ds) (hD : Dfl X.K dd dvs) (hx : ∀ σ, PassesAt (L2.CX X.prog X.w) X σ (fun cls d H => P.W cls d σ H)) (ha : QA X P (e :: es) aa)
    (hst : starEach (e :: es) X.env = (false, eval e X.env) :: starEach es X.env := by rfl) (hpl : (backTo pos (starEach es X.env)).any (·.1) = false := by rfl)
    (ht : eval (.Call (.Attribute o m apos) (e :: es) [] pos) X.env = (do
      let ov ← eval o X.env
      standAt apos.atName
      let (f, first) ← holding [ov] (getMethod ov m pl)
      callWith pos f first (backTo pos (starEach (e :: es) X.env)) (backToKw pos (keywordEach [] X.env))) := by rfl) :
    QE X P (.Call (.Attribute o m apos) (e :: es) [] pos) (aMeth C m sp dd ao aa) := let ⟨_, po, so⟩ := he.ex; let ⟨_, pa, sa⟩ := ha.ex; ⟨_, pe_methSD po c hm F hr hb hd hx pa hst hpl ht, sim_meth hD so sa⟩
theorem qe_meth0 {pl : Sem Bool} (he : QE X P o ao) (c : Cls X.K C) (hm : Meth X.K C m f) (F : Fok X.prog X.w X.K X.mg X.base k f fd ps sp) (hr : Room k X.A) (hb : Binds X.K fd ps ds) (hd : Vals dvs ds) (hD : Dfl X.K dd dvs) (hx : ∀ σ, PassesAt (L2.CX X.prog X.w) X σ (fun cls d H => P.W cls d σ H))
    (ht : eval (.Call (.Attribute o m apos) [] [] pos) X.env = (do
      let ov ← eval o X.env
      standAt apos.atName
      let (f, first) ← holding [ov] (getMethod ov m pl)
      callWith pos f first (backTo pos (starEach [] X.env)) (backToKw pos (keywordEach [] X.env))) := by rfl) :
    QE X P (.Call (.Attribute o m apos) [] [] pos) (aMeth C m sp dd ao aNil) := let ⟨_, po, so⟩ := he.ex; ⟨_, pe_methSD0 po c hm F hr hb hd hx ht, sim_meth hD so sim_nil⟩
/-- C(..) -/
theorem run_makeSD {CX : CXT} {sp : Sp} {E : L2.St → XK} {pins : List (Addr × Obj)} {σ : L2.St} {H : Hp} {s : Shared} {Q : VK} {us : List Value} {vs : List V} (M : Mk X.K C f) (F : FnOk X.prog X.w X.K X.mg X.base CX k f fd ps sp) (hr : Room (k + 1) X.A) (hb : Binds X.K fd ps ds) (hd : Vals dvs ds)
    (hx : PassesAt CX X σ (E σ)) (I : Inv X pins σ H s) (r : Vals vs us)
    (h : ∀ x dx, H x = none → H dx = none → dx ≠ x → sp (.ref x :: (vs ++ dvs)) (upd (upd H dx (.own x)) x (.ins C dx [])) (fun v H2 => v = .non ∧ Q (.ref x) H2) (E σ)) :
    wpAny (model X.prog X.w) X.A (call (.ref C) us) (EP X pins σ Q) X.xe s := by
  have hq := h (s.heap.objs.size + 1) s.heap.objs.size (I.hok.fresh (Nat.le_succ _)) (I.hok.fresh (Nat.le_refl _)) (Nat.ne_of_lt (Nat.lt_succ_self _))
  have I2 := Inv.made (C := C) I
  have r2 : Vals (V.ref (s.heap.objs.size + 1) :: (vs ++ dvs)) (Value.ref (s.heap.objs.size + 1) :: (us ++ ds)) := .cons rfl (r.append hd)
  have hl : (Value.ref (s.heap.objs.size + 1) :: us ++ ds).length = ps.length := by
    have e := r2.length
    rw [F.len _ _ _ _ hq] at e
    exact e.symm
  refine wpAny_call (make_map (f := f) I.kIn M.makes M.init (beq_iff_eq.mp M.fn) (codeAny_mono (F.run _ X.stack _ _ ⟨Value.ref (s.heap.objs.size + 1) :: us, []⟩ (Value.ref (s.heap.objs.size + 1) :: (us ++ ds)) _ _ (E σ) (hr.make C us [])
    (I2.env0.make C us []) (hb _ (Value.ref (s.heap.objs.size + 1) :: us) I2.kIn hl) r2 hq) fun r s' hq' => ?_))
  cases r with
  | error e => exact hx pins _ _ e s' I2 hq'
  | ok fl =>
    cases fl with
    | ret u =>
      obtain ⟨v, H', I3, rv, ev, q3⟩ := I2.after hq'
      subst ev
      exact ⟨rv, ⟨V.ref (s.heap.objs.size + 1), H', I3, rfl, q3⟩⟩
    | next => exact False.elim hq'
    | brk => exact False.elim hq'
    | cont => exact False.elim hq'
def tMakeSD (C : Addr) (sp : Sp) (dvs : List V) (E : L2.St → XK) (t : TA) : TE := fun σ H Q => t σ H fun vs H1 => ∀ x dx, H1 x = none → H1 dx = none → dx ≠ x →
  sp (.ref x :: (vs ++ dvs)) (upd (upd H1 dx (.own x)) x (.ins C dx [])) (fun v H2 => v = .non ∧ Q (.ref x) H2) (E σ)
theorem pe_makeSD {CX : CXT} {sp : Sp} {E : L2.St → XK} {t : TA} (M : Mk X.K C f) (F : FnOk X.prog X.w X.K X.mg X.base CX k f fd ps sp) (hr : Room (k + 1) X.A) (hg : Gl X x) (hm : X.mg x = some (.ref C)) (hb : Binds X.K fd ps ds) (hd : Vals dvs ds) (hx : ∀ σ, PassesAt CX X σ (E σ))
    (ha : PA X (e :: es) t) (hdb : (x == ("__debug__" : Str)) = false := by decide) (he : starEach (e :: es) X.env = (false, eval e X.env) :: starEach es X.env := by rfl) (hpl : (backTo pos (starEach es X.env)).any (·.1) = false := by rfl) :
    PE X (.Call (.Name x p) (e :: es) [] pos) (tMakeSD C sp dvs E t) := by
  refine ⟨fun pins s σ H Q I h => ?_⟩
  refine wpAny_Call_Name_kw (ld_glob I hg hm ?_ hdb)
  refine PySem.W.callWith_K (h₀ := X.base) I.ok.mod.kin M.kp (thn (ha.run pos pins s σ H _ I h) fun us s1 ⟨vs, H1, I1, r, q⟩ => ⟨I1.kIn, ?_⟩) he hpl
  exact run_makeSD M F hr hb hd (hx σ) I1 r q
/-- a new instance, then __init__: the first parameter is the instance -/
def mkSp (C : Addr) (sp : ASp) (xs : List A) : AE := fun EA ρ Q => ∃ ys ρ', pass xs ρ = some (ys, ρ') ∧ sp.pre (.obj C [] :: ys) ∧ (∀ r y ys', sp.post (.obj C [] :: ys) r (y :: ys') → ys'.length = ys.length → r = .v .non ∧ Q y (give xs ys' ρ')) ∧ ∀ Ce fs y ys', sp.exc (.obj C [] :: ys) Ce fs (y :: ys') → ys'.length = ys.length → EA Ce fs (give xs ys' ρ')
def aMake (C : Addr) (sp : ASp) (dd : List D) (aa : AA) : AE := fun EA ρ Q => aa EA ρ fun xs ρ1 => mkSp C sp (xs ++ dd.map A.v) EA ρ1 Q
/-- an instance is like one more argument, then the result -/
def initSp (C : Addr) (sp : ASp) : ASp where
  pre := fun xs => ∃ ys, xs = .obj C [] :: ys ∧ sp.pre xs
  post := fun xs r xs' => ∃ ys y ys', xs = .obj C [] :: ys ∧ xs' = y :: ys' ∧ sp.post xs r xs'
  exc := fun xs Ce fs xs' => sp.exc xs Ce fs xs'
theorem sim_make {K : Fg} {ta : TA} (hd : Dfl K dd dvs) (h : SimA K P ta aa) : SimE K P (tMakeSD C (lift K sp) dvs (fun σ cls d H => P.W cls d σ H) ta) (aMake C sp dd aa) := fun c EA ho hw τ S H σ ρ Q R s q kk =>
  h c EA ho hw τ S H σ ρ _ _ s q fun vs H1 ⟨S1, ρ1, xs, hl, s1, q1⟩ xa dx hx hdx hne => by
    have hdl : dvs.length = (dd.map A.v).length := by rw [List.length_map]; exact (hd S1).len
    obtain ⟨ys, ρ', hp, hpre, hq, hex⟩ := q1
    have hx2 : upd H1 dx (.own xa) xa = none := by rw [upd_ne (Ne.symm hne)]; exact hx
    have s1' : Stt K c S1 (upd H1 dx (.own xa)) σ ρ1 (vs.zip xs ++ τ) := s1.beside hdx
    have s3 : Stt K c S1 (upd (upd H1 dx (.own xa)) xa (.ins C dx [])) σ ρ1 ((.ref xa, .obj C []) :: (vs.zip xs ++ τ)) := s1'.alloc hx2 rfl (by
      simp only [RepA, RepAF]
      exact ⟨xa, dx, [], [], rfl, upd_same, ⟨rfl, rfl⟩, rfl⟩)
    have s2 : Stt K c S1 (upd (upd H1 dx (.own xa)) xa (.ins C dx [])) σ ρ1 ((V.ref xa :: (vs ++ dvs)).zip (A.obj C [] :: (xs ++ dd.map A.v)) ++ τ) := by
      rw [List.zip_cons_cons, List.zip_append hl]
      have z := rep_zip (hd S1) s3
      refine z.swap ?_
      rw [List.cons_append, List.append_assoc]
      refine List.perm_middle.trans (List.Perm.cons _ ?_)
      rw [← List.append_assoc, ← List.append_assoc]
      exact List.Perm.append_right _ List.perm_append_comm
    have ep : pass (A.obj C [] :: (xs ++ dd.map A.v)) ρ1 = some (A.obj C [] :: ys, ρ') := by
      show (match pass (xs ++ dd.map A.v) ρ1 with
        | some (ys, ρ') => some (A.obj C [] :: ys, ρ')
        | none => none) = _
      rw [hp]
    -- the call with the instance's own things in the end
    refine make_lift hw (by simp [hl, hdl]) s2 ep hpre (fun r zs hpo hlz => ?_) (fun Ce fs zs hpo hlz => ?_) kk
    · cases zs with
      | nil => simp at hlz
      | cons y ys' => exact ⟨y, ys', rfl, hq r y ys' hpo (by simpa using hlz)⟩
    · cases zs with
      | nil => simp at hlz
      | cons y ys' => exact hex Ce fs y ys' hpo (by simpa using hlz)
theorem qe_make (M : Mk X.K C f) (F : Fok X.prog X.w X.K X.mg X.base k f fd ps sp) (hr : Room (k + 1) X.A) (hg : Gl X x) (hm : X.mg x = some (.ref C)) (hb : Binds X.K fd ps ds) (hd : Vals dvs ds) (hD : Dfl X.K dd dvs) (hx : ∀ σ, PassesAt (L2.CX X.prog X.w) X σ (fun cls d H => P.W cls d σ H)) (ha : QA X P (e :: es) aa)
    (hdb : (x == ("__debug__" : Str)) = false := by decide) (he : starEach (e :: es) X.env = (false, eval e X.env) :: starEach es X.env := by rfl) (hpl : (backTo pos (starEach es X.env)).any (·.1) = false := by rfl) :
    QE X P (.Call (.Name x p) (e :: es) [] pos) (aMake C sp dd aa) := let ⟨_, pa, sa⟩ := ha.ex; ⟨_, pe_makeSD M F hr hg hm hb hd hx pa hdb he hpl, sim_make hD sa⟩
end
end Vs

set_option Elab.async false
set_option linter.all false
set_option maxRecDepth 100000
set_option maxHeartbeats 1000000
/-! Vs: loops and comprehensions. -/
namespace Vs
open PySem PySem.Spec PyProof.Rows L2
/-! ### the shared part as it stands, from now on -/
section
variable {K : Fg} {c : Ctx} {S H : Hp} {σ : L2.St} {ρ : AEnv} {τ : List (V × A)}
theorem Stt.rest (s : Stt K c S H σ ρ τ) : Stt K { c with S0 := S } S H σ ρ τ := ⟨s.own, s.env, s.loc, s.le, s.r, fun _ _ => rfl, Same.refl S, s.os⟩
theorem Stt.rebase {S2 H2 : Hp} {σ2 : L2.St} {ρ2 : AEnv} {τ2 : List (V × A)} (s : Stt K c S H σ ρ τ) (t : Stt K { c with S0 := S } S2 H2 σ2 ρ2 τ2) : Stt K c S2 H2 σ2 ρ2 τ2 :=
  ⟨t.own, t.env, t.loc, t.le, t.r, fun a ha => (t.new a ha).trans (s.new a ha), fun a o e => t.up a o (s.up a o e), t.os⟩
theorem XOk.rebase {W : WX} {EA : AX} (s : Stt K c S H σ ρ τ) (h : XOk K c W EA) : XOk K { c with S0 := S } W EA := fun S2 H2 σ2 ρ2 C fs dd t xd e => h S2 H2 σ2 ρ2 C fs dd (s.rebase t) xd e
theorem Link.rebase {D : Ends} {DA : AEnds} (s : Stt K c S H σ ρ τ) (l : Link K c D DA) : Link K { c with S0 := S } D DA :=
  ⟨fun S2 H2 σ2 ρ2 t => l.nx S2 H2 σ2 ρ2 (s.rebase t), fun S2 H2 σ2 ρ2 v x t => l.rt S2 H2 σ2 ρ2 v x (s.rebase t), fun S2 H2 σ2 ρ2 t => l.bk S2 H2 σ2 ρ2 (s.rebase t), fun S2 H2 σ2 ρ2 t => l.ct S2 H2 σ2 ρ2 (s.rebase t)⟩
end
/-! ### what is walked -/
abbrev AI := AX → AEnv → (List D → (AEnv → Prop) → AEnv → Prop) → Prop
def ItOk (K : Fg) (c : Ctx) (J : It) (xs : List D) (G : AEnv → Prop) : Prop := ∀ S H σ ρ τ, Stt K c S H σ ρ τ → G ρ →
  (∀ i d, xs[i]? = some d → J.go i H ∧ ∀ v H', J.yld i H v H' → ∃ S', Stt K c S' H' σ ρ ((v, .v d) :: τ)) ∧ ∀ i, xs.length ≤ i → J.stop i H
/-- a context of a part -/
structure Reb (K : Fg) (c c' : Ctx) : Prop where
  os : c'.os = c.os
  back : ∀ {S H : Hp} {σ : L2.St} {ρ : AEnv} {τ : List (V × A)}, Stt K c' S H σ ρ τ → Stt K c S H σ ρ τ
theorem Reb.osIn {K : Fg} {c c' : Ctx} {O : OL} (r : Reb K c c') (h : OsIn K c O) : OsIn K c' O := by
  unfold OsIn
  rw [r.os]
  exact ⟨h.1, h.2.1, fun S H σ ρ τ s => h.2.2 S H σ ρ τ (r.back s)⟩
theorem Reb.xok {K : Fg} {c c' : Ctx} {W : WX} {EA : AX} (r : Reb K c c') (h : XOk K c W EA) : XOk K c' W EA := fun S2 H2 σ2 ρ2 C fs dd t xd e => h S2 H2 σ2 ρ2 C fs dd (r.back t) xd e
theorem Reb.rest {K : Fg} {c : Ctx} {S H : Hp} {σ : L2.St} {ρ : AEnv} {τ : List (V × A)} (s : Stt K c S H σ ρ τ) : Reb K c { c with S0 := S } := ⟨rfl, fun t => s.rebase t⟩
def SimI (K : Fg) (P : Pm) (wi : TI) (ai : AI) : Prop := ∀ c EA, OsIn K c P.O → XOk K c P.W EA → ∀ τ S H σ ρ Q (R : It → Hp → Prop), Stt K c S H σ ρ τ → ai EA ρ Q →
  (∀ c' J H' S' ρ' xs G, Reb K c c' → Stt K c' S' H' σ ρ' τ → ItOk K c' J xs G → Q xs G ρ' → R J H') → wi σ H R
structure QI (X : Cx) (P : Pm) (tg it : Expr) (ai : AI) : Prop where
  ex : ∃ wi, PI X tg it wi ∧ SimI X.K P wi ai
/-- the signs of a text -/
def chrs (x : Str) : List D := x.cps.toList.map fun c => .str ⟨#[c]⟩
def seqD : D → Option (List D)
  | .lst xs => some xs
  | .tup xs => some xs
  | .str x => some (chrs x)
  | _ => none
section
variable {X : Cx} {P : Pm} {K : Fg} {tg : Expr}
def iSeq (K : Fg) (te : TE) : TI := fun σ H R => te σ H fun v H1 => (∃ a, v = .ref a ∧ (∃ xs, SqL K H1 a xs) ∧ R (Itl K a) H1) ∨ (∃ a, v = .ref a ∧ (∃ xs, SqT K H1 a xs) ∧ R (Itt K a) H1) ∨ ∃ x, v = .str x ∧ R (Its x) H1
theorem pi_seq {l : Expr} {tl : TE} (hl : PE X l tl) : PI X tg l (iSeq X.K tl) := by
  refine ⟨fun pins s σ H R I h => ?_⟩
  refine thn (hl.run pins s σ H _ I h) fun v s1 ⟨x, H1, I1, r1, q1⟩ => ?_
  rcases q1 with ⟨a, e, ⟨xs, hq⟩, q⟩ | ⟨a, e, ⟨xs, hq⟩, q⟩ | ⟨x, ex, q⟩
  · subst e
    cases r1
    obtain ⟨its, rv, p, hz⟩ := I1.list hq
    refine wpAny_pyIter_list p.isList ?_
    refine ⟨s1.heap.objs.size, [s1.heap.objs.size], _, _, H1, rfl, I1.kept (t' := s1.toks) fun b o e => Heap.get?_push_of_some _ e, turn_list a _, ⟨_, Heap.get?_push_size _ rfl, rfl, rfl⟩, fun b hb => ?_, q⟩
    have e : b = s1.heap.objs.size := by simpa using hb
    subst e
    exact I1.fpOk (Nat.le_refl _) (I1.hok.fresh (Nat.le_refl _))
  · subst e
    cases r1
    obtain ⟨its, rv, p, hz⟩ := I1.tuple hq
    refine wpAny_pyIter_tuple (show s1.heap.IsTuple a its.toArray from p) ?_
    refine ⟨s1.heap.objs.size, [s1.heap.objs.size], _, _, H1, rfl, I1.kept (t' := s1.toks) fun b o e => Heap.get?_push_of_some _ e, turn_tuple a _, ⟨_, Heap.get?_push_size _ rfl, rfl, rfl⟩, fun b hb => ?_, q⟩
    have e : b = s1.heap.objs.size := by simpa using hb
    subst e
    exact I1.fpOk (Nat.le_refl _) (I1.hok.fresh (Nat.le_refl _))
  · subst ex
    obtain ⟨t, rfl⟩ := r1
    cases ha : x.cps.all (· < 128)
    · exact wpAny_pyIter_wide ha (pi_one (tk := s1.toks) I1 _ (turn_str _ x t "str_iterator" (.inr rfl)) ⟨_, Heap.get?_push_size _ rfl, rfl, rfl⟩ q)
    · exact wpAny_pyIter_ascii ha (pi_one (tk := s1.toks) I1 _ (turn_str _ x t "str_ascii_iterator" (.inl rfl)) ⟨_, Heap.get?_push_size _ rfl, rfl, rfl⟩ q)
theorem RepL.at0 {S : Hp} : ∀ {xs : List D} {vs : List V} {i : Nat} {d : D}, RepL K S xs vs → xs[i]? = some d → ∃ v, vs[i]? = some v ∧ Rep K S d v
  | [], vs, i, d, _, h => by simp at h
  | x :: xs, vs, 0, d, r, h => by
    simp only [RepL] at r
    obtain ⟨v, r', rfl, h1, _⟩ := r
    have e : x = d := by simpa using h
    subst e
    exact ⟨v, by simp, h1⟩
  | x :: xs, vs, i + 1, d, r, h => by
    simp only [RepL] at r
    obtain ⟨v, r', rfl, _, h2⟩ := r
    obtain ⟨u, h3, h4⟩ := RepL.at0 h2 (i := i) (by simpa using h)
    exact ⟨u, by simpa using h3, h4⟩
theorem chrs_at {x : Str} {i : Nat} {d : D} (h : (chrs x)[i]? = some d) : ∃ c, x.cps[i]? = some c ∧ d = .str ⟨#[c]⟩ := by
  unfold chrs at h
  rw [List.getElem?_map] at h
  cases e : x.cps.toList[i]? with
  | none => rw [e] at h; cases h
  | some c =>
    rw [e] at h
    exact ⟨c, by simpa using e, (Option.some.inj h).symm⟩
/-- the things of a shared datum -/
theorem itOk_seq {c : Ctx} {d : D} {xs : List D} {v : V} (hx : seqD d = some xs) (r : Rep K c.S0 d v) :
    (∃ a, v = .ref a ∧ (∃ vs, SqL K c.S0 a vs) ∧ ItOk K c (Itl K a) xs fun _ => True) ∨ (∃ a, v = .ref a ∧ (∃ vs, SqT K c.S0 a vs) ∧ ItOk K c (Itt K a) xs fun _ => True) ∨ ∃ x, v = .str x ∧ ItOk K c (Its x) xs fun _ => True := by
  cases d with
  | lst ys =>
    simp only [seqD] at hx
    injection hx with hx
    subst hx
    simp only [Rep] at r
    obtain ⟨a, vs, rfl, h1, h2⟩ := r
    refine .inl ⟨a, rfl, ⟨vs, h1⟩, fun S H σ ρ τ s _ => ⟨fun i d hd => ?_, fun i hi => ⟨vs, SqL.le (Le.trans s.up s.le) h1, by rw [h2.len]; exact hi⟩⟩⟩
    obtain ⟨u, hu, ru⟩ := h2.at0 hd
    refine ⟨⟨vs, u, SqL.le (Le.trans s.up s.le) h1, hu⟩, fun v H' ⟨e, hy⟩ => ?_⟩
    have := hy vs (SqL.le (Le.trans s.up s.le) h1)
    rw [hu] at this
    cases this
    subst e
    exact ⟨S, s.hold (Rep.le (Le.of_same s.up) d _ ru)⟩
  | tup ys =>
    simp only [seqD] at hx
    injection hx with hx
    subst hx
    simp only [Rep] at r
    obtain ⟨a, vs, rfl, h1, h2⟩ := r
    refine .inr (.inl ⟨a, rfl, ⟨vs, h1⟩, fun S H σ ρ τ s _ => ⟨fun i d hd => ?_, fun i hi => ⟨vs, SqT.le (Le.trans s.up s.le) h1, by rw [h2.len]; exact hi⟩⟩⟩)
    obtain ⟨u, hu, ru⟩ := h2.at0 hd
    refine ⟨⟨vs, u, SqT.le (Le.trans s.up s.le) h1, hu⟩, fun v H' ⟨e, hy⟩ => ?_⟩
    have := hy vs (SqT.le (Le.trans s.up s.le) h1)
    rw [hu] at this
    cases this
    subst e
    exact ⟨S, s.hold (Rep.le (Le.of_same s.up) d _ ru)⟩
  | str x =>
    simp only [seqD] at hx
    injection hx with hx
    subst hx
    simp only [Rep] at r
    subst r
    refine .inr (.inr ⟨x, rfl, fun S H σ ρ τ s _ => ⟨fun i d hd => ?_, fun i hi => ?_⟩⟩)
    · obtain ⟨c', hc, rfl⟩ := chrs_at hd
      refine ⟨(Array.getElem?_eq_some_iff.mp hc).1, fun v H' ⟨e, c2, h2, h3⟩ => ?_⟩
      rw [hc] at h2
      cases h2
      subst e h3
      exact ⟨S, s.hold (rep_sc rfl)⟩
    · show x.cps.size ≤ i
      have : (chrs x).length = x.cps.size := by simp [chrs]
      omega
  | _ => cases hx
/-- a sequence: what a slot holds is shared from now on -/
def aiSeq (ae : AE) : AI := fun EA ρ Q => ae EA ρ fun x ρ1 => useA x ρ1 fun d ρ2 => ∃ xs, seqD d = some xs ∧ Q xs (fun _ => True) ρ2
theorem SqL.up {S S' : Hp} {a : Addr} {vs : List V} (h : Le S S') (q : SqL K S a vs) : SqL K S' a vs := SqL.le h q
theorem qi_seq {e : Expr} {ae : AE} (h : QE X P e ae) : QI X P tg e (aiSeq ae) := by
  obtain ⟨t, p, s⟩ := h.ex
  refine ⟨_, pi_seq p, fun c EA ho hw τ S H σ ρ Q R st q k => s c EA ho hw τ S H σ ρ _ _ st q fun v H1 ⟨S1, ρ1, x, s1, q1⟩ => ?_⟩
  obtain ⟨S2, d, ρ2, sm, s2, xs, hx, q2⟩ := use_sim s1 q1
  have r := s2.data
  rcases itOk_seq (c := { c with S0 := S2 }) hx r with ⟨a, e, ⟨vs, h1⟩, h2⟩ | ⟨a, e, ⟨vs, h1⟩, h2⟩ | ⟨x, e, h2⟩
  · exact .inl ⟨a, e, ⟨vs, SqL.le s2.le h1⟩, k _ _ _ S2 ρ2 xs _ (Reb.rest s2) s2.drop.rest h2 q2⟩
  · exact .inr (.inl ⟨a, e, ⟨vs, SqT.le s2.le h1⟩, k _ _ _ S2 ρ2 xs _ (Reb.rest s2) s2.drop.rest h2 q2⟩)
  · exact .inr (.inr ⟨x, e, k _ _ _ S2 ρ2 xs _ (Reb.rest s2) s2.drop.rest h2 q2⟩)
/-- what a never stored slot holds, as it stands -/
def aiRef (j : Nat) : AI := fun _ ρ Q => ∃ d xs, dat (.loc j) ρ = some d ∧ seqD d = some xs ∧ Q xs (fun ρ => dat (.loc j) ρ = some d) ρ
theorem dat_loc {ρ : AEnv} {j : Nat} {d : D} (h : dat (.loc j) ρ = some d) : ∃ y, ρ[j]? = some (some y) ∧ y.toD = d := by
  unfold dat at h
  simp only at h
  split at h
  · exact ⟨_, by assumption, Option.some.inj h⟩
  · cases h
theorem itOk_ref {c : Ctx} {d : D} {xs : List D} {v : V} {j : Nat} (hj : (j, v) ∈ c.os) (hx : seqD d = some xs) {S H : Hp} {σ : L2.St} {ρ : AEnv} {τ : List (V × A)} (s : Stt K c S H σ ρ τ) (hd : dat (.loc j) ρ = some d) :
    (∃ a, v = .ref a ∧ (∃ vs, SqL K H a vs) ∧ ItOk K c (Itl K a) xs fun ρ => dat (.loc j) ρ = some d) ∨ (∃ a, v = .ref a ∧ (∃ vs, SqT K H a vs) ∧ ItOk K c (Itt K a) xs fun ρ => dat (.loc j) ρ = some d) ∨ ∃ x, v = .str x ∧ ItOk K c (Its x) xs fun ρ => dat (.loc j) ρ = some d := by
  -- the slot's thing in any state
  have slot : ∀ {S H : Hp} {σ : L2.St} {ρ : AEnv} {τ : List (V × A)}, Stt K c S H σ ρ τ → dat (.loc j) ρ = some d → ∃ y g, RepA K S H y v g ∧ y.toD = d := fun {S H σ ρ τ} s hd => by
    obtain ⟨y, hy, e⟩ := dat_loc hd
    obtain ⟨g, ra⟩ := s.slotA hy (s.os _ hj)
    exact ⟨y, g, ra, e⟩
  cases d with
  | lst ys =>
    simp only [seqD] at hx
    injection hx with hx
    subst hx
    obtain ⟨y, g, ra, e⟩ := slot s hd
    obtain ⟨a, vs, rfl, h1, h2⟩ := repA_lst ra e s.le
    refine .inl ⟨a, rfl, ⟨vs, h1⟩, fun S2 H2 σ2 ρ2 τ2 s2 hd2 => ?_⟩
    obtain ⟨y2, g2, ra2, e2⟩ := slot s2 hd2
    obtain ⟨a2, vs2, ea, h3, h4⟩ := repA_lst ra2 e2 s2.le
    cases ea
    refine ⟨fun i d hd => ?_, fun i hi => ⟨vs2, h3, by rw [h4.len]; exact hi⟩⟩
    obtain ⟨u, hu, ru⟩ := h4.at0 hd
    refine ⟨⟨vs2, u, h3, hu⟩, fun v H' ⟨e, hy⟩ => ?_⟩
    have := hy vs2 h3
    rw [hu] at this
    cases this
    subst e
    exact ⟨S2, s2.hold ru⟩
  | tup ys =>
    simp only [seqD] at hx
    injection hx with hx
    subst hx
    obtain ⟨y, g, ra, e⟩ := slot s hd
    obtain ⟨a, vs, rfl, _, h1, h2⟩ := repA_tup ra e s.le
    refine .inr (.inl ⟨a, rfl, ⟨vs, h1⟩, fun S2 H2 σ2 ρ2 τ2 s2 hd2 => ?_⟩)
    obtain ⟨y2, g2, ra2, e2⟩ := slot s2 hd2
    obtain ⟨a2, vs2, ea, _, h3, h4⟩ := repA_tup ra2 e2 s2.le
    cases ea
    refine ⟨fun i d hd => ?_, fun i hi => ⟨vs2, h3, by rw [h4.len]; exact hi⟩⟩
    obtain ⟨u, hu, ru⟩ := h4.at0 hd
    refine ⟨⟨vs2, u, h3, hu⟩, fun v H' ⟨e, hy⟩ => ?_⟩
    have := hy vs2 h3
    rw [hu] at this
    cases this
    subst e
    exact ⟨S2, s2.hold ru⟩
  | str x =>
    simp only [seqD] at hx
    injection hx with hx
    subst hx
    obtain ⟨y, g, ra, e⟩ := slot s hd
    have er : v = .str x := by
      cases y <;> simp only [A.toD] at e <;> first | (subst e; simp only [RepA, Rep] at ra; exact ra.1) | cases e
    subst er
    refine .inr (.inr ⟨x, rfl, fun S H σ ρ τ s _ => ⟨fun i d hd => ?_, fun i hi => ?_⟩⟩)
    · obtain ⟨c', hc, rfl⟩ := chrs_at hd
      refine ⟨(Array.getElem?_eq_some_iff.mp hc).1, fun v H' ⟨e, c2, h2, h3⟩ => ?_⟩
      rw [hc] at h2
      cases h2
      subst e h3
      exact ⟨S, s.hold (rep_sc rfl)⟩
    · show x.cps.size ≤ i
      have : (chrs x).length = x.cps.size := by simp [chrs]
      omega
  | _ => cases hx
theorem qi_ref (j : Nat) {x : Str} {pos : Pos} (hO : j ∈ P.O) (hN : X.N[j]? = some x := by rfl) (hv : Vis X.env.scope x := by first | exact Or.inl rfl | exact Or.inr (Or.inl rfl) | exact Or.inr (Or.inr rfl)) (hd : (x == ("__debug__" : Str)) = false := by decide)
    (hcd : (x == ("__classdict__" : Str)) = false := by decide) : QI X P tg (.Name x pos) (aiRef j) := by
  refine ⟨_, pi_seq (pe_var hN hv hd hcd), fun c EA ho hw τ S H σ ρ Q R st ⟨d, xs, hd, hx, q⟩ k => ?_⟩
  obtain ⟨v, hv⟩ := ho.2.1 j hO
  refine ⟨v, st.os _ hv, ?_⟩
  have s' := st.rest
  rcases itOk_ref (c := { c with S0 := S }) hv hx s' hd with ⟨a, e, h1, h2⟩ | ⟨a, e, h1, h2⟩ | ⟨x, e, h2⟩
  · exact .inl ⟨a, e, h1, k _ _ _ S ρ xs _ (Reb.rest st) s' h2 q⟩
  · exact .inr (.inl ⟨a, e, h1, k _ _ _ S ρ xs _ (Reb.rest st) s' h2 q⟩)
  · exact .inr (.inr ⟨x, e, k _ _ _ S ρ xs _ (Reb.rest st) s' h2 q⟩)
/-- numbers -/
def intsD (lo : Int) (n : Nat) : List D := (List.range n).map fun i => .int (lo + (i : Nat))
theorem intsD_at {lo : Int} {n i : Nat} {d : D} (h : (intsD lo n)[i]? = some d) : i < n ∧ d = .int (lo + (i : Nat)) := by
  unfold intsD at h
  rw [List.getElem?_map] at h
  by_cases e : i < n
  · rw [List.getElem?_range e] at h
    exact ⟨e, (Option.some.inj h).symm⟩
  · rw [List.getElem?_eq_none (by simpa using e)] at h
    cases h
theorem itOk_rng {c : Ctx} {lo : Int} {n : Nat} : ItOk K c (Itr lo n) (intsD lo n) fun _ => True := fun S H σ ρ τ s _ => ⟨fun i d hd => by
    obtain ⟨h1, rfl⟩ := intsD_at hd
    exact ⟨h1, fun v H' ⟨e, h⟩ => by subst e h; exact ⟨S, s.hold (rep_sc rfl)⟩⟩, fun i hi => by
    have : (intsD lo n).length = n := by simp [intsD]
    show n ≤ i
    omega⟩
def aiRng1 (aa : AA) : AI := fun EA ρ Q => aa EA ρ fun xs ρ1 => ∃ x j, xs = [x] ∧ dat x ρ1 = some (.int j) ∧ -(2 ^ 62) ≤ j ∧ j < 2 ^ 62 ∧ Q (intsD 0 j.toNat) (fun _ => True) ρ1
def aiRng2 (aa : AA) : AI := fun EA ρ Q => aa EA ρ fun xs ρ1 => ∃ x y i j, xs = [x, y] ∧ dat x ρ1 = some (.int i) ∧ dat y ρ1 = some (.int j) ∧ (-(2 ^ 62) ≤ i ∧ i < 2 ^ 62 ∧ -(2 ^ 62) ≤ j ∧ j < 2 ^ 62) ∧ Q (intsD i (j - i).toNat) (fun _ => True) ρ1
theorem qi_range1 {a : Expr} {aa : AA} {p pos : Pos} (hg : Gl X "range") (hm : X.mg "range" = none) (ha : QA X P [a] aa) (hs : starEach [a] X.env = [(false, eval a X.env)] := by rfl) : QI X P tg (.Call (.Name "range" p) [a] [] pos) (aiRng1 aa) := by
  obtain ⟨t, pa, s⟩ := ha.ex
  refine ⟨_, pi_range1 hg hm pa hs, fun c EA ho hw τ S H σ ρ Q R st q k => s c EA ho hw τ S H σ ρ _ _ st q fun vs H1 ⟨S1, ρ1, xs, hl, s1, x, j, e, hd, h1, h2, q1⟩ => ?_⟩
  subst e
  cases vs with
  | nil => simp at hl
  | cons v vs =>
    cases vs with
    | nil =>
      have r := s1.dat (v := v) (x := x) (by simp) hd
      simp only [Rep] at r
      subst r
      exact ⟨j, rfl, h1, h2, k _ _ _ S1 ρ1 _ _ (Reb.rest s1) (Stt.drops (ts := [V.int j].zip [x]) s1).rest itOk_rng q1⟩
    | cons _ _ => simp at hl
theorem qi_range2 {a b : Expr} {aa : AA} {p pos : Pos} (hg : Gl X "range") (hm : X.mg "range" = none) (ha : QA X P [a, b] aa) (hs : starEach [a, b] X.env = [(false, eval a X.env), (false, eval b X.env)] := by rfl) (hs2 : starEach [b] X.env = [(false, eval b X.env)] := by rfl) : QI X P tg (.Call (.Name "range" p) [a, b] [] pos) (aiRng2 aa) := by
  obtain ⟨t, pa, s⟩ := ha.ex
  refine ⟨_, pi_range2 hg hm pa hs hs2, fun c EA ho hw τ S H σ ρ Q R st q k => s c EA ho hw τ S H σ ρ _ _ st q fun vs H1 ⟨S1, ρ1, xs, hl, s1, x, y, i, j, e, hd, hd2, h1, q1⟩ => ?_⟩
  subst e
  cases vs with
  | nil => simp at hl
  | cons v vs =>
    cases vs with
    | nil => simp at hl
    | cons v2 vs =>
      cases vs with
      | nil =>
        have r := s1.dat (v := v) (x := x) (by simp) hd
        have r2 := s1.dat (v := v2) (x := y) (by simp) hd2
        simp only [Rep] at r r2
        subst r r2
        exact ⟨i, j, rfl, h1, k _ _ _ S1 ρ1 _ _ (Reb.rest s1) (Stt.drops (ts := [V.int i, V.int j].zip [x, y]) s1).rest itOk_rng q1⟩
      | cons _ _ => simp at hl
end

/-! ### targets -/
abbrev AG := D → AEnv → (AEnv → Prop) → Prop
abbrev AGs := List D → AEnv → (AEnv → Prop) → Prop
/-- σ2 is σ but for some slots -/
def But (ws : List Nat) (σ σ2 : L2.St) : Prop := σ2.length = σ.length ∧ ∀ i, i ∉ ws → σ2[i]? = σ[i]?
theorem But.refl {ws : List Nat} {σ : L2.St} : But ws σ σ := ⟨rfl, fun _ _ => rfl⟩
theorem But.trans {ws vs : List Nat} {σ σ2 σ3 : L2.St} (h : But ws σ σ2) (h2 : But vs σ2 σ3) : But (ws ++ vs) σ σ3 :=
  ⟨h2.1.trans h.1, fun i hi => (h2.2 i fun z => hi (by simp [z])).trans (h.2 i fun z => hi (by simp [z]))⟩
def SimG (K : Fg) (P : Pm) (g : TG) (ag : AG) (ws : List Nat) : Prop := ∀ c, OsIn K c P.O → ∀ τ S H σ ρ v d Q (R : L2.St → Hp → Prop), Stt K c S H σ ρ ((v, .v d) :: τ) → (∀ u i, (u, A.loc i) ∈ τ → i ∉ ws) → ag d ρ Q → (∀ σ' ρ', Stt K c S H σ' ρ' τ → But ws σ σ' → Q ρ' → R σ' H) → g v σ H R
def SimGs (K : Fg) (P : Pm) (g : TGs) (ag : AGs) (ws : List Nat) : Prop := ∀ c, OsIn K c P.O → ∀ τ S H σ ρ vs ds Q (R : L2.St → Hp → Prop), Stt K c S H σ ρ τ → RepL K S ds vs → (∀ u i, (u, A.loc i) ∈ τ → i ∉ ws) → ag ds ρ Q → (∀ σ' ρ', Stt K c S H σ' ρ' τ → But ws σ σ' → Q ρ' → R σ' H) → g vs σ H R
structure QG (X : Cx) (P : Pm) (tg : Expr) (ag : AG) (ws : List Nat) : Prop where
  ex : ∃ g, PG X tg g ∧ SimG X.K P g ag ws
structure QGs (X : Cx) (P : Pm) (tg : List Expr) (ag : AGs) (ws : List Nat) : Prop where
  ex : ∃ g, PGs X tg g ∧ SimGs X.K P g ag ws
section
variable {X : Cx} {P : Pm} {K : Fg} {pos : Pos}
def agName (i : Nat) : AG := fun d ρ Q => Q (ρ.set i (some (.v d)))
def agNil : AGs := fun ds ρ Q => ds = [] ∧ Q ρ
def agCons (a : AG) (b : AGs) : AGs := fun ds ρ Q => ∃ d r, ds = d :: r ∧ a d ρ fun ρ' => b r ρ' Q
def agTup (n : Nat) (b : AGs) : AG := fun d ρ Q => ∃ ds, d = .tup ds ∧ ds.length = n ∧ b ds ρ Q
theorem qg_name {i : Nat} {x : Str} (hN : X.N.Nodup) (hi : X.N[i]? = some x) (hx : Loc X.env.scope x) (hO : i ∉ P.O) (hf : X.fn x = true ∨ X.env.scope.names.lookup x = some .local := by first | exact .inl rfl | exact .inr rfl | assumption) : QG X P (.Name x pos) (agName i) [i] :=
  ⟨_, pg_name hN hi hx hf, fun c ho τ S H σ ρ v d Q R s hn q k => k _ _ (s.store rfl (ho.ne hO) fun u m => hn u i m (by simp)) ⟨by simp, fun j hj => List.getElem?_set_ne (fun z => hj (by simp [z]))⟩ q⟩
theorem qgs_nil : QGs X P [] agNil [] := ⟨_, pgs_nil, fun c ho τ S H σ ρ vs ds Q R s r hn ⟨e, q⟩ k => by
  subst e
  simp only [RepL] at r
  exact ⟨r, k _ _ s But.refl q⟩⟩
theorem qgs_cons {e : Expr} {es : List Expr} {a : AG} {b : AGs} {ws vs : List Nat} (h1 : QG X P e a ws) (h2 : QGs X P es b vs) (hs : (assignEach (e :: es) X.env).map (·.2) = assign e X.env :: (assignEach es X.env).map (·.2) := by rfl) : QGs X P (e :: es) (agCons a b) (ws ++ vs) := by
  obtain ⟨t, p, s⟩ := h1.ex
  obtain ⟨t2, p2, s2⟩ := h2.ex
  refine ⟨_, pgs_cons p p2 hs, fun c ho τ S H σ ρ us ds Q R st r hn ⟨d, rs, e, q⟩ k => ?_⟩
  subst e
  simp only [RepL] at r
  obtain ⟨v, r', rfl, h3, h4⟩ := r
  refine ⟨v, r', rfl, s c ho τ S H σ ρ v d _ _ (st.hold h3) (fun u i m z => hn u i m (by simp [z])) q fun σ' ρ' st' bt q' => ?_⟩
  exact s2 c ho τ S H σ' ρ' r' rs _ _ st' h4 (fun u i m z => hn u i m (by simp [z])) q' fun σ2 ρ2 st2 bt2 q2 => k σ2 ρ2 st2 (bt.trans bt2) q2
theorem qg_tup {es : List Expr} {k : Nat} {b : AGs} {n : Nat} {ws : List Nat} (hc : X.calm = true) (h : QGs X P es b ws) (hn : (assignEach es X.env).length = n := by rfl) (hst : (assignEach es X.env).findIdx? (·.1) = none := by rfl) : QG X P (.Tuple es k pos) (agTup n b) ws := by
  obtain ⟨t, p, s⟩ := h.ex
  refine ⟨_, pg_tup hc p hn hst, fun c ho τ S H σ ρ v d Q R st hnn ⟨ds, e, hl, q⟩ k => ?_⟩
  subst e
  have r := st.data
  simp only [Rep] at r
  obtain ⟨a, vs, rfl, h1, h2⟩ := r
  exact ⟨a, vs, rfl, SqT.le st.le h1, by rw [h2.len]; exact hl, s c ho τ S H σ ρ vs ds _ _ st.drop h2 hnn q k⟩

/-! ### for -/
def forA (G : AEnv → Prop) (ag : AG) (ab : AS) (DA : AEnds) : List D → AEnv → Prop
  | [], ρ => G ρ ∧ DA.nx ρ
  | x :: xs, ρ => G ρ ∧ ag x ρ fun ρ' => ab { DA with nx := forA G ag ab DA xs, ct := forA G ag ab DA xs, bk := DA.nx } ρ'
def asFor (ai : AI) (ag : AG) (ab : AS) : AS := fun DA ρ => ai DA.ex ρ fun xs G ρ' => forA G ag ab DA xs ρ'
theorem qs_for {tg iter : Expr} {body : List Stmt} {ai : AI} {ag : AG} {ab : AS} {ws : List Nat} (hp : PassesOwn (model X.prog X.w) X.A X.env X.xe) (hc : X.calm = true) (hi : QI X P tg iter ai) (hg : QG X P tg ag ws) (hb : QSs X P body ab)
    (hs : ∀ x, foldedSetIterable iter X.env x = pure x := by intro _; rfl) : QS X P (.For tg iter body [] pos) (asFor ai ag ab) := by
  obtain ⟨wi, pi, si⟩ := hi.ex
  obtain ⟨g, pg, sg⟩ := hg.ex
  obtain ⟨tb, pb, sb⟩ := hb.ex
  refine ⟨_, ps_for hp hc pi pg pb hs, fun c D DA ho hw l S H σ ρ st q => si c DA.ex ho hw [] S H σ ρ _ _ st q fun c' J H1 S1 ρ1 xs G rb s1 hJ q1 => ?_⟩
  refine ⟨fun i m σ H => ∃ S ρ, Stt X.K c' S H σ ρ [] ∧ i + m = xs.length ∧ forA G ag ab DA (xs.drop i) ρ, ⟨xs.length, S1, ρ1, s1, by omega, by simpa using q1⟩, ?_⟩
  rintro i m σ2 H2 ⟨S2, ρ2, s2, hm, q2⟩
  by_cases hlt : i < xs.length
  · have e : xs.drop i = xs[i] :: xs.drop (i + 1) := List.drop_eq_getElem_cons hlt
    rw [e] at q2
    obtain ⟨hG, q2⟩ := q2
    obtain ⟨h1, h2⟩ := (hJ S2 H2 σ2 ρ2 [] s2 hG).1 i xs[i] (List.getElem?_eq_getElem hlt)
    refine .inr ⟨h1, fun σ' H' => ∃ S ρ, Stt X.K c' S H' σ' ρ [] ∧ forA G ag ab DA (xs.drop (i + 1)) ρ, fun σ' H' ⟨S', ρ', a1, a2⟩ => ⟨m - 1, by omega, S', ρ', a1, by omega, a2⟩, fun x H' hy => ?_⟩
    obtain ⟨S3, s3⟩ := h2 x H' hy
    refine sg c' (rb.osIn ho) [] S3 H' σ2 ρ2 x xs[i] _ _ s3 (fun _ _ m => by simp at m) q2 fun σ' ρ' s4 _ q4 => ?_
    refine sb c' { D with nx := fun σ' H' => ∃ S ρ, Stt X.K c' S H' σ' ρ [] ∧ forA G ag ab DA (xs.drop (i + 1)) ρ, ct := fun σ' H' => ∃ S ρ, Stt X.K c' S H' σ' ρ [] ∧ forA G ag ab DA (xs.drop (i + 1)) ρ, bk := D.nx } { DA with nx := forA G ag ab DA (xs.drop (i + 1)), ct := forA G ag ab DA (xs.drop (i + 1)), bk := DA.nx } (rb.osIn ho) (rb.xok hw) ⟨fun S H σ ρ a b => ⟨S, ρ, a, b⟩, fun S H σ ρ v x a => l.rt S H σ ρ v x (rb.back a), fun S H σ ρ a => l.nx S H σ ρ (rb.back a), fun S H σ ρ a b => ⟨S, ρ, a, b⟩⟩ S3 H' σ' ρ' s4 q4
  · have e : xs.drop i = [] := List.drop_eq_nil_of_le (by omega)
    rw [e] at q2
    exact .inl ⟨(hJ S2 H2 σ2 ρ2 [] s2 q2.1).2 i (by omega), l.nx S2 H2 σ2 ρ2 (rb.back s2) q2.2⟩
/-- slots are forgotten -/
def clearA : List Nat → AEnv → AEnv
  | [], ρ => ρ
  | v :: vs, ρ => (clearA vs ρ).set v none
theorem Stt.clears {c : Ctx} {S H : Hp} {σ : L2.St} {ρ : AEnv} {τ : List (V × A)} (s : Stt K c S H σ ρ τ) : ∀ (vs : List Nat), (∀ u i, (u, A.loc i) ∈ τ → i ∉ vs) → Stt K c S H σ (clearA vs ρ) τ
  | [], _ => s
  | v :: vs, h => (Stt.clears s vs fun u i m z => h u i m (by simp [z])).clear v fun u m => h u v m (by simp)
theorem qs_forget (vs : List Nat) {st : Stmt} {a : AS} (h : QS X P st a) : QS X P st (fun DA ρ => a DA (clearA vs ρ)) :=
  let ⟨t, p, s⟩ := h.ex; ⟨t, p, fun c D DA ho hw l S H σ ρ st q => s c D DA ho hw l S H σ _ (st.clears vs fun _ _ m => by simp at m) q⟩
/-! ### while -/
end
end Vs

set_option Elab.async false
set_option linter.all false
set_option maxRecDepth 100000
set_option maxHeartbeats 1000000
/-! Vs: rules that take any kind; sharing; a bundle for a callee. -/
namespace Vs
open PySem PySem.Spec PyProof.Rows L2
section
variable {X : Cx} {P : Pm} {K : Fg} {a b e : Expr} {pos : Pos} {aa ab : AE}
theorem OpR.or {f : Value → Value → Sem Value} {r r' : R2} (h : OpR X f r) (h' : OpR X f r') : OpR X f (fun x y H Q => r x y H Q ∨ r' x y H Q) := fun pins s σ H x y v u Q I rx ry q =>
  q.elim (fun q => h pins s σ H x y v u Q I rx ry q) fun q => h' pins s σ H x y v u Q I rx ry q
/-! ### subscripts of any kind -/
def rDIx : R2 := fun x y H Q => ∃ a v, x = .ref a ∧ DGet H a y (some v) ∧ Q v H
theorem ix_dic (hu : X.A.units + 64 < cLine) : IxR X rDIx := by
  intro value slice pins s σ H x y v u Q I rx ry h hs
  obtain ⟨a, z, ex, g, q⟩ := h
  subst ex
  obtain rfl : v = Value.ref a := rx
  have hT := dict_typeIs I g
  unfold subscriptTail
  refine wpAny_bind ?_
  rw [getitemInPython_of_ne hT.not_modules]
  refine wpAny_bind (wpAny_specialOf hT PySem.F.slot_dict_getitem.lookup ?_)
  have fin : wpAny (model X.prog X.w) X.A (subscripted slice false (.ref a) u) (fun r s₃ => wpAny (model X.prog X.w) X.A (letTemporaryGo value (.ref a) r >>= fun _ => pure r) (EP X pins σ Q) X.xe s₃) X.xe s := by
    rw [hs]
    exact wpAny_operating (d_getItem (by omega) I g ry fun w' s3 I3 rw' => wpAny_bind (wpAny_letTemporaryGo (wpAny_pure ⟨z, H, I3, rw', q⟩)))
  first
    | exact wpAny_pure (wpAny_bind fin)
    | exact wpAny_bind (wpAny_pure (wpAny_bind fin))
    | exact wpAny_bind fin
theorem IxR.or {r r' : R2} (h : IxR X r) (h' : IxR X r') : IxR X (fun x y H Q => r x y H Q ∨ r' x y H Q) := fun value slice pins s σ H x y v u Q I rx ry q hs =>
  q.elim (fun q => h value slice pins s σ H x y v u Q I rx ry q hs) fun q => h' value slice pins s σ H x y v u Q I rx ry q hs
/-- d[i], the item of a list, tuple, text or dict -/
def itD (d i : D) : Option D := match d, i with
  | .lst xs, .int j => atI xs j
  | .tup xs, .int j => atI xs j
  | .str x, .int j => if x.length ≤ 100000 then (atI x.cps.toList j).map fun ch => .str ⟨#[ch]⟩ else none
  | .dic kvs, i => (keyD i).bind (valD kvs)
  | _, _ => none
def aIx : AR2 := fun x y ρ Q => ∃ d i z, dat x ρ = some d ∧ dat y ρ = some i ∧ itD d i = some z ∧ Q (.v z) ρ
theorem s_ditem : Sim2 K rDIx aDItem := by
  intro c τ S H σ ρ vx vy x y Q R s2 q k
  obtain ⟨kvs, i, kk, z, h1, h2, h3, h4, q2⟩ := q
  obtain ⟨y0, g, r0, e0⟩ := s2.thing (List.mem_cons_of_mem _ (List.mem_cons_self ..)) h1
  obtain ⟨p, ws, rfl, h5, h6⟩ := repA_dic r0 e0 s2.le
  have r2 := (two_dat s2 h1 h2).2
  have ek := key_rep h3 r2
  subst ek
  rcases h6.val (k := kk) with ⟨e1, _⟩ | ⟨d', v', e1, e2, e3⟩
  · rw [e1] at h4; cases h4
  · rw [h4] at e1
    cases e1
    exact ⟨p, v', rfl, .inl ⟨ws, kk, h5, rfl, e2.symm⟩, k _ _ ⟨S, ρ, .v z, s2.drop.drop.hold e3, q2⟩⟩
theorem s_ix : Sim2 K (fun x y H Q => rIx K x y H Q ∨ rDIx x y H Q) aIx := by
  intro c τ S H σ ρ vx vy x y Q R s q k
  obtain ⟨d, i, z, h1, h2, hi, q⟩ := q
  have other : ItD d i z → (rIx K vx vy H R ∨ rDIx vx vy H R) := fun h => .inl (s_item c τ S H σ ρ vx vy x y Q R s ⟨d, i, z, h1, h2, h, q⟩ k)
  cases d with
  | lst xs => cases i <;> first | (simp only [itD] at hi; exact other ⟨_, rfl, hi⟩) | cases hi
  | tup xs => cases i <;> first | (simp only [itD] at hi; exact other ⟨_, rfl, hi⟩) | cases hi
  | str t =>
    cases i with
    | int j =>
      simp only [itD] at hi
      split at hi
      · rename_i hl
        cases e : atI t.cps.toList j with
        | none => rw [e] at hi; cases hi
        | some ch =>
          rw [e] at hi
          exact other ⟨j, ch, rfl, hl, e, (Option.some.inj hi).symm⟩
      · cases hi
    | _ => cases hi
  | dic kvs =>
    have hi' : (keyD i).bind (valD kvs) = some z := by cases i <;> exact hi
    cases e : keyD i with
    | none => rw [e] at hi'; cases hi'
    | some kk =>
      rw [e] at hi'
      exact .inr (s_ditem c τ S H σ ρ vx vy x y Q R s ⟨kvs, i, kk, z, h1, h2, e, hi', q⟩ k)
  | _ => cases hi
theorem qe_ix (hu : X.A.units + 64 < cLine) (ha : QE X P a aa) (hb : QE X P b ab) (hs : PlainIx b := by intro _ _; rfl) : QE X P (.Subscript a b pos) (aOp aIx aa ab) :=
  let ⟨_, p, s⟩ := ha.ex; let ⟨_, p2, s2⟩ := hb.ex; ⟨_, pe_ix (IxR.or ix_seq (ix_dic hu)) p p2 hs, sim_op s s2 s_ix⟩
/-! ### + of any kind -/
def rCatX (K : Fg) : R2 := fun x y H Q => ∃ l b xs zs, x = .ref l ∧ y = .ref b ∧ SqL K H l xs ∧ SqL K H b zs ∧ xs.length + zs.length ≤ sizeLine ∧ ∀ p, H p = none → Q (.ref p) (upd H p (.lst (xs ++ zs)))
theorem op_catX : OpR X (binaryOp .Add) (rCatX X.K) := by
  intro pins s σ H x y v u Q I rx ry h
  obtain ⟨l, b, xs, zs, rfl, rfl, hH, hB, hz, q⟩ := h
  cases rx
  cases ry
  obtain ⟨its, r, p1, z1⟩ := I.list hH
  obtain ⟨its2, r2, p2, z2⟩ := I.list hB
  obtain ⟨⟨cls, dd, data, sl⟩, ho, hc, n, hd⟩ := p1.isList
  obtain ⟨⟨cls2, dd2, data2, sl2⟩, ho2, hc2, n2, hd2⟩ := p2.isList
  simp only at hc hd hc2 hd2
  subst hc hd hc2 hd2
  have l1 := r.length
  have l2 := r2.length
  have e : its.toArray ++ its2.toArray = (its ++ its2).toArray := by simp
  refine concat_meets ⟨_, ho, rfl⟩ ⟨_, ho2, rfl⟩ noFill_list_add seq_list_add PySem.F.slot_list_add PySem.F.entry_list_add (PySem.F.args_list_add_2 _ _) (PyProof.Rows.list_addW l b its.toArray its2.toArray n n2 dd dd2 sl sl2 (by simp; omega)) ⟨ho, ho2, ?_⟩
  rw [e]
  exact ⟨.ref _, _, I.lnew (t' := s.toks) (r.append r2) (by rw [List.length_append]; omega), rfl, q _ I.fresh⟩
/-- x + y: numbers, texts, tuples; lists give an owned one -/
def addA (d e : D) (Q : A → Prop) : Prop := match d, e with
  | .int i, .int j => Q (.v (.int (i + j)))
  | .str x, .str y => x.length + y.length ≤ 100000 ∧ Q (.v (.str (x ++ y)))
  | .tup xs, .tup ys => xs.length + ys.length ≤ 100000 ∧ Q (.v (.tup (xs ++ ys)))
  | .lst xs, .lst ys => xs.length + ys.length ≤ 100000 ∧ Q (.lst (xs ++ ys))
  | _, _ => False
def aPlus : AR2 := fun x y ρ Q => ∃ d e, dat x ρ = some d ∧ dat y ρ = some e ∧ addA d e fun z => Q z ρ
abbrev rPlusX (K : Fg) : R2 := fun x y H Q => (rI0 (fun i j => .int (i + j))) x y H Q ∨ (∃ i j, x = .str i ∧ y = .str j ∧ i.length + j.length ≤ sizeLine ∧ Q (.str (i ++ j)) H) ∨ rCatA K x y H Q ∨ rCatX K x y H Q
theorem op_plus : OpR X (binaryOp .Add) (rPlusX X.K) := OpR.or op_add (OpR.or op_add_str (OpR.or op_catA op_catX))
theorem s_plus : Sim2 K (rPlusX K) aPlus := by
  intro c τ S H σ ρ vx vy x y Q R s q k
  obtain ⟨d, e, h1, h2, q⟩ := q
  cases d with
  | int i => cases e with
    | int j => exact .inl (s_add c τ S H σ ρ vx vy x y Q R s ⟨i, j, h1, h2, q⟩ k)
    | _ => cases q
  | str i => cases e with
    | str j => exact .inr (.inl (s_addS c τ S H σ ρ vx vy x y Q R s ⟨i, j, h1, h2, q.1, q.2⟩ k))
    | _ => cases q
  | tup i => cases e with
    | tup j => exact .inr (.inr (.inl (s_addT c τ S H σ ρ vx vy x y Q R s ⟨i, j, h1, h2, q.1, q.2⟩ k)))
    | _ => cases q
  | lst i => cases e with
    | lst j =>
      obtain ⟨y0, g, r0, e0⟩ := s.thing (List.mem_cons_of_mem _ (List.mem_cons_self ..)) h1
      obtain ⟨y1, g1, r1, e1⟩ := s.thing (List.mem_cons_self ..) h2
      obtain ⟨p, vs, rfl, a2, a3⟩ := repA_lst r0 e0 s.le
      obtain ⟨p', vs', rfl, b2, b3⟩ := repA_lst r1 e1 s.le
      refine .inr (.inr (.inr ⟨p, p', vs, vs', rfl, rfl, a2, b2, by rw [a3.len, b3.len]; exact Nat.le_trans q.1 (by decide), fun pn hp => ?_⟩))
      exact k _ _ ⟨S, ρ, _, s.drop.drop.newList hp (a3.app b3), q.2⟩
    | _ => cases q
  | _ => cases q
/-! ### sharing -/
def aFrz (ae : AE) : AE := fun EA ρ Q => ae EA ρ fun x ρ1 => useA x ρ1 fun d ρ2 => Q (.v d) ρ2
theorem qe_frz (h : QE X P e aa) : QE X P e (aFrz aa) := by
  obtain ⟨t, p, s⟩ := h.ex
  refine ⟨_, p, fun c EA ho hw τ S H σ ρ Q R st q k => s c EA ho hw τ S H σ ρ _ _ st q fun v H1 ⟨S1, ρ1, x, s1, q1⟩ => ?_⟩
  obtain ⟨S2, d, ρ2, sm, s2, q2⟩ := use_sim s1 q1
  exact k _ _ ⟨S2, ρ2, .v d, s2, q2⟩
/-! ### o[i] = e, o an owned list or dict -/
def putX (y : A) (i d : D) : Option A := match y with
  | .lst xs => (match i with
    | .int k => (ixN xs.length k).map fun n => .lst (xs.set n d)
    | _ => none)
  | .dic kvs => (keyD i).map fun k => .dic (putD kvs k d)
  | _ => none
def lenA : A → Nat
  | .dic kvs => kvs.length
  | _ => 0
def asPut (av ao ai : AE) : AS := fun DA ρ => av DA.ex ρ fun x ρ1 => useA x ρ1 fun d ρ2 => ao DA.ex ρ2 fun o ρ3 => ai DA.ex ρ3 fun iv ρ4 => ∃ j y i y', o = .loc j ∧ ρ4[j]? = some (some y) ∧ dat iv ρ4 = some i ∧ putX y i d = some y' ∧ lenA y ≤ 100000 ∧ DA.nx (ρ4.set j (some y'))
theorem PSet.or {t t' : TSet} (h : PSet X t) (h' : PSet X t') : PSet X (fun o i v H Q => t o i v H Q ∨ t' o i v H Q) := fun pins s σ H o i v ov iv u Q I ro ri rv q =>
  q.elim (fun q => h pins s σ H o i v ov iv u Q I ro ri rv q) fun q => h' pins s σ H o i v ov iv u Q I ro ri rv q
theorem qs_put {o i e : Expr} {av ao ai : AE} {pos' : Pos} (hu : X.A.units + 64 < cLine) (hv : QE X P e av) (ho' : QE X P o ao) (hi : QE X P i ai)
    (ha : ∀ v, assign (.Subscript o i pos') X.env v = (do
      let ov ← holding [v] (eval o X.env)
      let iv ← holding [v, ov] (eval i X.env)
      standAt pos'
      holding [v, ov, iv] (setItem ov iv v)
      release [v, ov, iv] []) := by intro _; rfl)
    (hs : swapsWithSole [.Subscript o i pos'] e pos.line X.env = pure false := by rfl) (hw : swappedStores [.Subscript o i pos'] e X.env = pure none := by rfl)
    (h1 : (assignEach [.Subscript o i pos'] X.env).map (·.2) = [assign (.Subscript o i pos') X.env] := by rfl) : QS X P (.Assign [.Subscript o i pos'] e pos) (asPut av ao ai) := by
  obtain ⟨tv, pv, sv⟩ := hv.ex
  obtain ⟨to, po, so⟩ := ho'.ex
  obtain ⟨ti, pi, si⟩ := hi.ex
  refine ⟨_, ps_asg pv (pg_sub po pi (PSet.or set_list (set_dict (by omega))) ha) hs hw h1, fun c D DA ho hw l S H σ ρ st q => sv c DA.ex ho hw [] S H σ ρ _ _ st q fun v H1 ⟨S1, ρ1, y, s1, q1⟩ => ?_⟩
  obtain ⟨S2, d, ρ2, sm, s2, q2⟩ := use_sim s1 q1
  refine so c DA.ex ho hw _ S2 H1 σ ρ2 _ _ s2 q2 fun vo H2 ⟨S3, ρ3, xo, s3, q3⟩ => si c DA.ex ho hw _ S3 H2 σ ρ3 _ _ s3 q3 fun vi H3 ⟨S4, ρ4, xi, s4, j, y, i, y', eo, hj, hk, hp', hlen, q4⟩ => ?_
  subst eo
  have hvo : σ[j]? = some (some vo) := (s4.loc vo j (by simp)).1
  obtain ⟨g, ra⟩ := s4.slotA hj hvo
  have rd : Rep X.K S4 d v := s4.dataMem (by simp)
  have rk := s4.dat (List.mem_cons_self ..) hk
  cases y with
  | lst xs =>
    obtain ⟨p, vs, rfl, hp, rl, rfl⟩ := ra.lst_inv
    cases i with
    | int k =>
      simp only [Rep] at rk
      simp only [putX] at hp'
      cases hn : ixN xs.length k with
      | none => rw [hn] at hp'; cases hp'
      | some n =>
        rw [hn] at hp'
        have e1 := (Option.some.inj hp').symm
        subst e1
        refine .inl ⟨p, vs, k, n, rfl, rk, hp, by rw [rl.len]; exact hn, ?_⟩
        have s5 := s4.write (o := .lst (vs.set n v)) (y' := .lst (xs.set n d)) hj hvo (fun g' h => by obtain ⟨a', _, e, _, _, e2⟩ := h.lst_inv; cases e; exact e2) rfl (.mk_lst upd_same (rl.set n rd))
        exact l.nx S4 _ σ _ s5.drop.drop.drop q4
    | _ => cases hp'
  | dic kvs =>
    obtain ⟨p, ws, rfl, hp, rl, rfl⟩ := ra.dic_inv
    simp only [putX] at hp'
    cases hkk : keyD i with
    | none => rw [hkk] at hp'; cases hp'
    | some k =>
      rw [hkk] at hp'
      have e1 := (Option.some.inj hp').symm
      subst e1
      have ek := key_rep hkk rk
      subst ek
      refine .inr ⟨p, upd H3 p (.dK (putK ws k v)), rfl, .inl ⟨ws, k, hp, rfl, by rw [rl.len]; exact Nat.lt_of_le_of_lt hlen (by decide), rfl⟩, ?_⟩
      have s5 := s4.write (o := .dK (putK ws k v)) (y' := .dic (putD kvs k d)) hj hvo (fun g' h => by obtain ⟨a', _, e, _, _, e2⟩ := h.dic_inv; cases e; exact e2) rfl (.mk_dic upd_same (rl.put k rd))
      exact l.nx S4 _ σ _ s5.drop.drop.drop q4
  | _ => cases hp'
end
/-! ### a callee -/
structure Cal (Pr : Program) (w : World) (K : Fg) (mg : Str → Option Value) (base : Heap) (x : Str) (k : Nat) (ps : List Str) (sp : ASp) : Prop where
  ex : ∃ f fd, mg x = some (.ref f) ∧ PySem.W.keepIn K (.ref f) = true ∧ Binds K fd ps [] ∧ Fok Pr w K mg base k f fd ps sp
theorem qe_callC {X : Cx} {P : Pm} {k : Nat} {ps : List Str} {sp : ASp} {x : Str} {e : Expr} {es : List Expr} {aa : AA} {p pos : Pos} (F : Cal X.prog X.w X.K X.mg X.base x k ps sp) (hr : Room k X.A) (hg : Gl X x) (hx : ∀ σ, PassesAt (L2.CX X.prog X.w) X σ (fun cls d H => P.W cls d σ H)) (ha : QA X P (e :: es) aa)
    (hdb : (x == ("__debug__" : Str)) = false := by decide) (he : starEach (e :: es) X.env = (false, eval e X.env) :: starEach es X.env := by rfl) (hpl : (backTo pos (starEach es X.env)).any (·.1) = false := by rfl) :
    QE X P (.Call (.Name x p) (e :: es) [] pos) (aCall sp [] aa) := let ⟨_, _, h1, h2, h3, h4⟩ := F.ex; qe_call h4 hr hg h1 h2 h3 .nil dfl_nil hx ha hdb he hpl
end Vs

set_option Elab.async false
set_option linter.all false
set_option maxRecDepth 100000
set_option maxHeartbeats 1000000
/-! Vs: readings, each at its whole application. -/
namespace Vs
open PySem PySem.Spec PyProof.Rows L2
section
variable {EA : AX} {ρ : AEnv} {Q : AK} {DA : AEnds} {QB : Bool → AEnv → Prop} {QL : List A → AEnv → Prop}
theorem r_seq {a b : AS} : asSeq a b DA ρ = a { DA with nx := b DA } ρ := rfl
theorem r_next : asNext DA ρ = DA.nx ρ := rfl
theorem r_expr {ae : AE} : asExpr ae DA ρ = ae DA.ex ρ (fun _ ρ' => DA.nx ρ') := rfl
theorem r_ret {ae : AE} : asRet ae DA ρ = ae DA.ex ρ (fun x ρ' => retA x ρ' DA.rt) := rfl
theorem r_retN : asRetN DA ρ = DA.rt (.v .non) ρ := rfl
theorem r_if {t : AT} {a b : AS} : asIf t a b DA ρ = t DA.ex ρ (fun b' ρ' => if b' = true then a DA ρ' else b DA ρ') := rfl
theorem r_break : asBreak DA ρ = DA.bk ρ := rfl
theorem r_cont : asCont DA ρ = DA.ct ρ := rfl
theorem r_set {i : Nat} {ae : AE} : asSet i ae DA ρ = ae DA.ex ρ (fun x ρ' => setA x ρ' i DA.nx) := rfl
theorem r_put {av ao ai : AE} : asPut av ao ai DA ρ = av DA.ex ρ (fun x ρ1 => useA x ρ1 fun d ρ2 => ao DA.ex ρ2 fun o ρ3 => ai DA.ex ρ3 fun iv ρ4 => ∃ j y i y', o = .loc j ∧ ρ4[j]? = some (some y) ∧ dat iv ρ4 = some i ∧ putX y i d = some y' ∧ lenA y ≤ 100000 ∧ DA.nx (ρ4.set j (some y'))) := rfl
theorem r_for {ai : AI} {ag : AG} {ab : AS} : asFor ai ag ab DA ρ = ai DA.ex ρ (fun xs G ρ' => forA G ag ab DA xs ρ') := rfl
theorem r_retv {d : D} {rt : A → AEnv → Prop} : retA (.v d) ρ rt = rt (.v d) ρ := rfl
theorem r_retl {xs : List D} {rt : A → AEnv → Prop} : retA (.lst xs) ρ rt = rt (.lst xs) ρ := rfl
theorem r_retd {xs : List (Key × D)} {rt : A → AEnv → Prop} : retA (.dic xs) ρ rt = rt (.dic xs) ρ := rfl
theorem r_reto {C : Addr} {xs : List (Str × A)} {rt : A → AEnv → Prop} : retA (.obj C xs) ρ rt = rt (.obj C xs) ρ := rfl
theorem r_reti {i : Nat} {rt : A → AEnv → Prop} : retA (.loc i) ρ rt = ∃ y, ρ[i]? = some (some y) ∧ rt y (ρ.set i none) := rfl
theorem r_setv {d : D} {i : Nat} {nx : AEnv → Prop} : setA (.v d) ρ i nx = nx (ρ.set i (some (.v d))) := rfl
theorem r_setl {d : List D} {i : Nat} {nx : AEnv → Prop} : setA (.lst d) ρ i nx = nx (ρ.set i (some (.lst d))) := rfl
theorem r_setd {d : List (Key × D)} {i : Nat} {nx : AEnv → Prop} : setA (.dic d) ρ i nx = nx (ρ.set i (some (.dic d))) := rfl
theorem r_seto {C : Addr} {d : List (Str × A)} {i : Nat} {nx : AEnv → Prop} : setA (.obj C d) ρ i nx = nx (ρ.set i (some (.obj C d))) := rfl
theorem r_seti {j i : Nat} {nx : AEnv → Prop} : setA (.loc j) ρ i nx = ∃ y, ρ[j]? = some (some y) ∧ nx ((ρ.set j (some (.v y.toD))).set i (some (.v y.toD))) := rfl
theorem r_usev {d : D} {k : D → AEnv → Prop} : useA (.v d) ρ k = k d ρ := rfl
theorem r_usel {xs : List D} {k : D → AEnv → Prop} : useA (.lst xs) ρ k = k (.lst xs) ρ := rfl
theorem r_used {xs : List (Key × D)} {k : D → AEnv → Prop} : useA (.dic xs) ρ k = k (.dic xs) ρ := rfl
theorem r_useo {C : Addr} {xs : List (Str × A)} {k : D → AEnv → Prop} : useA (.obj C xs) ρ k = k (A.obj C xs).toD ρ := rfl
theorem r_usei {i : Nat} {k : D → AEnv → Prop} : useA (.loc i) ρ k = ∃ y, ρ[i]? = some (some y) ∧ k y.toD (ρ.set i (some (.v y.toD))) := rfl
theorem r_uses0 {k : List D → AEnv → Prop} : usesA [] ρ k = k [] ρ := rfl
theorem r_uses1 {x : A} {xs : List A} {k : List D → AEnv → Prop} : usesA (x :: xs) ρ k = useA x ρ (fun d ρ' => usesA xs ρ' fun ds ρ'' => k (d :: ds) ρ'') := rfl
theorem r_datv {d : D} : dat (.v d) ρ = some d := rfl
theorem r_datl {d : List D} : dat (.lst d) ρ = some (.lst d) := rfl
theorem r_datd {d : List (Key × D)} : dat (.dic d) ρ = some (.dic d) := rfl
theorem r_dati {i : Nat} {y : A} (h : ρ[i]? = some (some y)) : dat (.loc i) ρ = some y.toD := by
  unfold dat
  simp only [h]
theorem r_toDv {d : D} : (A.v d).toD = d := rfl
theorem r_toDl {d : List D} : (A.lst d).toD = .lst d := rfl
theorem r_toDd {d : List (Key × D)} : (A.dic d).toD = .dic d := rfl
theorem r_c {d : D} : aC d EA ρ Q = Q (.v d) ρ := rfl
theorem r_val {i : Nat} : aVal i EA ρ Q = ∃ d, ρ[i]? = some (some (.v d)) ∧ Q (.v d) ρ := rfl
theorem r_ref {i : Nat} : aRef i EA ρ Q = ((∃ y, ρ[i]? = some (some y)) ∧ Q (.loc i) ρ) := rfl
theorem r_op {ra : AR2} {aa ab : AE} : aOp ra aa ab EA ρ Q = aa EA ρ (fun x ρ1 => ab EA ρ1 fun y ρ2 => ra x y ρ2 Q) := rfl
theorem r_un {ra : AR1} {aa : AE} : aUn ra aa EA ρ Q = aa EA ρ (fun x ρ1 => ra x ρ1 Q) := rfl
theorem r_test {ae : AE} : aTest ae EA ρ QB = ae EA ρ (fun x ρ1 => ∃ b, dat x ρ1 = some (.bl b) ∧ QB b ρ1) := rfl
theorem r_tand {t u : AT} : atAnd t u EA ρ QB = t EA ρ (fun b ρ1 => if b = true then u EA ρ1 QB else QB false ρ1) := rfl
theorem r_tor {t u : AT} : atOr t u EA ρ QB = t EA ρ (fun b ρ1 => if b = true then QB true ρ1 else u EA ρ1 QB) := rfl
theorem r_tnot {t : AT} : atNot t EA ρ QB = t EA ρ (fun b ρ1 => QB (!b) ρ1) := rfl
theorem r_and {t u : AE} : aAnd t u EA ρ Q = t EA ρ (fun x ρ1 => ∃ b, dat x ρ1 = some (.bl b) ∧ if b = true then u EA ρ1 Q else Q (.v (.bl false)) ρ1) := rfl
theorem r_or {t u : AE} : aOr t u EA ρ Q = t EA ρ (fun x ρ1 => ∃ b, dat x ρ1 = some (.bl b) ∧ if b = true then Q (.v (.bl true)) ρ1 else u EA ρ1 Q) := rfl
theorem r_not {t : AE} : aNot t EA ρ Q = t EA ρ (fun x ρ1 => ∃ b, dat x ρ1 = some (.bl b) ∧ Q (.v (.bl (!b))) ρ1) := rfl
theorem r_ifx {t : AT} {a b : AE} : aIf t a b EA ρ Q = t EA ρ (fun c ρ1 => if c = true then a EA ρ1 Q else b EA ρ1 Q) := rfl
theorem r_chain {ra rb : AR2} {aa ab ac : AE} : aChain ra rb aa ab ac EA ρ Q = aa EA ρ (fun x ρ1 => ab EA ρ1 fun y ρ2 => ∃ dy, y = .v dy ∧ ra x y ρ2 fun z ρ3 => ∃ b, dat z ρ3 = some (.bl b) ∧ if b = true then ac EA ρ3 fun w ρ4 => rb (.v dy) w ρ4 Q else Q (.v (.bl false)) ρ3) := rfl
theorem r_nil : aNil EA ρ QL = QL [] ρ := rfl
theorem r_cons {ae : AE} {aa : AA} : aCons ae aa EA ρ QL = ae EA ρ (fun x ρ1 => aa EA ρ1 fun xs ρ2 => QL (x :: xs) ρ2) := rfl
theorem r_tup {aa : AA} : aTup aa EA ρ Q = aa EA ρ (fun xs ρ1 => xs.length ≤ 1000 ∧ usesA xs ρ1 fun ds ρ2 => Q (.v (.tup ds)) ρ2) := rfl
theorem r_lst {aa : AA} : aLst aa EA ρ Q = aa EA ρ (fun xs ρ1 => xs.length ≤ 1000 ∧ usesA xs ρ1 fun ds ρ2 => Q (.lst ds) ρ2) := rfl
theorem r_dict0 : aDict0 EA ρ Q = Q (.dic []) ρ := rfl
theorem r_cb {ra : ARs} {aa : AA} : aCB ra aa EA ρ Q = aa EA ρ (fun xs ρ1 => ra xs ρ1 Q) := rfl
theorem r_frz {ae : AE} : aFrz ae EA ρ Q = ae EA ρ (fun x ρ1 => useA x ρ1 fun d ρ2 => Q (.v d) ρ2) := rfl
/-! operations on what is known -/
theorem r_ix {x y : A} : aIx x y ρ Q = ∃ d i z, dat x ρ = some d ∧ dat y ρ = some i ∧ itD d i = some z ∧ Q (.v z) ρ := rfl
theorem r_plus {x y : A} : aPlus x y ρ Q = ∃ d e, dat x ρ = some d ∧ dat y ρ = some e ∧ addA d e fun z => Q z ρ := rfl
theorem r_addi {i j : Int} {q : A → Prop} : addA (.int i) (.int j) q = q (.v (.int (i + j))) := rfl
theorem r_adds {i j : Str} {q : A → Prop} : addA (.str i) (.str j) q = (i.length + j.length ≤ 100000 ∧ q (.v (.str (i ++ j)))) := rfl
theorem r_addt {i j : List D} {q : A → Prop} : addA (.tup i) (.tup j) q = (i.length + j.length ≤ 100000 ∧ q (.v (.tup (i ++ j)))) := rfl
theorem r_addl {i j : List D} {q : A → Prop} : addA (.lst i) (.lst j) q = (i.length + j.length ≤ 100000 ∧ q (.lst (i ++ j))) := rfl
theorem r_sub {x y : A} : aSub x y ρ Q = ∃ i j, dat x ρ = some (.int i) ∧ dat y ρ = some (.int j) ∧ Q (.v (.int (i - j))) ρ := rfl
theorem r_lt {x y : A} : aLt x y ρ Q = ∃ i j, dat x ρ = some (.int i) ∧ dat y ρ = some (.int j) ∧ Q (.v (.bl (decide (i < j)))) ρ := rfl
theorem r_le {x y : A} : aLe x y ρ Q = ∃ i j, dat x ρ = some (.int i) ∧ dat y ρ = some (.int j) ∧ Q (.v (.bl (decide (i ≤ j)))) ρ := rfl
theorem r_gt {x y : A} : aGt x y ρ Q = ∃ i j, dat x ρ = some (.int i) ∧ dat y ρ = some (.int j) ∧ Q (.v (.bl (decide (j < i)))) ρ := rfl
theorem r_ge {x y : A} : aGe x y ρ Q = ∃ i j, dat x ρ = some (.int i) ∧ dat y ρ = some (.int j) ∧ Q (.v (.bl (decide (j ≤ i)))) ρ := rfl
theorem r_mul {x y : A} : aMul x y ρ Q = ∃ i j, dat x ρ = some (.int i) ∧ dat y ρ = some (.int j) ∧ CMul i j ∧ Q (.v (.int (i * j))) ρ := rfl
theorem r_mod {x y : A} : aMod x y ρ Q = ∃ i j, dat x ρ = some (.int i) ∧ dat y ρ = some (.int j) ∧ 0 < j ∧ Q (.v (.int (i % j))) ρ := rfl
theorem r_pow {x y : A} : aPow x y ρ Q = ∃ i j, dat x ρ = some (.int i) ∧ dat y ρ = some (.int j) ∧ CPow i j ∧ Q (.v (.int (i ^ j.toNat))) ρ := rfl
/-- wide division -/
def aDivW : AR2 := aI CDivW fun i j => .int (i / j)
theorem s_divW {K : Fg} : Sim2 K (rI CDivW fun i j => .int (i / j)) aDivW := s2_I fun _ _ => rfl
theorem r_div {x y : A} : aDivW x y ρ Q = ∃ i j, dat x ρ = some (.int i) ∧ dat y ρ = some (.int j) ∧ CDivW i j ∧ Q (.v (.int (i / j))) ρ := rfl
theorem r_neg {x : A} : aNeg x ρ Q = ∃ i, dat x ρ = some (.int i) ∧ Q (.v (.int (-i))) ρ := rfl
theorem r_eq {x y : A} : aEq x y ρ Q = ∃ d e, dat x ρ = some d ∧ dat y ρ = some e ∧ PlD 20 d ∧ PlD 20 e ∧ Q (.v (.bl (deq d e))) ρ := rfl
theorem r_ne {x y : A} : aNe x y ρ Q = ∃ d e, dat x ρ = some d ∧ dat y ρ = some e ∧ PlD 20 d ∧ PlD 20 e ∧ Q (.v (.bl (!deq d e))) ρ := rfl
theorem r_is {x y : A} : aIs x y ρ Q = ∃ d, dat x ρ = some d ∧ dat y ρ = some .non ∧ Q (.v (.bl (isNon d))) ρ := rfl
theorem r_isnot {x y : A} : aIsNot x y ρ Q = ∃ d, dat x ρ = some d ∧ dat y ρ = some .non ∧ Q (.v (.bl (!isNon d))) ρ := rfl
theorem r_in {x y : A} {n : Bool} : aIn n x y ρ Q = ∃ d e b, dat x ρ = some d ∧ dat y ρ = some e ∧ InD d e b ∧ Q (.v (.bl (if n then !b else b))) ρ := rfl
theorem r_len {x : A} : aLen [x] ρ Q = ∃ d n, dat x ρ = some d ∧ lenD d = some n ∧ Q (.v (.int n)) ρ := by
  unfold aLen
  simp only [List.cons.injEq, and_true, exists_and_left, exists_eq_left']
theorem r_int {x : A} : aInt [x] ρ Q = ((∃ i, dat x ρ = some (.int i) ∧ Q (.v (.int i)) ρ) ∨ ∃ b, dat x ρ = some (.bl b) ∧ Q (.v (.int (if b then 1 else 0))) ρ) := by
  unfold aInt
  simp only [List.cons.injEq, and_true, exists_and_left, exists_eq_left']
theorem r_list {x : A} : aList [x] ρ Q = ∃ d ys, dat x ρ = some d ∧ itemsD d = some ys ∧ Q (.lst ys) ρ := by
  unfold aList
  simp only [List.cons.injEq, and_true, exists_and_left, exists_eq_left']
theorem r_max {x y : A} : aMax2 [x, y] ρ Q = ∃ i j, dat x ρ = some (.int i) ∧ dat y ρ = some (.int j) ∧ Q (.v (.int (if j > i then j else i))) ρ := by
  unfold aMax2
  refine propext ⟨?_, ?_⟩
  · rintro ⟨a, b, i, j, e, h1, h2, q⟩
    cases e
    exact ⟨i, j, h1, h2, q⟩
  · rintro ⟨i, j, h1, h2, q⟩
    exact ⟨x, y, i, j, rfl, h1, h2, q⟩
theorem r_min {x y : A} : aMin2 [x, y] ρ Q = ∃ i j, dat x ρ = some (.int i) ∧ dat y ρ = some (.int j) ∧ Q (.v (.int (if j < i then j else i))) ρ := by
  unfold aMin2
  refine propext ⟨?_, ?_⟩
  · rintro ⟨a, b, i, j, e, h1, h2, q⟩
    cases e
    exact ⟨i, j, h1, h2, q⟩
  · rintro ⟨i, j, h1, h2, q⟩
    exact ⟨x, y, i, j, rfl, h1, h2, q⟩
theorem r_tuple {x : A} : aTuple [x] ρ Q = ∃ d ys, dat x ρ = some d ∧ (d = .lst ys ∨ d = .tup ys) ∧ Q (.v (.tup ys)) ρ := by
  unfold aTuple
  simp only [List.cons.injEq, and_true, exists_and_left, exists_eq_left']
theorem r_all {x : A} : aAll [x] ρ Q = ∃ bs : List Bool, dat x ρ = some (.lst (bs.map D.bl)) ∧ Q (.v (.bl (bs.all id))) ρ := by
  unfold aAll
  refine propext ⟨?_, ?_⟩
  · rintro ⟨a, bs, e, h1, q⟩
    cases e
    exact ⟨bs, h1, q⟩
  · rintro ⟨bs, h1, q⟩
    exact ⟨x, bs, rfl, h1, q⟩
theorem r_append {ao ae : AE} : aAppend ao ae EA ρ Q = ao EA ρ (fun o ρ1 => (∃ xs, dat o ρ1 = some (.lst xs)) ∧ ae EA ρ1 fun x ρ2 => useA x ρ2 fun d ρ3 => ∃ j xs, o = .loc j ∧ ρ3[j]? = some (some (.lst xs)) ∧ xs.length ≤ 100000 ∧ Q (.v .non) (ρ3.set j (some (.lst (xs ++ [d]))))) := rfl
theorem r_get1 {aa ab : AE} : aGet1 aa ab EA ρ Q = aa EA ρ (fun x ρ1 => (∃ kvs, dat x ρ1 = some (.dic kvs)) ∧ ab EA ρ1 fun y ρ2 => ∃ kvs i k, dat x ρ2 = some (.dic kvs) ∧ dat y ρ2 = some i ∧ keyD i = some k ∧ Q (.v ((valD kvs k).getD .non)) ρ2) := rfl
theorem r_itl {xs : List D} {j : Int} : itD (.lst xs) (.int j) = atI xs j := rfl
theorem r_itt {xs : List D} {j : Int} : itD (.tup xs) (.int j) = atI xs j := rfl
theorem r_itdi {kvs : List (Key × D)} {j : Int} : itD (.dic kvs) (.int j) = valD kvs (.inl j) := rfl
theorem r_itds {kvs : List (Key × D)} {j : Str} : itD (.dic kvs) (.str j) = valD kvs (.inr j) := rfl
theorem r_putl {xs : List D} {k : Int} {d : D} : putX (.lst xs) (.int k) d = (ixN xs.length k).map fun n => .lst (xs.set n d) := rfl
theorem r_putdi {kvs : List (Key × D)} {k : Int} {d : D} : putX (.dic kvs) (.int k) d = some (.dic (putD kvs (.inl k) d)) := rfl
theorem r_putds {kvs : List (Key × D)} {k : Str} {d : D} : putX (.dic kvs) (.str k) d = some (.dic (putD kvs (.inr k) d)) := rfl
theorem r_lenl {xs : List D} : lenA (.lst xs) = 0 := rfl
theorem r_lend {xs : List (Key × D)} : lenA (.dic xs) = xs.length := rfl
theorem r_lenDl {xs : List D} : lenD (.lst xs) = some xs.length := rfl
theorem r_lenDt {xs : List D} : lenD (.tup xs) = some xs.length := rfl
theorem r_at0 {α : Type} {a : α} {xs : List α} : atI (a :: xs) 0 = some a := by
  simp [atI, ixN]
theorem r_at1 {α : Type} {a b : α} {xs : List α} : atI (a :: b :: xs) 1 = some b := by
  have h : (1 : Int) < ((xs.length : Int) + 1 + 1) := by omega
  simp [atI, ixN, h]
theorem at_nat {α : Type} {xs : List α} {k : Nat} (h : k < xs.length) : atI xs (k : Int) = xs[k]? := by
  have h1 : (0 : Int) ≤ (k : Int) := by omega
  have h2 : (k : Int) < (xs.length : Int) := by omega
  simp only [atI, ixN, if_pos h1, if_pos h2, Option.bind_some, Int.toNat_natCast]
theorem r_at2 {α : Type} {a b c : α} {xs : List α} : atI (a :: b :: c :: xs) 2 = some c := at_nat (k := 2) (by simp)
theorem r_at3 {α : Type} {a b c d : α} {xs : List α} : atI (a :: b :: c :: d :: xs) 3 = some d := at_nat (k := 3) (by simp)
theorem r_at4 {α : Type} {a b c d e : α} {xs : List α} : atI (a :: b :: c :: d :: e :: xs) 4 = some e := at_nat (k := 4) (by simp)
theorem r_at5 {α : Type} {a b c d e f : α} {xs : List α} : atI (a :: b :: c :: d :: e :: f :: xs) 5 = some f := at_nat (k := 5) (by simp)
theorem r_at6 {α : Type} {a b c d e f g : α} {xs : List α} : atI (a :: b :: c :: d :: e :: f :: g :: xs) 6 = some g := at_nat (k := 6) (by simp)
theorem r_ixn0 : ixN 5 0 = some 0 := rfl
theorem r_ixn1 : ixN 5 1 = some 1 := rfl
theorem r_ixn2 : ixN 5 2 = some 2 := rfl
theorem r_ixn3 : ixN 5 3 = some 3 := rfl
theorem r_ixn4 : ixN 5 4 = some 4 := rfl
/-! calls -/
theorem r_call {sp : ASp} {dd : List D} {aa : AA} : aCall sp dd aa EA ρ Q = aa EA ρ (fun xs ρ1 => callA sp (xs ++ dd.map A.v) EA ρ1 Q) := rfl
theorem r_callA {sp : ASp} {xs : List A} : callA sp xs EA ρ Q = ∃ ys ρ', pass xs ρ = some (ys, ρ') ∧ sp.pre ys ∧ (∀ r xs', sp.post ys r xs' → xs'.length = ys.length → Q r (give xs xs' ρ')) ∧ ∀ C fs xs', sp.exc ys C fs xs' → xs'.length = ys.length → EA C fs (give xs xs' ρ') := rfl
end
/-! ### introduction, one step each -/
section
variable {EA : AX} {ρ : AEnv} {Q : AK} {DA : AEnds} {QB : Bool → AEnv → Prop} {QL : List A → AEnv → Prop} {x y : A} {d e z : D}
theorem i_seq {a b : AS} (k : a { DA with nx := b DA } ρ) : asSeq a b DA ρ := k
theorem i_next (k : DA.nx ρ) : asNext DA ρ := k
theorem i_expr {ae : AE} (k : ae DA.ex ρ fun _ ρ' => DA.nx ρ') : asExpr ae DA ρ := k
theorem i_ret {ae : AE} (k : ae DA.ex ρ fun x ρ' => retA x ρ' DA.rt) : asRet ae DA ρ := k
theorem i_retN (k : DA.rt (.v .non) ρ) : asRetN DA ρ := k
theorem i_if {t : AT} {a b : AS} (k : t DA.ex ρ fun b' ρ' => if b' = true then a DA ρ' else b DA ρ') : asIf t a b DA ρ := k
theorem i_break (k : DA.bk ρ) : asBreak DA ρ := k
theorem i_cont (k : DA.ct ρ) : asCont DA ρ := k
theorem i_set {i : Nat} {ae : AE} (k : ae DA.ex ρ fun x ρ' => setA x ρ' i DA.nx) : asSet i ae DA ρ := k
theorem i_put {av ao ai : AE} (k : av DA.ex ρ fun x ρ1 => useA x ρ1 fun d ρ2 => ao DA.ex ρ2 fun o ρ3 => ai DA.ex ρ3 fun iv ρ4 => ∃ j y i y', o = .loc j ∧ ρ4[j]? = some (some y) ∧ dat iv ρ4 = some i ∧ putX y i d = some y' ∧ lenA y ≤ 100000 ∧ DA.nx (ρ4.set j (some y'))) : asPut av ao ai DA ρ := k
/-- the store itself -/
def storeK (o iv : A) (d : D) (ρ : AEnv) (nx : AEnv → Prop) : Prop := ∃ j y i y', o = .loc j ∧ ρ[j]? = some (some y) ∧ dat iv ρ = some i ∧ putX y i d = some y' ∧ lenA y ≤ 100000 ∧ nx (ρ.set j (some y'))
theorem i_putX {av ao ai : AE} (k : av DA.ex ρ fun x ρ1 => useA x ρ1 fun d ρ2 => ao DA.ex ρ2 fun o ρ3 => ai DA.ex ρ3 fun iv ρ4 => storeK o iv d ρ4 DA.nx) : asPut av ao ai DA ρ := k
theorem i_putK {j : Nat} {iv y y' : A} {i d : D} {nx : AEnv → Prop} (h1 : ρ[j]? = some (some y)) (h2 : dat iv ρ = some i) (h3 : putX y i d = some y') (h4 : lenA y ≤ 100000) (k : nx (ρ.set j (some y'))) : storeK (.loc j) iv d ρ nx := ⟨j, y, i, y', rfl, h1, h2, h3, h4, k⟩
theorem i_for {ai : AI} {ag : AG} {ab : AS} (k : ai DA.ex ρ fun xs G ρ' => forA G ag ab DA xs ρ') : asFor ai ag ab DA ρ := k
theorem i_retv {rt : A → AEnv → Prop} (k : rt (.v d) ρ) : retA (.v d) ρ rt := k
theorem i_retl {xs : List D} {rt : A → AEnv → Prop} (k : rt (.lst xs) ρ) : retA (.lst xs) ρ rt := k
theorem i_retd {xs : List (Key × D)} {rt : A → AEnv → Prop} (k : rt (.dic xs) ρ) : retA (.dic xs) ρ rt := k
theorem i_reto {C : Addr} {xs : List (Str × A)} {rt : A → AEnv → Prop} (k : rt (.obj C xs) ρ) : retA (.obj C xs) ρ rt := k
theorem i_reti {i : Nat} {rt : A → AEnv → Prop} (h : ρ[i]? = some (some y)) (k : rt y (ρ.set i none)) : retA (.loc i) ρ rt := ⟨y, h, k⟩
theorem i_setv {i : Nat} {nx : AEnv → Prop} (k : nx (ρ.set i (some (.v d)))) : setA (.v d) ρ i nx := k
theorem i_setl {d : List D} {i : Nat} {nx : AEnv → Prop} (k : nx (ρ.set i (some (.lst d)))) : setA (.lst d) ρ i nx := k
theorem i_setd {d : List (Key × D)} {i : Nat} {nx : AEnv → Prop} (k : nx (ρ.set i (some (.dic d)))) : setA (.dic d) ρ i nx := k
theorem i_seto {C : Addr} {d : List (Str × A)} {i : Nat} {nx : AEnv → Prop} (k : nx (ρ.set i (some (.obj C d)))) : setA (.obj C d) ρ i nx := k
theorem i_seti {j i : Nat} {nx : AEnv → Prop} (h : ρ[j]? = some (some y)) (k : nx ((ρ.set j (some (.v y.toD))).set i (some (.v y.toD)))) : setA (.loc j) ρ i nx := ⟨y, h, k⟩
theorem i_usev {k : D → AEnv → Prop} (h : k d ρ) : useA (.v d) ρ k := h
theorem i_usel {xs : List D} {k : D → AEnv → Prop} (h : k (.lst xs) ρ) : useA (.lst xs) ρ k := h
theorem i_used {xs : List (Key × D)} {k : D → AEnv → Prop} (h : k (.dic xs) ρ) : useA (.dic xs) ρ k := h
theorem i_useo {C : Addr} {xs : List (Str × A)} {k : D → AEnv → Prop} (h : k (.obj C (A.toDs xs)) ρ) : useA (.obj C xs) ρ k := h
theorem i_usei {i : Nat} {k : D → AEnv → Prop} (h : ρ[i]? = some (some y)) (hk : k y.toD (ρ.set i (some (.v y.toD)))) : useA (.loc i) ρ k := ⟨y, h, hk⟩
theorem i_useil {i : Nat} {xs : List D} {k : D → AEnv → Prop} (h : ρ[i]? = some (some (.lst xs))) (hk : k (.lst xs) (ρ.set i (some (.v (.lst xs))))) : useA (.loc i) ρ k := ⟨_, h, hk⟩
theorem i_useid {i : Nat} {xs : List (Key × D)} {k : D → AEnv → Prop} (h : ρ[i]? = some (some (.dic xs))) (hk : k (.dic xs) (ρ.set i (some (.v (.dic xs))))) : useA (.loc i) ρ k := ⟨_, h, hk⟩
theorem i_useiv {i : Nat} {k : D → AEnv → Prop} (h : ρ[i]? = some (some (.v d))) (hk : k d (ρ.set i (some (.v d)))) : useA (.loc i) ρ k := ⟨_, h, hk⟩
theorem i_uses0 {k : List D → AEnv → Prop} (h : k [] ρ) : usesA [] ρ k := h
theorem i_uses1 {xs : List A} {k : List D → AEnv → Prop} (h : useA x ρ fun d ρ' => usesA xs ρ' fun ds ρ'' => k (d :: ds) ρ'') : usesA (x :: xs) ρ k := h
theorem i_c (k : Q (.v d) ρ) : aC d EA ρ Q := k
theorem i_val {i : Nat} (h : ρ[i]? = some (some (.v d))) (k : Q (.v d) ρ) : aVal i EA ρ Q := ⟨d, h, k⟩
theorem i_ref {i : Nat} (h : ρ[i]? = some (some y)) (k : Q (.loc i) ρ) : aRef i EA ρ Q := ⟨⟨y, h⟩, k⟩
theorem i_op {ra : AR2} {aa ab : AE} (k : aa EA ρ fun x ρ1 => ab EA ρ1 fun y ρ2 => ra x y ρ2 Q) : aOp ra aa ab EA ρ Q := k
theorem i_un {ra : AR1} {aa : AE} (k : aa EA ρ fun x ρ1 => ra x ρ1 Q) : aUn ra aa EA ρ Q := k
/-- a truth value -/
def isB (x : A) (ρ : AEnv) (k : Bool → Prop) : Prop := ∃ b, dat x ρ = some (.bl b) ∧ k b
theorem i_isB {b : Bool} {k : Bool → Prop} (h : dat x ρ = some (.bl b)) (hk : k b) : isB x ρ k := ⟨b, h, hk⟩
theorem i_test {ae : AE} (k : ae EA ρ fun x ρ1 => isB x ρ1 fun b => QB b ρ1) : aTest ae EA ρ QB := k
theorem i_tand {t u : AT} (k : t EA ρ fun b ρ1 => if b = true then u EA ρ1 QB else QB false ρ1) : atAnd t u EA ρ QB := k
theorem i_tor {t u : AT} (k : t EA ρ fun b ρ1 => if b = true then QB true ρ1 else u EA ρ1 QB) : atOr t u EA ρ QB := k
theorem i_tnot {t : AT} (k : t EA ρ fun b ρ1 => QB (!b) ρ1) : atNot t EA ρ QB := k
theorem i_and {t u : AE} (k : t EA ρ fun x ρ1 => isB x ρ1 fun b => if b = true then u EA ρ1 Q else Q (.v (.bl false)) ρ1) : aAnd t u EA ρ Q := k
theorem i_or {t u : AE} (k : t EA ρ fun x ρ1 => isB x ρ1 fun b => if b = true then Q (.v (.bl true)) ρ1 else u EA ρ1 Q) : aOr t u EA ρ Q := k
theorem i_not {t : AE} (k : t EA ρ fun x ρ1 => isB x ρ1 fun b => Q (.v (.bl (!b))) ρ1) : aNot t EA ρ Q := k
theorem i_ifx {t : AT} {a b : AE} (k : t EA ρ fun c ρ1 => if c = true then a EA ρ1 Q else b EA ρ1 Q) : aIf t a b EA ρ Q := k
def chnK (ra rb : AR2) (ac : AE) (EA : AX) (Q : AK) (x y : A) (ρ : AEnv) : Prop := ∃ dy, y = .v dy ∧ ra x y ρ fun z ρ3 => isB z ρ3 fun b => if b = true then ac EA ρ3 fun w ρ4 => rb (.v dy) w ρ4 Q else Q (.v (.bl false)) ρ3
theorem i_chain {ra rb : AR2} {aa ab ac : AE} (k : aa EA ρ fun x ρ1 => ab EA ρ1 fun y ρ2 => chnK ra rb ac EA Q x y ρ2) : aChain ra rb aa ab ac EA ρ Q := k
theorem i_chnK {ra rb : AR2} {ac : AE} (k : ra x (.v d) ρ fun z ρ3 => isB z ρ3 fun b => if b = true then ac EA ρ3 fun w ρ4 => rb (.v d) w ρ4 Q else Q (.v (.bl false)) ρ3) : chnK ra rb ac EA Q x (.v d) ρ := ⟨d, rfl, k⟩
theorem i_nil (k : QL [] ρ) : aNil EA ρ QL := k
theorem i_cons {ae : AE} {aa : AA} (k : ae EA ρ fun x ρ1 => aa EA ρ1 fun xs ρ2 => QL (x :: xs) ρ2) : aCons ae aa EA ρ QL := k
theorem i_tup {aa : AA} (k : aa EA ρ fun xs ρ1 => xs.length ≤ 1000 ∧ usesA xs ρ1 fun ds ρ2 => Q (.v (.tup ds)) ρ2) : aTup aa EA ρ Q := k
theorem i_lst {aa : AA} (k : aa EA ρ fun xs ρ1 => xs.length ≤ 1000 ∧ usesA xs ρ1 fun ds ρ2 => Q (.lst ds) ρ2) : aLst aa EA ρ Q := k
theorem i_sz {xs : List A} {p : Prop} (h : xs.length ≤ 1000) (k : p) : xs.length ≤ 1000 ∧ p := ⟨h, k⟩
theorem i_dict0 (k : Q (.dic []) ρ) : aDict0 EA ρ Q := k
theorem i_cb {ra : ARs} {aa : AA} (k : aa EA ρ fun xs ρ1 => ra xs ρ1 Q) : aCB ra aa EA ρ Q := k
theorem i_frz {ae : AE} (k : ae EA ρ fun x ρ1 => useA x ρ1 fun d ρ2 => Q (.v d) ρ2) : aFrz ae EA ρ Q := k
theorem i_ix {i : D} (h1 : dat x ρ = some d) (h2 : dat y ρ = some i) (h3 : itD d i = some z) (k : Q (.v z) ρ) : aIx x y ρ Q := ⟨d, i, z, h1, h2, h3, k⟩
theorem i_plus (h1 : dat x ρ = some d) (h2 : dat y ρ = some e) (k : addA d e fun z => Q z ρ) : aPlus x y ρ Q := ⟨d, e, h1, h2, k⟩
theorem i_addi {i j : Int} {q : A → Prop} (k : q (.v (.int (i + j)))) : addA (.int i) (.int j) q := k
theorem i_adds {i j : Str} {q : A → Prop} (h : i.length + j.length ≤ 100000) (k : q (.v (.str (i ++ j)))) : addA (.str i) (.str j) q := ⟨h, k⟩
theorem i_addt {i j : List D} {q : A → Prop} (h : i.length + j.length ≤ 100000) (k : q (.v (.tup (i ++ j)))) : addA (.tup i) (.tup j) q := ⟨h, k⟩
theorem i_addl {i j : List D} {q : A → Prop} (h : i.length + j.length ≤ 100000) (k : q (.lst (i ++ j))) : addA (.lst i) (.lst j) q := ⟨h, k⟩
variable {i j : Int}
theorem i_sub (h1 : dat x ρ = some (.int i)) (h2 : dat y ρ = some (.int j)) (k : Q (.v (.int (i - j))) ρ) : aSub x y ρ Q := ⟨i, j, h1, h2, k⟩
theorem i_lt (h1 : dat x ρ = some (.int i)) (h2 : dat y ρ = some (.int j)) (k : Q (.v (.bl (decide (i < j)))) ρ) : aLt x y ρ Q := ⟨i, j, h1, h2, k⟩
theorem i_le (h1 : dat x ρ = some (.int i)) (h2 : dat y ρ = some (.int j)) (k : Q (.v (.bl (decide (i ≤ j)))) ρ) : aLe x y ρ Q := ⟨i, j, h1, h2, k⟩
theorem i_gt (h1 : dat x ρ = some (.int i)) (h2 : dat y ρ = some (.int j)) (k : Q (.v (.bl (decide (j < i)))) ρ) : aGt x y ρ Q := ⟨i, j, h1, h2, k⟩
theorem i_ge (h1 : dat x ρ = some (.int i)) (h2 : dat y ρ = some (.int j)) (k : Q (.v (.bl (decide (j ≤ i)))) ρ) : aGe x y ρ Q := ⟨i, j, h1, h2, k⟩
theorem i_mul (h1 : dat x ρ = some (.int i)) (h2 : dat y ρ = some (.int j)) (hc : CMul i j) (k : Q (.v (.int (i * j))) ρ) : aMul x y ρ Q := ⟨i, j, h1, h2, hc, k⟩
theorem i_mod (h1 : dat x ρ = some (.int i)) (h2 : dat y ρ = some (.int j)) (hc : 0 < j) (k : Q (.v (.int (i % j))) ρ) : aMod x y ρ Q := ⟨i, j, h1, h2, hc, k⟩
theorem i_pow (h1 : dat x ρ = some (.int i)) (h2 : dat y ρ = some (.int j)) (hc : CPow i j) (k : Q (.v (.int (i ^ j.toNat))) ρ) : aPow x y ρ Q := ⟨i, j, h1, h2, hc, k⟩
theorem i_div (h1 : dat x ρ = some (.int i)) (h2 : dat y ρ = some (.int j)) (hc : CDivW i j) (k : Q (.v (.int (i / j))) ρ) : aDivW x y ρ Q := ⟨i, j, h1, h2, hc, k⟩
theorem i_neg (h1 : dat x ρ = some (.int i)) (k : Q (.v (.int (-i))) ρ) : aNeg x ρ Q := ⟨i, h1, k⟩
theorem i_eq (h1 : dat x ρ = some d) (h2 : dat y ρ = some e) (p1 : PlD 20 d) (p2 : PlD 20 e) (k : Q (.v (.bl (deq d e))) ρ) : aEq x y ρ Q := ⟨d, e, h1, h2, p1, p2, k⟩
theorem i_ne (h1 : dat x ρ = some d) (h2 : dat y ρ = some e) (p1 : PlD 20 d) (p2 : PlD 20 e) (k : Q (.v (.bl (!deq d e))) ρ) : aNe x y ρ Q := ⟨d, e, h1, h2, p1, p2, k⟩
theorem i_is (h1 : dat x ρ = some d) (h2 : dat y ρ = some .non) (k : Q (.v (.bl (isNon d))) ρ) : aIs x y ρ Q := ⟨d, h1, h2, k⟩
theorem i_isnot (h1 : dat x ρ = some d) (h2 : dat y ρ = some .non) (k : Q (.v (.bl (!isNon d))) ρ) : aIsNot x y ρ Q := ⟨d, h1, h2, k⟩
theorem i_in {b : Bool} (h1 : dat x ρ = some d) (h2 : dat y ρ = some e) (h : InD d e b) (k : Q (.v (.bl b)) ρ) : aIn false x y ρ Q := ⟨d, e, b, h1, h2, h, k⟩
theorem i_notin {b : Bool} (h1 : dat x ρ = some d) (h2 : dat y ρ = some e) (h : InD d e b) (k : Q (.v (.bl (!b))) ρ) : aIn true x y ρ Q := ⟨d, e, b, h1, h2, h, k⟩
theorem i_len {n : Nat} (h1 : dat x ρ = some d) (h2 : lenD d = some n) (k : Q (.v (.int n)) ρ) : aLen [x] ρ Q := ⟨x, d, n, rfl, h1, h2, k⟩
theorem i_int (h1 : dat x ρ = some (.int i)) (k : Q (.v (.int i)) ρ) : aInt [x] ρ Q := ⟨x, rfl, .inl ⟨i, h1, k⟩⟩
theorem i_list {ys : List D} (h1 : dat x ρ = some d) (h2 : itemsD d = some ys) (k : Q (.lst ys) ρ) : aList [x] ρ Q := ⟨x, d, ys, rfl, h1, h2, k⟩
theorem i_max (h1 : dat x ρ = some (.int i)) (h2 : dat y ρ = some (.int j)) (k : Q (.v (.int (if j > i then j else i))) ρ) : aMax2 [x, y] ρ Q := ⟨x, y, i, j, rfl, h1, h2, k⟩
theorem i_min (h1 : dat x ρ = some (.int i)) (h2 : dat y ρ = some (.int j)) (k : Q (.v (.int (if j < i then j else i))) ρ) : aMin2 [x, y] ρ Q := ⟨x, y, i, j, rfl, h1, h2, k⟩
theorem i_tuplel {ys : List D} (h1 : dat x ρ = some (.lst ys)) (k : Q (.v (.tup ys)) ρ) : aTuple [x] ρ Q := ⟨x, _, ys, rfl, h1, .inl rfl, k⟩
theorem i_tuplet {ys : List D} (h1 : dat x ρ = some (.tup ys)) (k : Q (.v (.tup ys)) ρ) : aTuple [x] ρ Q := ⟨x, _, ys, rfl, h1, .inr rfl, k⟩
theorem i_all {bs : List Bool} (h1 : dat x ρ = some (.lst (bs.map D.bl))) (k : Q (.v (.bl (bs.all id))) ρ) : aAll [x] ρ Q := ⟨x, bs, rfl, h1, k⟩
def appK (o : A) (d : D) (ρ : AEnv) (Q : AK) : Prop := ∃ j xs, o = .loc j ∧ ρ[j]? = some (some (.lst xs)) ∧ xs.length ≤ 100000 ∧ Q (.v .non) (ρ.set j (some (.lst (xs ++ [d]))))
def isL (o : A) (ρ : AEnv) (p : Prop) : Prop := (∃ xs, dat o ρ = some (.lst xs)) ∧ p
theorem i_isL {xs : List D} {p : Prop} (h : dat x ρ = some (.lst xs)) (k : p) : isL x ρ p := ⟨⟨xs, h⟩, k⟩
theorem i_append {ao ae : AE} (k : ao EA ρ fun o ρ1 => isL o ρ1 (ae EA ρ1 fun x ρ2 => useA x ρ2 fun d ρ3 => appK o d ρ3 Q)) : aAppend ao ae EA ρ Q := k
theorem i_appK {j : Nat} {xs : List D} (h1 : ρ[j]? = some (some (.lst xs))) (h2 : xs.length ≤ 100000) (k : Q (.v .non) (ρ.set j (some (.lst (xs ++ [d]))))) : appK (.loc j) d ρ Q := ⟨j, xs, rfl, h1, h2, k⟩
theorem i_call {sp : ASp} {dd : List D} {aa : AA} (k : aa EA ρ fun xs ρ1 => callA sp (xs ++ dd.map A.v) EA ρ1 Q) : aCall sp dd aa EA ρ Q := k
theorem i_callA {sp : ASp} {xs ys : List A} {ρ' : AEnv} (h : pass xs ρ = some (ys, ρ')) (hp : sp.pre ys) (hq : ∀ r ys', sp.post ys r ys' → ys'.length = ys.length → Q r (give xs ys' ρ')) (hx : ∀ C fs ys', sp.exc ys C fs ys' → ys'.length = ys.length → EA C fs (give xs ys' ρ')) : callA sp xs EA ρ Q := ⟨ys, ρ', h, hp, hq, hx⟩
theorem i_ite {c : Prop} [Decidable c] {p q : Prop} (h1 : c → p) (h2 : ¬c → q) : if c then p else q := by
  split
  · exact h1 ‹_›
  · exact h2 ‹_›
/-- a cut -/
theorem i_cut {a b : AS} (M : AEnv → Prop) (h1 : a { DA with nx := M } ρ) (h2 : ∀ ρ, M ρ → b DA ρ) (mono : (∀ ρ, M ρ → b DA ρ) → a { DA with nx := M } ρ → a { DA with nx := b DA } ρ) : asSeq a b DA ρ := mono h2 h1
end
section
variable {ρ : AEnv} {i : Nat}
theorem datV {d : D} : dat (.v d) ρ = some d := rfl
theorem datL {d : List D} : dat (.lst d) ρ = some (.lst d) := rfl
theorem datD {d : List (Key × D)} : dat (.dic d) ρ = some (.dic d) := rfl
theorem datO {C : Addr} {d : List (Str × A)} : dat (.obj C d) ρ = some (.obj C (A.toDs d)) := rfl
theorem datI {y : A} (h : ρ[i]? = some (some y)) : dat (.loc i) ρ = some y.toD := by
  unfold dat
  simp only [h]
theorem datIv {d : D} (h : ρ[i]? = some (some (.v d))) : dat (.loc i) ρ = some d := datI h
theorem datIl {d : List D} (h : ρ[i]? = some (some (.lst d))) : dat (.loc i) ρ = some (.lst d) := datI h
theorem datId {d : List (Key × D)} (h : ρ[i]? = some (some (.dic d))) : dat (.loc i) ρ = some (.dic d) := datI h
theorem datIo {C : Addr} {d : List (Str × A)} (h : ρ[i]? = some (some (.obj C d))) : dat (.loc i) ρ = some (.obj C (A.toDs d)) := datI h
end
section
theorem pl_int {n : Nat} {i : Int} : PlD (n + 1) (.int i) := by simp only [PlD]
theorem pl_str {n : Nat} {i : Str} : PlD (n + 1) (.str i) := by simp only [PlD]
theorem pl_bl {n : Nat} {i : Bool} : PlD (n + 1) (.bl i) := by simp only [PlD]
theorem pl_non {n : Nat} : PlD (n + 1) .non := by simp only [PlD]
theorem lenA_l {xs : List D} : lenA (.lst xs) ≤ 100000 := Nat.zero_le _
theorem i_itet {p q : Prop} (k : p) : if true = true then p else q := by rw [if_pos rfl]; exact k
theorem i_itef {p q : Prop} (k : q) : if false = true then p else q := by rw [if_neg Bool.false_ne_true]; exact k
theorem deq_int {i j : Int} : deq (.int i) (.int j) = decide (i = j) := by
  simp only [deq]
  rw [Bool.eq_iff_iff]
  simp
theorem deq_str {i j : Str} : deq (.str i) (.str j) = decide (i = j) := by
  simp only [deq]
  rw [Bool.eq_iff_iff]
  simp
end
end Vs

set_option Elab.async false
set_option linter.all false
set_option maxRecDepth 100000
set_option maxHeartbeats 1000000
/-! Vs: fields, isinstance, raise, try. -/
namespace Vs
open PySem PySem.Spec PyProof.Rows L2
/-! ### fields -/
def lkA (x : A) (ρ : AEnv) : Option A := match x with
  | .loc i => (match ρ[i]? with
    | some (some y) => some y
    | _ => none)
  | y => some y
def fldA (y : A) (C : Addr) (f : Str) : Option D := match y with
  | .v (.obj C' fs) => if C' = C then fs.lookup f else none
  | .obj C' fs => if C' = C then (match fs.lookup f with
    | some (.v d) => some d
    | _ => none) else none
  | _ => none
section
variable {X : Cx} {P : Pm} {K : Fg} {c : Ctx} {S H : Hp} {σ : L2.St} {ρ : AEnv} {τ : List (V × A)} {v : V} {x : A} {pos : Pos}
theorem Stt.held2 {y : A} (s : Stt K c S H σ ρ τ) (m : (v, x) ∈ τ) (h : lkA x ρ = some y) : ∃ g, RepA K S H y v g := by
  cases hx : isLoc x with
  | false =>
    have e : y = x := by
      cases x <;> first | (simp only [lkA] at h; exact (Option.some.inj h).symm) | cases hx
    subst e
    obtain ⟨fp, h1, _, _⟩ := s.own
    obtain ⟨g, a1, _⟩ := RepP.pick h1 (v := v) (x := y) (List.mem_append_right _ (by
      have : ∀ {τ : List (V × A)}, (v, y) ∈ τ → (v, y) ∈ tmpP τ := fun {τ} m => List.mem_filter.mpr ⟨m, by
        cases y <;> first | rfl | cases hx⟩
      exact this m))
    exact ⟨g, a1⟩
  | true =>
    cases x with
    | loc i =>
      obtain ⟨hv, z, hz⟩ := s.loc v i m
      simp only [lkA, hz] at h
      have e := Option.some.inj h
      subst e
      exact s.slotA hz hv
    | _ => cases hx
theorem fld_rep {y : A} {C : Addr} {f : Str} {d : D} {g : List Addr} (hl : Le S H) (r : RepA K S H y v g) (h : fldA y C f = some d) : ∃ a dx ws u, v = .ref a ∧ H a = some (.ins C dx ws) ∧ ws.lookup f = some u ∧ Rep K S d u := by
  cases y with
  | v e =>
    cases e with
    | obj C' fs =>
      simp only [fldA] at h
      split at h
      · rename_i hc
        subst hc
        simp only [RepA, Rep] at r
        obtain ⟨⟨a, dx, ws, rfl, h1, h2⟩, _⟩ := r
        rcases repF_look (m := f) h2 with ⟨e1, _⟩ | ⟨d', u, e1, e2, e3⟩
        · rw [e1] at h; cases h
        · rw [h] at e1; cases e1
          exact ⟨a, dx, ws, u, rfl, ins_le hl h1, e2, e3⟩
      · cases h
    | _ => cases h
  | obj C' fs =>
    simp only [fldA] at h
    split at h
    · rename_i hc
      subst hc
      simp only [RepA] at r
      obtain ⟨a, dx, ws, g', rfl, h1, h2, _⟩ := r
      have look : ∀ {fs : List (Str × A)} {ws : List (Str × V)} {g : List Addr}, RepAF K S H fs ws g → fs.lookup f = some (.v d) → ∃ u, ws.lookup f = some u ∧ Rep K S d u := by
        intro fs
        induction fs with
        | nil => intro ws g _ e; simp at e
        | cons p r ih =>
          obtain ⟨k, x⟩ := p
          intro ws g h e
          simp only [RepAF] at h
          obtain ⟨u, r', g1, g2, rfl, h1, h2, _⟩ := h
          by_cases hk : f = k
          · subst hk
            have e' : x = .v d := by simpa [List.lookup] using e
            subst e'
            simp only [RepA] at h1
            exact ⟨u, by simp [List.lookup], h1.1⟩
          · have q : (f == k) = false := by simpa using hk
            obtain ⟨u', a1, a2⟩ := ih h2 (by simpa [List.lookup, q] using e)
            exact ⟨u', by simpa [List.lookup, q] using a1, a2⟩
      cases e : fs.lookup f with
      | none => rw [e] at h; cases h
      | some z =>
        rw [e] at h
        cases z with
        | v d' =>
          have e2 : d' = d := by simpa using h
          subst e2
          obtain ⟨u, a1, a2⟩ := look h2 e
          exact ⟨a, dx, ws, u, rfl, h1, a1, a2⟩
        | _ => cases h
    · cases h
  | _ => cases h
def aFld (C : Addr) (f : Str) : AR1 := fun x ρ Q => ∃ y d, lkA x ρ = some y ∧ fldA y C f = some d ∧ Q (.v d) ρ
theorem qe_fld {e : Expr} {C : Addr} {f : Str} {ae : AE} (hc : Cls X.K C) (hn : NoAttr X.K C f) (he : QE X P e ae) (hb : attributeBase e f X.env (eval e X.env) = eval e X.env := by rfl) : QE X P (.Attribute e f pos) (aUn (aFld C f) ae) := by
  obtain ⟨t, p, s⟩ := he.ex
  refine ⟨_, pe_fld p hb, fun c EA ho hw τ S H σ ρ Q R st q k => s c EA ho hw τ S H σ ρ _ _ st q fun v H1 ⟨S1, ρ1, x, s1, y, d, h1, h2, q1⟩ => ?_⟩
  obtain ⟨g, r⟩ := s1.held2 (List.mem_cons_self ..) h1
  obtain ⟨a, dx, ws, u, rfl, e1, e2, e3⟩ := fld_rep s1.le r h2
  exact ⟨a, C, dx, ws, u, rfl, e1, hc, hn, e2, k _ _ ⟨S1, ρ1, .v d, s1.drop.hold e3, q1⟩⟩
/-- self.f = e, self an owned instance in a slot -/
def putFA (f : Str) (d : D) : List (Str × A) → List (Str × A)
  | [] => [(f, .v d)]
  | (g, x) :: r => if g = f then (g, .v d) :: r else (g, x) :: putFA f d r
def asFld (C : Addr) (f : Str) (av ao : AE) : AS := fun DA ρ => av DA.ex ρ fun x ρ1 => useA x ρ1 fun d ρ2 => ao DA.ex ρ2 fun o ρ3 => ∃ j fs, o = .loc j ∧ ρ3[j]? = some (some (.obj C fs)) ∧ (∀ p ∈ fs, ∃ d, p.2 = .v d) ∧ fs.length ≤ 100 ∧ DA.nx (ρ3.set j (some (.obj C (putFA f d fs))))
theorem repAF_v : ∀ {fs : List (Str × A)} {ws : List (Str × V)} {g : List Addr}, (∀ p ∈ fs, ∃ d, p.2 = A.v d) → RepAF K S H fs ws g → g = [] ∧ ws.length = fs.length
  | [], ws, g, _, h => by
    simp only [RepAF] at h
    exact ⟨h.2, by rw [h.1]; rfl⟩
  | (k, x) :: r, ws, g, hv, h => by
    simp only [RepAF] at h
    obtain ⟨u, r', g1, g2, rfl, h1, h2, rfl⟩ := h
    obtain ⟨d, e⟩ := hv (k, x) (by simp)
    have e' : x = .v d := e
    subst e'
    simp only [RepA] at h1
    obtain ⟨e1, e2⟩ := repAF_v (fun p hp => hv p (by simp [hp])) h2
    exact ⟨by rw [h1.2, e1]; rfl, by simp [e2]⟩
theorem repAF_put {H' : Hp} {f : Str} {d : D} {u : V} (hd : Rep K S d u) : ∀ {fs : List (Str × A)} {ws : List (Str × V)} {g : List Addr}, (∀ p ∈ fs, ∃ d, p.2 = A.v d) → RepAF K S H fs ws g → RepAF K S H' (putFA f d fs) (putF f u ws) []
  | [], ws, g, _, h => by
    simp only [RepAF] at h
    obtain ⟨rfl, _⟩ := h
    simp only [putFA, putF, RepAF]
    exact ⟨u, [], [], [], rfl, RepA.ofv hd, ⟨rfl, rfl⟩, rfl⟩
  | (k, x) :: r, ws, g, hv, h => by
    simp only [RepAF] at h
    obtain ⟨w, r', g1, g2, rfl, h1, h2, rfl⟩ := h
    obtain ⟨d', e⟩ := hv (k, x) (by simp)
    have e' : x = .v d' := e
    subst e'
    simp only [RepA] at h1
    have same : ∀ {fs : List (Str × A)} {ws : List (Str × V)} {g : List Addr}, (∀ p ∈ fs, ∃ d, p.2 = A.v d) → RepAF K S H fs ws g → RepAF K S H' fs ws [] := by
      intro fs
      induction fs with
      | nil => intro ws g _ h; simp only [RepAF] at h ⊢; exact ⟨h.1, trivial⟩
      | cons p r ih =>
        obtain ⟨k2, x2⟩ := p
        intro ws g hv h
        simp only [RepAF] at h ⊢
        obtain ⟨u2, r2, g3, g4, rfl, a1, a2, rfl⟩ := h
        obtain ⟨d2, e2⟩ := hv (k2, x2) (by simp)
        have e3 : x2 = .v d2 := e2
        subst e3
        simp only [RepA] at a1
        exact ⟨u2, r2, [], [], rfl, RepA.ofv a1.1, ih (fun p hp => hv p (by simp [hp])) a2, rfl⟩
    simp only [putFA, putF]
    by_cases hk : k = f
    · rw [if_pos hk, if_pos hk]
      simp only [RepAF]
      exact ⟨u, r', [], [], rfl, RepA.ofv hd, same (fun p hp => hv p (by simp [hp])) h2, rfl⟩
    · rw [if_neg hk, if_neg hk]
      simp only [RepAF]
      exact ⟨w, _, [], [], rfl, RepA.ofv h1.1, repAF_put hd (fun p hp => hv p (by simp [hp])) h2, rfl⟩
theorem qs_fld {o e : Expr} {C : Addr} {f : Str} {av ao : AE} {pos' : Pos} (hc : Cls X.K C) (hn : NoAttr X.K C f) (hv : QE X P e av) (ho' : QE X P o ao) (hs : swapsWith e (some (.Attribute o f pos')) pos.line X.env = pure false := by rfl) :
    QS X P (.Assign [.Attribute o f pos'] e pos) (asFld C f av ao) := by
  obtain ⟨tv, pv, sv⟩ := hv.ex
  obtain ⟨to, po, so⟩ := ho'.ex
  refine ⟨_, ps_fld po pv hs, fun c D DA ho hw l S H σ ρ st q => sv c DA.ex ho hw [] S H σ ρ _ _ st q fun v H1 ⟨S1, ρ1, y, s1, q1⟩ => ?_⟩
  obtain ⟨S2, d, ρ2, sm, s2, q2⟩ := use_sim s1 q1
  refine so c DA.ex ho hw _ S2 H1 σ ρ2 _ _ s2 q2 fun vo H2 ⟨S3, ρ3, xo, s3, j, fs, eo, hj, hall, hlen, q3⟩ => ?_
  subst eo
  have hvo : σ[j]? = some (some vo) := (s3.loc vo j (by simp)).1
  obtain ⟨g, ra⟩ := s3.slotA hj hvo
  have rd : Rep X.K S3 d v := s3.dataMem (by simp)
  simp only [RepA] at ra
  obtain ⟨a, dx, ws, g', rfl, h1, h2, rfl⟩ := ra
  obtain ⟨rfl, hl⟩ := repAF_v hall h2
  refine ⟨a, C, dx, ws, rfl, h1, hc, hn, by omega, ?_⟩
  have s5 := s3.write (o := .ins C dx (putF f v ws)) (y' := .obj C (putFA f d fs)) hj hvo (fun g' h => by
    simp only [RepA] at h
    obtain ⟨a', dx', ws', g2, e, h3, h4, e2⟩ := h
    cases e
    obtain ⟨rfl, _⟩ := repAF_v hall h4
    exact e2) rfl (by
      simp only [RepA]
      exact ⟨a, dx, _, [], rfl, upd_same, repAF_put rd hall h2, by first | rfl | trivial⟩)
  exact l.nx S3 _ σ _ s5.drop.drop q3
/-! ### isinstance -/
/-- what isinstance asks of an own class -/
structure ClsI (K : Fg) (C : Addr) : Prop where
  cl : Cls K C
  ha : PySem.W.findIn K (.ref C) "__class__" = some (some (.builtin "object.__class__"))
  hn : PySem.W.specialIn K (.builtin "object.__class__") "__get__" = some (some (.builtin "getset_descriptor.__get__"))
  htk : PySem.W.takesIn K (.builtin "object.__class__") = some true
  hm : PySem.W.mroIn K C (.type "object") = some true
def tyD : D → Option Value
  | .non => some (.type "NoneType")
  | .bl _ => some (.type "bool")
  | .int _ => some (.type "int")
  | .str _ => some (.type "str")
  | .ty _ => none
  | .lst _ => some (.type "list")
  | .tup _ => some (.type "tuple")
  | .dic _ => some (.type "dict")
  | .obj C _ => some (.ref C)
theorem ty_rep {d : D} {t : Value} (hC : ∀ C fs, d = .obj C fs → ClsI K C) (h : tyD d = some t) (r : Rep K H d v) : TyX K H v t := by
  cases d with
  | non => simp only [tyD] at h; cases h; simp only [Rep] at r; subst r; exact .base .non
  | bl b => simp only [tyD] at h; cases h; simp only [Rep] at r; subst r; exact .base (.bl b)
  | int b => simp only [tyD] at h; cases h; simp only [Rep] at r; subst r; exact .base (.int b)
  | str b => simp only [tyD] at h; cases h; simp only [Rep] at r; subst r; exact .base (.str b)
  | ty n => cases h
  | lst xs =>
    simp only [tyD] at h; cases h
    simp only [Rep] at r
    obtain ⟨a, vs, rfl, h1, _⟩ := r
    rcases h1 with h1 | ⟨o, its, n, hk, hc, _⟩
    · rcases h1 with h1 | ⟨o, h1⟩
      · exact .base (.lst h1)
      · exact .base (.frz h1)
    · exact .kList hk hc
  | tup xs =>
    simp only [tyD] at h; cases h
    simp only [Rep] at r
    obtain ⟨a, vs, rfl, h1, _⟩ := r
    rcases h1 with h1 | ⟨o, its, n, hk, hc, _⟩
    · rcases h1 with h1 | ⟨o, h1⟩
      · exact .base (.tup h1)
      · exact .fTuple h1
    · exact .kTuple hk hc
  | dic xs =>
    simp only [tyD] at h; cases h
    simp only [Rep] at r
    obtain ⟨a, vs, rfl, h1, _⟩ := r
    rcases h1 with h1 | ⟨o, h1⟩
    · exact .base (.dK h1)
    · exact .fDict h1
  | obj C fs =>
    simp only [tyD] at h; cases h
    simp only [Rep] at r
    obtain ⟨a, dx, vs, rfl, h1, _⟩ := r
    have c := hC C fs rfl
    exact .base (.ins h1 c.cl c.ha c.hn c.htk c.hm)
/-- isinstance(x, c): what the tables say -/
def isiR (K : Fg) (d : D) (us : List Value) (b : Bool) : Prop := ∃ t, tyD d = some t ∧ (∀ C fs, d = .obj C fs → ClsI K C) ∧ PySem.W.kitAny K t us = some b
def aIsi (K : Fg) (us : List Value) : AR1 := fun x ρ Q => ∃ d b, dat x ρ = some d ∧ isiR K d us b ∧ Q (.v (.bl b)) ρ
theorem kitAny_one {K : Fg} {t u : Value} {b : Bool} (h : PySem.W.kitAny K t [u] = some b) : PySem.W.kitOne K t u = some b := by
  unfold PySem.W.kitAny at h
  cases e : PySem.W.kitOne K t u with
  | none => rw [e] at h; cases h
  | some r =>
    rw [e] at h
    cases r with
    | true => exact h
    | false =>
      have h' : PySem.W.kitAny K t [] = some b := h
      exact h'
/-- a class by its name -/
structure QC (X : Cx) (e : Expr) (u : Value) : Prop where
  ex : ∃ v, PE X e (tC v) ∧ ClsV v u
theorem qc_ty {x : Str} {n : String} (hg : Gl X x) (hm : X.mg x = none) (hv : bootBuiltins x = some (.type n)) (hd : (x == ("__debug__" : Str)) = false := by decide) (hn : x ≠ "__name__" := by decide) : QC X (.Name x pos) (.type n) := ⟨.ty n, pe_bltn hg hm hv rfl hn hd, .ty n⟩
theorem qc_own {x : Str} {C : Addr} (hg : Gl X x) (hm : X.mg x = some (.ref C)) (hd : (x == ("__debug__" : Str)) = false := by decide) : QC X (.Name x pos) (.ref C) := ⟨.ref C, pe_glob hg hm rfl hd, .own C⟩
theorem qe_isi {e c : Expr} {u : Value} {ae : AE} {p : Pos} (hg : Gl X "isinstance") (hm : X.mg "isinstance" = none) (he : QE X P e ae) (hc : QC X c u) (hs : starEach [e, c] X.env = (false, eval e X.env) :: starEach [c] X.env := by rfl) (hs2 : starEach [c] X.env = (false, eval c X.env) :: starEach [] X.env := by rfl)
    (hpl : (backTo pos (starEach [c] X.env)).any (·.1) = false := by rfl) : QE X P (.Call (.Name "isinstance" p) [e, c] [] pos) (aUn (aIsi X.K [u]) ae) := by
  obtain ⟨t, pe, s⟩ := he.ex
  obtain ⟨v, pc, k⟩ := hc.ex
  refine ⟨_, pe_callB call_isi hg hm PyProof.Rows.boot_isinstance (pa_cons pe (pa_cons pc pa_nil hs2) hs) (by decide) (by decide) hs hpl, fun c EA ho hw τ S H σ ρ Q R st q kk => s c EA ho hw τ S H σ ρ _ _ st q fun vx H1 ⟨S1, ρ1, x, s1, d, b, h1, ⟨ty, h2, h3, h4⟩, q1⟩ => ?_⟩
  exact ⟨vx, v, ty, u, b, rfl, k, ty_rep h3 h2 (s1.dat (List.mem_cons_self ..) h1), kitAny_one h4, kk _ _ (KE.sc s1.drop rfl q1)⟩
theorem qe_isi2 {e c c2 : Expr} {u u2 : Value} {ae : AE} {p tp : Pos} {j : Nat} (hg : Gl X "isinstance") (hm : X.mg "isinstance" = none) (he : QE X P e ae) (hc : QC X c u) (hc2 : QC X c2 u2) (hs : starEach [e, .Tuple [c, c2] j tp] X.env = (false, eval e X.env) :: starEach [.Tuple [c, c2] j tp] X.env := by rfl) (hs2 : starEach [.Tuple [c, c2] j tp] X.env = (false, eval (.Tuple [c, c2] j tp) X.env) :: starEach [] X.env := by rfl)
    (hs3 : starEach [c, c2] X.env = (false, eval c X.env) :: starEach [c2] X.env := by rfl) (hs4 : starEach [c2] X.env = (false, eval c2 X.env) :: starEach [] X.env := by rfl)
    (hpl : (backTo pos (starEach [.Tuple [c, c2] j tp] X.env)).any (·.1) = false := by rfl) : QE X P (.Call (.Name "isinstance" p) [e, .Tuple [c, c2] j tp] [] pos) (aUn (aIsi X.K [u, u2]) ae) := by
  obtain ⟨t, pe, s⟩ := he.ex
  obtain ⟨v, pc, k⟩ := hc.ex
  obtain ⟨v2, pc2, k2⟩ := hc2.ex
  refine ⟨_, pe_callB call_isiT hg hm PyProof.Rows.boot_isinstance (pa_cons pe (pa_cons (pe_tup (pa_cons pc (pa_cons pc2 pa_nil hs4) hs3)) pa_nil hs2) hs) (by decide) (by decide) hs hpl, fun c EA ho hw τ S H σ ρ Q R st q kk => s c EA ho hw τ S H σ ρ _ _ st q fun vx H1 ⟨S1, ρ1, x, s1, d, b, h1, ⟨ty, h2, h3, h4⟩, q1⟩ => ?_⟩
  refine ⟨show 2 ≤ sizeLine by decide, fun tp hp => ?_⟩
  have s2 : Stt X.K c S1 (upd H1 tp (.tup [v, v2])) σ ρ1 ((vx, x) :: τ) := s1.beside hp
  exact ⟨vx, tp, [v, v2], ty, [u, u2], b, rfl, upd_same, .cons k (.cons k2 .nil), ty_rep h3 h2 (s2.dat (List.mem_cons_self ..) h1), h4, kk _ _ (KE.sc s2.drop rfl q1)⟩
/-! ### raise -/
/-- an own exception's __init__: self.f = x -/
def spOex (C : Addr) (f : Str) : Sp := fun vs H Q _ => ∃ a y, vs = [.ref a, y] ∧ H a = some (exo a C none) ∧ ∀ dx, H dx = none → dx ≠ a → Q .non (upd (upd H dx (exd dx [(f, y)])) a (exo a C (some dx)))
def asRaise (C : Addr) (f : Str) (ae : AE) : AS := fun DA ρ => ae DA.ex ρ fun x ρ1 => useA x ρ1 fun d ρ2 => DA.ex C [(f, d)] ρ2
/-- what a raise leans on -/
structure Rai (Pr : Program) (w : World) (K : Fg) (mg : Str → Option Value) (base : Heap) (x : Str) (C : Addr) (f : Str) (k : Nat) : Prop where
  ox : OexC K C
  gx : mg x = some (.ref C)
  ex : ∃ fI fd ps, PySem.W.findIn K (.ref C) "__init__" = some (some (.ref fI)) ∧ PySem.W.typeIn K (.ref fI) = some (.type "function") ∧ Binds K fd ps [] ∧ FnOk Pr w K mg base (L2.CX Pr w) k fI fd ps (spOex C f)
theorem pass_never {CX : CXT} {X : Cx} (h : ∀ st H s e s', ¬ CX st H s (fun _ _ _ => False) e s') : Passes CX X (fun _ _ _ => False) := fun pins σ H s e s' I c => (h _ _ _ _ _ c).elim
theorem upd_xd {H1 : Hp} {a dx C : Addr} {fs : List (Str × V)} (ha : H1 a = none) (hne : dx ≠ a) : upd (L2.del (upd (upd (upd H1 a (exo a C none)) dx (exd dx fs)) a (exo a C (some dx))) a) dx (.xd fs) = upd H1 dx (.xd fs) := by
  funext b
  by_cases h1 : b = dx
  · rw [h1, upd_same, upd_same]
  · rw [upd_ne h1, upd_ne h1]
    by_cases h2 : b = a
    · rw [h2, L2.del_same, ha]
    · rw [L2.del_ne h2, upd_ne h2, upd_ne h1, upd_ne h2]
theorem cx_false {Pr : Program} {w : World} : ∀ st H s e s', ¬ L2.CX Pr w st H s (fun _ _ _ => False) e s' := fun st H s e s' c => by
  unfold L2.CX at c
  first
    | exact c.elim
    | (obtain ⟨_, _, _, _, _, _, _, _, _, _, _, _, _, _, _, h⟩ := c; exact h)
    | (obtain ⟨_, _, _, _, _, _, _, _, _, _, _, _, _, _, h⟩ := c; exact h)
    | (obtain ⟨_, _, _, _, _, _, _, _, _, _, _, _, _, h⟩ := c; exact h)
    | (obtain ⟨_, _, _, _, _, _, _, _, _, _, _, _, h⟩ := c; exact h)
theorem qs_raise {x : Str} {C : Addr} {f : Str} {k : Nat} {e : Expr} {ae : AE} {p cpos : Pos} (R : Rai X.prog X.w X.K X.mg X.base x C f k) (hc : X.calm = true) (tk : Takes X P.W) (hr : Room (k + 1) X.A) (hg : Gl X x) (he : QE X P e ae) (hdb : (x == ("__debug__" : Str)) = false := by decide) (hs : starEach [e] X.env = (false, eval e X.env) :: starEach [] X.env := by rfl) (hpl : (backTo cpos (starEach [] X.env)).any (·.1) = false := by rfl) :
    QS X P (.Raise (some (.Call (.Name x p) [e] [] cpos)) none pos) (asRaise C f ae) := by
  obtain ⟨t, pe, s⟩ := he.ex
  obtain ⟨fI, fd, ps, h1, h2, h3, h4⟩ := R.ex
  refine ⟨_, ps_raise hc tk (pmk_oex R.ox h1 h2 h4 hr h3 .nil (pass_never cx_false) hg R.gx (pa_cons pe pa_nil hs) hdb hs hpl), fun c D DA ho hw l S H σ ρ st q => s c DA.ex ho hw [] S H σ ρ _ _ st q fun v H1 ⟨S1, ρ1, y, s1, q1⟩ => ?_⟩
  obtain ⟨S2, d, ρ2, sm, s2, q2⟩ := use_sim s1 q1
  have rd := s2.data
  refine ⟨by show 1 ≤ 1000; decide, fun a ha => ⟨a, v, rfl, upd_same, fun dx hdx hne => ⟨rfl, dx, [(f, v)], upd_same, by rw [upd_ne hne, upd_same], ?_, ?_⟩⟩⟩
  · rw [upd_ne hne] at hdx; exact hdx
  · rw [upd_xd ha hne]
    have hdx' : H1 dx = none := by rw [upd_ne hne] at hdx; exact hdx
    have s3 : Stt X.K c S2 (upd H1 dx (.xd [(f, v)])) σ ρ2 [] := s2.drop.beside hdx'
    refine hw S2 _ σ ρ2 C [(f, d)] (some dx) s3 (.inr ⟨dx, [(f, v)], rfl, upd_same, ?_⟩) q2
    simp only [RepF]
    exact ⟨v, [], rfl, rd, rfl⟩
end
end Vs

set_option Elab.async false
set_option linter.all false
set_option maxRecDepth 100000
set_option maxHeartbeats 1000000
/-! Vs: own exceptions: __init__, try .. except .. as. -/
namespace Vs
open PySem PySem.Spec PyProof.Rows L2
section
variable {Pr : Program} {w : World} {K : Fg} {mg : Str → Option Value} {base : Heap} {x qual : Str} {params : Arguments} {body : List Stmt} {scope : Scope} {f : Addr} {fd : FuncData}
theorem oex_fn {a b : Str} {C : Addr} {g : Str} (F : FunD K x qual params body scope [] [] f fd) (S : FnScope [a, b] [a, b] scope) (ox : OexC K C) (no : PySem.W.findIn K (.ref C) g = some none)
    (hb : ∀ (cdv : Value) (Ar : Around) (outer : List Env) (s : Shared) (H : Hp) (E : XK), PSs (cxOf (L2.CX Pr w) Pr w K mg base [a, b] qual scope f cdv Ar outer s H E) body (tOst K g (tVar 0) (tVar 1))) : FnOk Pr w K mg base (L2.CX Pr w) 1 f fd [a, b] (spOex C g) := by
  refine F.ok (k := 0) S (fun vs H Q E h => ?_) (fun cdv Ar outer s H vs Q E hr h => ⟨_, hb cdv Ar outer s H E, ?_⟩)
  · obtain ⟨a, y, rfl, _⟩ := h
    rfl
  · obtain ⟨a', y, rfl, ha, hq⟩ := h
    exact ⟨y, rfl, .ref a', rfl, a', C, rfl, ox, no, .inl ⟨ha, fun dx h1 h2 => hq dx h1 h2⟩⟩
end
section
variable {X : Cx} {P : Pm} {K : Fg} {pos : Pos}
/-! ### a canonical meaning -/
def canS (K : Fg) (P : Pm) (ab : AS) : TS := fun D σ H => ∃ c DA S ρ, OsIn K c P.O ∧ XOk K c P.W DA.ex ∧ Link K c D DA ∧ Stt K c S H σ ρ [] ∧ ab DA ρ
theorem PSs.imp {st : List Stmt} {t t' : TS} (h : PSs X st t) (hi : ∀ D σ H, t' D σ H → t D σ H) : PSs X st t' := ⟨fun pins s σ H D I h' => h.run pins s σ H D I (hi D σ H h')⟩
theorem can_of {st : List Stmt} {ab : AS} (h : QSs X P st ab) : PSs X st (canS X.K P ab) := by
  obtain ⟨t, p, s⟩ := h.ex
  exact PSs.imp p fun D σ H ⟨c, DA, S, ρ, h1, h2, h3, h4, h5⟩ => s c D DA h1 h2 h3 S H σ ρ h4 h5
/-! ### expressions of an except suite: i the name's slot, a the exception, dd its dict -/
def SimU (K : Fg) (i : Nat) (a dd : Addr) (te : TE) (u : List (Str × D) → Option D) : Prop := ∀ c τ S H σ ρ ws fs d (R : VK), Stt K c S H σ ρ τ → σ[i]? = some (some (.ref a)) → H dd = some (.xd ws) → RepF K S fs ws → u fs = some d →
  (∀ v H' S', Same S S' → Stt K c S' H' σ ρ ((v, .v d) :: τ) → H' dd = some (.xd ws) → R v H') → te σ H R
def SimUs (K : Fg) (i : Nat) (a dd : Addr) (ta : TA) (u : List (Str × D) → Option (List D)) : Prop := ∀ c τ S H σ ρ ws fs ds (R : List V → Hp → Prop), Stt K c S H σ ρ τ → σ[i]? = some (some (.ref a)) → H dd = some (.xd ws) → RepF K S fs ws → u fs = some ds →
  (∀ vs H' S', Same S S' → RepL K S' ds vs → Stt K c S' H' σ ρ τ → H' dd = some (.xd ws) → R vs H') → ta σ H R
structure QU (X : Cx) (i : Nat) (a dd : Addr) (e : Expr) (u : List (Str × D) → Option D) : Prop where
  ex : ∃ te, PE X e te ∧ SimU X.K i a dd te u
structure QUs (X : Cx) (i : Nat) (a dd : Addr) (e : List Expr) (u : List (Str × D) → Option (List D)) : Prop where
  ex : ∃ te, PA X e te ∧ SimUs X.K i a dd te u
variable {i : Nat} {a dd C : Addr} {e : Expr} {es : List Expr}
theorem simU_c {d : D} {v : V} (h : sc d = some v) : SimU K i a dd (tC v) (fun _ => some d) := fun c τ S H σ ρ ws fs d' R s h1 h2 h3 h4 k => by
  cases h4
  exact k _ _ S (Same.refl S) (s.hold (rep_sc h)) h2
theorem qu_str {x : Str} {j} : QU X i a dd (.Constant (.str x) j pos) (fun _ => some (.str x)) := ⟨_, pe_str, simU_c rfl⟩
theorem qu_int {x : Int} {j} : QU X i a dd (.Constant (.int x) j pos) (fun _ => some (.int x)) := ⟨_, pe_int, simU_c rfl⟩
theorem qu_bl {x : Bool} {j} : QU X i a dd (.Constant (.bool x) j pos) (fun _ => some (.bl x)) := ⟨_, pe_bl, simU_c rfl⟩
theorem qu_non {j} : QU X i a dd (.Constant .none j pos) (fun _ => some .non) := ⟨_, pe_non, simU_c rfl⟩
theorem qu_fld {f n : Str} {oe : Obj} {pn : List (Addr × Obj)} {np : Pos} (T : XfC X.K C) (hno : PySem.W.findIn X.K (.ref C) f = some none) (hz : Zc (.ref C) (some dd) oe) (hf : ∃ vs, oe.data = .fields vs) (hN : X.N[i]? = some n := by rfl) (hv : Vis X.env.scope n := by first | exact Or.inl rfl | exact Or.inr (Or.inl rfl) | exact Or.inr (Or.inr rfl)) (hd : (n == ("__debug__" : Str)) = false := by decide) (hcd : (n == ("__classdict__" : Str)) = false := by decide)
    (hb : attributeBase (.Name n np) f X.env (eval (.Name n np) X.env) = eval (.Name n np) X.env := by rfl) : QU (X.suite a ((a, oe) :: pn)) i a dd (.Attribute (.Name n np) f pos) (fun fs => fs.lookup f) := by
  refine ⟨_, pe_xf T hno hz hf (pe_var hN hv hd hcd) hb, fun c τ S H σ ρ ws fs d R s h1 h2 h3 h4 k => ⟨.ref a, h1, rfl, rfl, ?_⟩⟩
  rcases repF_look (m := f) h3 with ⟨e1, _⟩ | ⟨d', u, e1, e2, e3⟩
  · have h4' : fs.lookup f = some d := h4
    rw [e1] at h4'; cases h4'
  · have h4' : fs.lookup f = some d := h4
    rw [h4'] at e1
    cases e1
    exact ⟨dd, ws, u, rfl, h2, e2, k _ _ S (Same.refl S) (s.hold e3) h2⟩
theorem qus_nil : QUs X i a dd [] (fun _ => some []) := ⟨_, pa_nil, fun c τ S H σ ρ ws fs ds R s h1 h2 h3 h4 k => by
  cases h4
  exact k _ _ S (Same.refl S) (by simp only [RepL]) s h2⟩
def consU (u : List (Str × D) → Option D) (us : List (Str × D) → Option (List D)) (fs : List (Str × D)) : Option (List D) := match u fs, us fs with
  | some d, some ds => some (d :: ds)
  | _, _ => none
theorem qus_cons {u : List (Str × D) → Option D} {us : List (Str × D) → Option (List D)} (h1 : QU X i a dd e u) (h2 : QUs X i a dd es us) (hs : starEach (e :: es) X.env = (false, eval e X.env) :: starEach es X.env := by rfl) : QUs X i a dd (e :: es) (consU u us) := by
  obtain ⟨t, p, s⟩ := h1.ex
  obtain ⟨t2, p2, s2⟩ := h2.ex
  refine ⟨_, pa_cons p p2 hs, fun c τ S H σ ρ ws fs ds R st a1 a2 a3 a4 k => ?_⟩
  unfold consU at a4
  cases e1 : u fs with
  | none => rw [e1] at a4; cases a4
  | some d =>
    cases e2 : us fs with
    | none => rw [e1, e2] at a4; cases a4
    | some ds' =>
      rw [e1, e2] at a4
      cases a4
      refine s c τ S H σ ρ ws fs d _ st a1 a2 a3 e1 fun v H' S' sm st' h' => s2 c _ S' H' σ ρ ws fs ds' _ st' a1 h' (RepF.le (Le.of_same sm) _ _ a3) e2 fun vs H2 S2 sm2 rl st2 h2 => k _ _ S2 (sm.trans sm2) ?_ st2.drop h2
      simp only [RepL]
      exact ⟨v, vs, rfl, st2.data, rl⟩
def tupU (us : List (Str × D) → Option (List D)) (fs : List (Str × D)) : Option D := match us fs with
  | some ds => if ds.length ≤ 1000 then some (.tup ds) else none
  | none => none
theorem qu_tup {us : List (Str × D) → Option (List D)} {x1} (h : QUs X i a dd es us) : QU X i a dd (.Tuple es x1 pos) (tupU us) := by
  obtain ⟨t, p, s⟩ := h.ex
  refine ⟨_, pe_tup p, fun c τ S H σ ρ ws fs d R st a1 a2 a3 a4 k => ?_⟩
  unfold tupU at a4
  cases e1 : us fs with
  | none => rw [e1] at a4; cases a4
  | some ds =>
    rw [e1] at a4
    simp only at a4
    split at a4
    · rename_i hz
      cases a4
      refine s c τ S H σ ρ ws fs ds _ st a1 a2 a3 e1 fun vs H' S' sm rl st' h' => ⟨by rw [rl.len]; exact sz1000 hz, fun p hp => ?_⟩
      have f1 := (st'.fresh hp).1
      have ne : dd ≠ p := fun z => by rw [z, hp] at h'; cases h'
      refine k _ _ _ (sm.trans (Same.up f1)) (st'.share (o := .tup vs) hp ?_) (by rw [upd_ne ne]; exact h')
      simp only [Rep]
      exact ⟨p, vs, rfl, SqT.of upd_same, RepL.le (Le.of_same (Same.up f1)) ds vs rl⟩
    · cases a4
/-! ### try: body, except C as n: return e -/
def asTry (K : Fg) (C : Addr) (i : Nat) (ab : AS) (u : List (Str × D) → Option D) : AS := fun DA ρ => ab { DA with ex := fun C' fs ρ' => ∃ b, PySem.W.exmOne K (.ref C') (.ref C) = some b ∧ (b = true → C' = C ∧ fs ≠ [] ∧ i < ρ'.length ∧ ∃ d, u fs = some d ∧ DA.rt (.v d) (ρ'.set i none)) ∧ (b = false → DA.ex C' fs ρ') } ρ
theorem qs_try {x n : Str} {body : List Stmt} {ab : AS} {u : List (Str × D) → Option D} {np pos' rp : Pos} (hs : X.stack = X.env :: X.outer) (hf : X.env.frame = some X.env.locals) (hN : X.N.Nodup) (hi : X.N[i]? = some n) (hln : X.env.kindOf n = some .local) (hO : i ∉ P.O) (hg : Gl X x) (hm : X.mg x = some (.ref C)) (tk : Takes X P.W)
    (hb : ∀ (W : WX) (pn : List (Addr × Obj)) (xe : Value → Shared → Prop), Takes (X.tr pn xe) W → PassesOwn (model X.prog X.w) X.A X.env xe → QSs (X.tr pn xe) ⟨W, P.O⟩ body ab)
    (hsu : ∀ (a : Addr) (oe : Obj) (dd : Addr) (pn : List (Addr × Obj)), Zc (.ref C) (some dd) oe → (∃ vs, oe.data = .fields vs) → QU (X.suite a ((a, oe) :: pn)) i a dd e u) (hdb : (x == ("__debug__" : Str)) = false := by decide) :
    QS X P (.Try body [.ExceptHandler (some (.Name x np)) (some n) [.Return (some e) rp] pos'] [] [] pos) (asTry X.K C i ab u) := by
  refine ⟨_, ps_try_as (tb := fun W => canS X.K ⟨W, P.O⟩ ab) (ts := fun a cls d D σ H => ∃ c DA S ρ dd ws fs v, cls = .ref C ∧ d = some dd ∧ Link X.K c D DA ∧ Stt X.K c S H σ ρ [] ∧ σ[i]? = some (some (.ref a)) ∧ H dd = some (.xd ws) ∧ RepF X.K S fs ws ∧ u fs = some v ∧ DA.rt (.v v) ρ) hs hf hN hi hln ⟨hg, hdb, .inl hm⟩ tk (fun W pn xe h1 h2 => can_of (hb W pn xe h1 h2)) (fun a oe cls d pn hz hfs => ?_), fun c D DA ho hw l S H σ ρ st q => ?_⟩
  · refine ⟨fun pins s σ H D I h => ?_⟩
    obtain ⟨c, DA, S, ρ, dd, ws, fs, v, rfl, rfl, l, st, h1, h2, h3, h4, h5⟩ := h
    obtain ⟨te, pe, se⟩ := (hsu a oe dd pn hz hfs).ex
    exact (pss_one (ps_ret pe)).run pins s σ H D I (se c [] S H σ ρ ws fs v _ st h1 h2 h3 h4 fun v' H' S' sm st' _ => l.rt S' H' σ ρ v' (.v v) st' rfl h5)
  · refine ⟨c, { DA with ex := fun C' fs ρ' => ∃ b, PySem.W.exmOne X.K (.ref C') (.ref C) = some b ∧ (b = true → C' = C ∧ fs ≠ [] ∧ i < ρ'.length ∧ ∃ d, u fs = some d ∧ DA.rt (.v d) (ρ'.set i none)) ∧ (b = false → DA.ex C' fs ρ') }, S, ρ, ho, ?_, ⟨l.nx, l.rt, l.bk, l.ct⟩, st, q⟩
    rintro S' H' σ' ρ' C' fs dd st' xd ⟨b, hb1, hb2, hb3⟩
    refine ⟨b, hb1, fun e1 a ha => ?_, fun e1 => hw S' H' σ' ρ' C' fs dd st' xd (hb3 e1)⟩
    obtain ⟨rfl, hne, hil, d, hd, hq⟩ := hb2 e1
    rcases xd with ⟨rfl, rfl⟩ | ⟨d', ws, rfl, hw', rf⟩
    · exact absurd rfl hne
    · have st2 : Stt X.K c S' H' (σ'.set i (some (.ref a))) (ρ'.set i none) [] := by
        have z := st'.clear i (by simp)
        have ev : EnvOk (ρ'.set i none) (σ'.set i (some (.ref a))) := by
          have y := z.env.store (i := i) (o := none) (w := some (.ref a)) fun _ e => (nomatch e)
          rwa [set_set] at y
        refine ⟨?_, ev, fun _ _ m => by simp at m, z.le, z.r, z.new, z.up, fun p m => ?_⟩
        · have e2 := envP_none (ρ := ρ') (σ := σ') (i := i) (w := some (.ref a))
          rw [e2]
          exact z.own
        · rw [List.getElem?_set_ne (Ne.symm (ho.ne hO p m))]
          exact z.os p m
      have hlt : i < σ'.length := by rw [st'.env.len]; exact hil
      exact ⟨c, { DA with nx := fun _ => False, bk := fun _ => False, ct := fun _ => False }, S', _, d', ws, fs, d, rfl, rfl, ⟨fun _ _ _ _ _ z => z.elim, fun S2 H2 σ2 ρ2 v2 x2 a1 a2 a3 => l.rt S2 H2 σ2 ρ2 v2 x2 a1 a2 a3, fun _ _ _ _ _ z => z.elim, fun _ _ _ _ _ z => z.elim⟩, st2, by rw [List.getElem?_set_self hlt], hw', rf, hd, hq⟩
end
end Vs

set_option Elab.async false
set_option linter.all false
set_option maxRecDepth 100000
set_option maxHeartbeats 1000000
/-! Vs: comprehensions. -/
namespace Vs
open PySem PySem.Spec PyProof.Rows L2
/-! ### the block's own slots -/
theorem wipe_out' {σ : L2.St} {i : Nat} : ∀ {vs : List Nat}, i ∉ vs → (wipe σ vs)[i]? = σ[i]?
  | [], _ => rfl
  | v :: vs, h => by
    unfold wipe
    rw [List.getElem?_set_ne (fun z => h (by simp [z]))]
    exact wipe_out' fun z => h (by simp [z])
theorem wipe_in {σ : L2.St} {i : Nat} : ∀ {vs : List Nat}, i ∈ vs → i < σ.length → (wipe σ vs)[i]? = some none
  | [], h, _ => by simp at h
  | v :: vs, h, hl => by
    unfold wipe
    by_cases e : v = i
    · subst e
      rw [List.getElem?_set_self (by rw [wipe_length]; exact hl)]
    · rw [List.getElem?_set_ne e]
      exact wipe_in (by
        rcases List.mem_cons.mp h with z | z
        · exact absurd z.symm e
        · exact z) hl
theorem But.wipe {σ σ2 : L2.St} {vs : List Nat} (h : But vs σ σ2) : wipe σ2 vs = wipe σ vs := by
  apply List.ext_getElem?
  intro i
  by_cases hi : i ∈ vs
  · by_cases hl : i < σ.length
    · rw [wipe_in hi hl, wipe_in hi (by rw [h.1]; exact hl)]
    · rw [List.getElem?_eq_none (by rw [wipe_length, h.1]; omega), List.getElem?_eq_none (by rw [wipe_length]; omega)]
  · rw [wipe_out' hi, wipe_out' hi, h.2 i hi]
theorem wipe_but {σ : L2.St} {vs : List Nat} : But vs σ (wipe σ vs) := ⟨wipe_length σ vs, fun i hi => wipe_out' hi⟩
theorem But.symm {ws : List Nat} {σ σ2 : L2.St} (h : But ws σ σ2) : But ws σ2 σ := ⟨h.1.symm, fun i hi => (h.2 i hi).symm⟩
theorem But.mono {ws vs : List Nat} {σ σ2 : L2.St} (h : But ws σ σ2) (hs : ∀ i ∈ ws, i ∈ vs) : But vs σ σ2 := ⟨h.1, fun i hi => h.2 i fun z => hi (hs i z)⟩
/-- some slots hold nothing -/
def NoneAt (vs : List Nat) (ρ : AEnv) : Prop := ∀ v ∈ vs, ρ[v]? = some none
theorem clear_none : ∀ {vs : List Nat} {ρ : AEnv}, (∀ v ∈ vs, v < ρ.length) → NoneAt vs (clearA vs ρ)
  | [], ρ, _, v, hv => by simp at hv
  | w :: vs, ρ, hl, v, hv => by
    have len : ∀ (vs : List Nat) (ρ : AEnv), (clearA vs ρ).length = ρ.length := by
      intro vs ρ
      induction vs with
      | nil => rfl
      | cons x xs ih => unfold clearA; rw [List.length_set, ih]
    unfold clearA
    by_cases e : w = v
    · subst e
      rw [List.getElem?_set_self (by rw [len]; exact hl w (by simp))]
    · rw [List.getElem?_set_ne e]
      exact clear_none (fun v hv => hl v (by simp [hv])) v (by
        rcases List.mem_cons.mp hv with z | z
        · exact absurd z.symm e
        · exact z)
theorem clear_len : ∀ (vs : List Nat) (ρ : AEnv), (clearA vs ρ).length = ρ.length
  | [], ρ => rfl
  | v :: vs, ρ => by unfold clearA; rw [List.length_set, clear_len vs ρ]
section
variable {K : Fg} {c : Ctx} {S H : Hp} {σ σ2 : L2.St} {ρ : AEnv} {τ : List (V × A)} {vs : List Nat}
theorem envP_but : ∀ {ρ : AEnv} {σ σ2 : L2.St}, σ2.length = σ.length → (∀ (i : Nat) (y : A), ρ[i]? = some (some y) → σ2[i]? = σ[i]?) → envP ρ σ2 = envP ρ σ
  | [], σ, σ2, _, _ => by cases σ <;> cases σ2 <;> rfl
  | o :: ρ, [], σ2, hl, _ => by
    have e : σ2 = [] := by simpa using hl
    rw [e]
  | o :: ρ, x :: σ, [], hl, _ => by simp at hl
  | o :: ρ, x :: σ, y :: σ2, hl, h => by
    have ih := envP_but (ρ := ρ) (σ := σ) (σ2 := σ2) (by simpa using hl) (fun i z hz => by
      have := h (i + 1) z (by simpa using hz)
      simpa using this)
    cases o with
    | none => simp only [envP]; exact ih
    | some z =>
      have e : y = x := by
        have := h 0 z (by simp)
        simpa using this
      subst e
      cases y with
      | none => simp only [envP]; exact ih
      | some v => simp only [envP]; rw [ih]
theorem envOk_but : ∀ {ρ : AEnv} {σ σ2 : L2.St}, σ2.length = σ.length → (∀ (i : Nat) (y : A), ρ[i]? = some (some y) → σ2[i]? = σ[i]?) → EnvOk ρ σ → EnvOk ρ σ2
  | [], σ, σ2, hl, _, h => by
    have e : σ = [] := h
    subst e
    have e2 : σ2 = [] := by simpa using hl
    exact e2
  | o :: ρ, σ, [], hl, _, h => by
    obtain ⟨w, r, rfl, _, _⟩ := h
    simp at hl
  | o :: ρ, σ, y :: σ2, hl, hq, h => by
    obtain ⟨w, r, rfl, h1, h2⟩ := h
    refine ⟨y, σ2, rfl, fun z ez => ?_, envOk_but (by simpa using hl) (fun i z hz => by
      have := hq (i + 1) z (by simpa using hz)
      simpa using this) h2⟩
    obtain ⟨⟨v, hv⟩, hn⟩ := h1 z ez
    have e : y = w := by
      have := hq 0 z (by simp [ez])
      simpa using this
    exact ⟨⟨v, by rw [e]; exact hv⟩, hn⟩
theorem Stt.but (s : Stt K c S H σ ρ τ) (b : But vs σ σ2) (hn : NoneAt vs ρ) (ho : ∀ p ∈ c.os, p.1 ∉ vs) : Stt K c S H σ2 ρ τ := by
  have out : ∀ (i : Nat) (y : A), ρ[i]? = some (some y) → σ2[i]? = σ[i]? := fun i y h => b.2 i fun z => by rw [hn i z] at h; cases h
  refine ⟨?_, envOk_but b.1 out s.env, fun v i m => ?_, s.le, s.r, s.new, s.up, fun p m => by rw [b.2 p.1 (ho p m)]; exact s.os p m⟩
  · rw [envP_but b.1 out]; exact s.own
  · obtain ⟨h1, y, h2⟩ := s.loc v i m
    exact ⟨by rw [out i y h2]; exact h1, y, h2⟩
/-- an owned thing on top is changed -/
theorem Stt.writeTop {p : Addr} {o : HO} {y y' : A} (s : Stt K c S H σ ρ ((.ref p, y) :: τ)) (hx : isLoc y = false) (hx' : isLoc y' = false) (hg : ∀ g, RepA K S H y (.ref p) g → g = [p]) (hr : RepA K S (upd H p o) y' (.ref p) [p]) : Stt K c S (upd H p o) σ ρ ((.ref p, y') :: τ) := by
  obtain ⟨g, h, h1, h2, nd, h3⟩ := s.top hx
  have eg := hg g h1
  subst eg
  have np : p ∉ h := fun z => (List.nodup_append.mp nd).2.2 p (List.mem_cons_self ..) p z rfl
  have Sp : S p = none := (h3 p (by simp)).1
  have Rp : c.R p = none := (h3 p (by simp)).2
  exact Stt.push (g := [p]) (h := h) hx' hr (h2.keep (Same.refl S) fun a ha => upd_ne (fun z => np (z ▸ ha))) nd h3 s.env (fun v' i m => s.loc v' i (List.mem_cons_of_mem _ m)) (s.le.up Sp) (fun a o' e => by rw [upd_ne (ne_of_none e Rp)]; exact s.r a o' e) s.new s.up s.os
end
/-! ### tests of a comprehension -/
structure QTs (X : Cx) (P : Pm) (ifs : List Expr) (a : AT) : Prop where
  ex : ∃ t, PTs X ifs t ∧ SimT X.K P t a
def atYes : AT := fun _ ρ Q => Q true ρ
section
variable {X : Cx} {P : Pm} {K : Fg} {pos : Pos}
theorem qts_nil : QTs X P [] atYes := ⟨_, pts_nil, fun c EA _ _ τ S H σ ρ Q R s q k => k _ _ ⟨S, ρ, s, q⟩⟩
theorem qts_one {e : Expr} {t : AT} (h : QT X P e t) : QTs X P [e] t := let ⟨_, p, s⟩ := h.ex; ⟨_, pts_one p, s⟩
def noX : AX := fun _ _ _ => False
theorem xok_no {c : Ctx} : XOk K c (fun _ _ _ _ => False) noX := fun _ _ _ _ _ _ _ _ _ h => h
/-! ### [e for t in it if ..] -/
def lcA (G : AEnv → Prop) (ag : AG) (at_ : AT) (ae : AE) (vs : List Nat) : List D → List D → AEnv → AK → Prop
  | [], acc, ρ, Q => G ρ ∧ Q (.lst acc) ρ
  | x :: xs, acc, ρ, Q => G ρ ∧ ag x ρ fun ρ1 => at_ noX ρ1 fun b ρ2 => if b = true then ae noX ρ2 fun y ρ3 => useA y ρ3 fun d ρ4 => acc.length ≤ 100000 ∧ lcA G ag at_ ae vs xs (acc ++ [d]) (clearA vs ρ4) Q else lcA G ag at_ ae vs xs acc (clearA vs ρ2) Q
def aLc (ai : AI) (ag : AG) (at_ : AT) (ae : AE) (vs : List Nat) : AE := fun EA ρ Q => ai EA ρ fun xs G ρ1 => NoneAt vs ρ1 ∧ lcA G ag at_ ae vs xs [] ρ1 Q
abbrev Pn (P : Pm) : Pm := ⟨fun _ _ _ _ => False, P.O⟩
theorem sim_lc {wi : TI} {g : TG} {tt : TT} {te : TE} {ai : AI} {ag : AG} {at_ : AT} {ae : AE} {vs ws : List Nat} (hO : ∀ v ∈ vs, v ∉ P.O) (hws : ∀ i ∈ ws, i ∈ vs) (si : SimI K P wi ai) (sg : SimG K (Pn P) g ag ws) (st : SimT K (Pn P) tt at_) (se : SimE K (Pn P) te ae) :
    SimE K P (tLc wi g tt te vs) (aLc ai ag at_ ae vs) := by
  intro c EA ho hw τ S H σ ρ Q R s q k
  refine si c EA ho hw τ S H σ ρ _ _ s q fun c' J H1 S1 ρ1 xs G rb s1 hJ ⟨hn1, q1⟩ Dl hD => ?_
  have ho' := rb.osIn ho
  have hos : ∀ p ∈ c'.os, p.1 ∉ vs := fun p m z => hO p.1 z (ho'.1 p m)
  have s1' : Stt K c' S1 H1 (wipe σ vs) ρ1 τ := s1.but wipe_but hn1 hos
  have s2 : Stt K c' S1 (upd H1 Dl (.lst [])) (wipe σ vs) ρ1 ((.ref Dl, .lst []) :: τ) := s1'.newList hD (by simp only [RepL])
  refine ⟨fun i m H => ∃ S ρ acc, Stt K c' S H (wipe σ vs) ρ ((.ref Dl, .lst acc) :: τ) ∧ NoneAt vs ρ ∧ i + m = xs.length ∧ lcA G ag at_ ae vs (xs.drop i) acc ρ Q, ⟨xs.length, S1, ρ1, [], s2, hn1, by omega, by simpa using q1⟩, ?_⟩
  rintro i m H2 ⟨S2, ρ2, acc, s3, hn2, hm, q2⟩
  have noloc : ∀ u j, (u, A.loc j) ∈ (V.ref Dl, A.lst acc) :: τ → j ∉ vs := fun u j mm z => by
    obtain ⟨_, y, hy⟩ := s3.loc u j mm
    rw [hn2 j z] at hy
    cases hy
  by_cases hlt : i < xs.length
  · have e : xs.drop i = xs[i] :: xs.drop (i + 1) := List.drop_eq_getElem_cons hlt
    rw [e] at q2
    obtain ⟨hG, q2⟩ := q2
    obtain ⟨h1, h2⟩ := (hJ S2 H2 (wipe σ vs) ρ2 _ s3 hG).1 i xs[i] (List.getElem?_eq_getElem hlt)
    refine .inr ⟨h1, fun H' => ∃ S ρ acc, Stt K c' S H' (wipe σ vs) ρ ((.ref Dl, .lst acc) :: τ) ∧ NoneAt vs ρ ∧ lcA G ag at_ ae vs (xs.drop (i + 1)) acc ρ Q, fun H' ⟨S', ρ', acc', a1, a2, a3⟩ => ⟨m - 1, by omega, S', ρ', acc', a1, a2, by omega, a3⟩, fun x H' hy => ?_⟩
    obtain ⟨S3, s4⟩ := h2 x H' hy
    refine sg c' ho' _ S3 H' (wipe σ vs) ρ2 x xs[i] _ _ s4 (fun u j mm z => noloc u j mm (hws j z)) q2 fun σ' ρ' s5 bt q5 => ?_
    have btv : But vs (wipe σ vs) σ' := bt.mono hws
    have wip : wipe (wipe σ vs) vs = wipe σ vs := But.wipe (But.symm wipe_but).symm
    refine ⟨(But.wipe btv).trans wip, st c' noX ho' xok_no _ S3 H' σ' ρ' _ _ s5 q5 fun b H3 ⟨S4, ρ4, s6, q6⟩ => ?_⟩
    -- back to the block's start
    have back : ∀ {S H : Hp} {ρ : AEnv} {acc : List D}, Stt K c' S H σ' ρ ((.ref Dl, .lst acc) :: τ) → Stt K c' S H (wipe σ vs) (clearA vs ρ) ((.ref Dl, .lst acc) :: τ) ∧ NoneAt vs (clearA vs ρ) := fun {S H ρ acc'} z => by
      have nl : ∀ u j, (u, A.loc j) ∈ (V.ref Dl, A.lst acc') :: τ → j ∉ vs := fun u j mm zz => by
        rcases List.mem_cons.mp mm with y | y
        · injection y with _ y; cases y
        · exact noloc u j (List.mem_cons_of_mem _ y) zz
      have hlen : ∀ v ∈ vs, v < ρ.length := fun v hv => by
        have e1 := lt_of_get (hn2 v hv)
        have e2 := s3.env.len
        have e3 := z.env.len
        have e4 := btv.1
        omega
      have nn := clear_none (ρ := ρ) hlen
      exact ⟨(z.clears vs nl).but (But.symm btv) nn hos, nn⟩
    cases b with
    | false =>
      rw [if_neg Bool.false_ne_true] at q6 ⊢
      obtain ⟨z1, z2⟩ := back s6
      exact ⟨S4, _, acc, z1, z2, q6⟩
    | true =>
      rw [if_pos rfl] at q6 ⊢
      refine se c' noX ho' xok_no _ S4 H3 σ' ρ4 _ _ s6 q6 fun vy H4 ⟨S5, ρ5, y, s7, q7⟩ => ?_
      obtain ⟨S6, d, ρ6, sm, s8, hz, q8⟩ := use_sim s7 q7
      have rd := s8.data
      have s9 := s8.drop
      obtain ⟨g, hh, r1, _, _, _⟩ := s9.top rfl
      obtain ⟨p', us, e1, hp, rl, _⟩ := r1.lst_inv
      cases e1
      refine ⟨us, hp, by rw [rl.len]; exact Nat.lt_of_le_of_lt hz (by decide), ?_⟩
      have s10 : Stt K c' S6 (upd H4 Dl (.lst (us ++ [vy]))) σ' ρ6 ((.ref Dl, .lst (acc ++ [d])) :: τ) := s9.writeTop rfl rfl (fun g' h => by obtain ⟨a', _, e, _, _, e2⟩ := h.lst_inv; cases e; exact e2) (.mk_lst upd_same (rl.app (by simp only [RepL]; exact ⟨vy, [], rfl, rd, rfl⟩)))
      obtain ⟨z1, z2⟩ := back s10
      exact ⟨S6, _, _, z1, z2, q8⟩
  · have e : xs.drop i = [] := List.drop_eq_nil_of_le (by omega)
    rw [e] at q2
    refine .inl ⟨(hJ S2 H2 (wipe σ vs) ρ2 _ s3 q2.1).2 i (by omega), k _ _ ⟨S2, ρ2, .lst acc, ?_, q2.2⟩⟩
    exact rb.back (s3.but (But.symm wipe_but) hn2 hos)
theorem qe_lc {elt tg iter : Expr} {ifs : List Expr} {scope : Scope} {own : List (Str × Nat)} {ai : AI} {ag : AG} {at_ : AT} {ae : AE} {ws : List Nat} (hc : X.calm = true) (hN : X.N.Nodup) (hi : QI X P tg iter ai) (ok : BlkOk X.N X.env.scope scope own)
    (hg : ∃ g, SimG X.K (Pn P) g ag ws ∧ ∀ (s : Shared) (H : Hp) (C : Addr) (cl : List (Str × Addr)) (fp : List Addr), PG (X.blk s H scope (compEnvC scope cl C X.env) fp) tg g) (ht : ∃ t, SimT X.K (Pn P) t at_ ∧ ∀ (s : Shared) (H : Hp) (C : Addr) (cl : List (Str × Addr)) (fp : List Addr), PTs (X.blk s H scope (compEnvC scope cl C X.env) fp) ifs t)
    (he : ∃ t, SimE X.K (Pn P) t ae ∧ ∀ (s : Shared) (H : Hp) (C : Addr) (cl : List (Str × Addr)) (fp : List Addr), PE (X.blk s H scope (compEnvC scope cl C X.env) fp) elt t) (hO : ∀ v ∈ own.map (·.2), v ∉ P.O) (hws : ∀ i ∈ ws, i ∈ own.map (·.2)) (hs : ∀ x, foldedSetIterable iter X.env x = pure x := by intro _; rfl) :
    QE X P (.ListComp elt [⟨tg, iter, ifs, 0⟩] scope pos) (aLc ai ag at_ ae (own.map (·.2))) := by
  obtain ⟨wi, pi, si⟩ := hi.ex
  obtain ⟨g, sg, pg⟩ := hg
  obtain ⟨tt, st, pt⟩ := ht
  obtain ⟨te, se, pe⟩ := he
  exact ⟨_, pe_lc hc hN pi ok pg pt pe hs, sim_lc hO hws si sg st se⟩
end
/-! ### canonical meanings: from a judgement in each block to one meaning -/
section
variable {K : Fg} {P : Pm}
def canE (K : Fg) (P : Pm) (ae : AE) : TE := fun σ H R => ∃ c EA τ S ρ Q, OsIn K c P.O ∧ XOk K c P.W EA ∧ Stt K c S H σ ρ τ ∧ ae EA ρ Q ∧ ∀ v H', KE K c σ τ Q v H' → R v H'
def canT (K : Fg) (P : Pm) (at_ : AT) : TT := fun σ H R => ∃ c EA τ S ρ Q, OsIn K c P.O ∧ XOk K c P.W EA ∧ Stt K c S H σ ρ τ ∧ at_ EA ρ Q ∧ ∀ v H', KT K c σ τ Q v H' → R v H'
def canG (K : Fg) (P : Pm) (ag : AG) (ws : List Nat) : TG := fun v σ H R => ∃ c τ S ρ d Q, OsIn K c P.O ∧ Stt K c S H σ ρ ((v, .v d) :: τ) ∧ (∀ u i, (u, A.loc i) ∈ τ → i ∉ ws) ∧ ag d ρ Q ∧ ∀ σ' ρ', Stt K c S H σ' ρ' τ → But ws σ σ' → Q ρ' → R σ' H
theorem sim_canE {ae : AE} : SimE K P (canE K P ae) ae := fun c EA ho hw τ S H σ ρ Q R s q k => ⟨c, EA, τ, S, ρ, Q, ho, hw, s, q, k⟩
theorem sim_canT {ae : AT} : SimT K P (canT K P ae) ae := fun c EA ho hw τ S H σ ρ Q R s q k => ⟨c, EA, τ, S, ρ, Q, ho, hw, s, q, k⟩
theorem sim_canG {ag : AG} {ws : List Nat} : SimG K P (canG K P ag ws) ag ws := fun c ho τ S H σ ρ v d Q R s hn q k => ⟨c, τ, S, ρ, d, Q, ho, s, hn, q, k⟩
theorem can_E {X : Cx} {e : Expr} {ae : AE} (h : QE X P e ae) (hK : X.K = K) : PE X e (canE K P ae) := by
  subst hK
  obtain ⟨t, p, s⟩ := h.ex
  exact ⟨fun pins st σ H Q I ⟨c, EA, τ, S, ρ, Q', h1, h2, h3, h4, h5⟩ => p.run pins st σ H Q I (s c EA h1 h2 τ S H σ ρ Q' Q h3 h4 h5)⟩
theorem can_Ts {X : Cx} {e : List Expr} {ae : AT} (h : QTs X P e ae) (hK : X.K = K) : PTs X e (canT K P ae) := by
  subst hK
  obtain ⟨t, p, s⟩ := h.ex
  exact ⟨fun pins st σ H Q I ⟨c, EA, τ, S, ρ, Q', h1, h2, h3, h4, h5⟩ => p.run pins st σ H Q I (s c EA h1 h2 τ S H σ ρ Q' Q h3 h4 h5)⟩
theorem can_G {X : Cx} {e : Expr} {ag : AG} {ws : List Nat} (h : QG X P e ag ws) (hK : X.K = K) : PG X e (canG K P ag ws) := by
  subst hK
  obtain ⟨t, p, s⟩ := h.ex
  exact ⟨fun pins st σ H v u Q I r ⟨c, τ, S, ρ, d, Q', h1, h2, h3, h4, h5⟩ => p.run pins st σ H v u Q I r (s c h1 τ S H σ ρ v d Q' Q h2 h3 h4 h5)⟩
theorem qe_lcX {X : Cx} {elt tg iter : Expr} {ifs : List Expr} {scope : Scope} {ai : AI} {ag : AG} {at_ : AT} {ae : AE} {ws : List Nat} {pos : Pos} (own : List (Str × Nat)) (hc : X.calm = true) (hN : X.N.Nodup) (ok : BlkOk X.N X.env.scope scope own) (hi : QI X P tg iter ai)
    (hg : ∀ (s : Shared) (H : Hp) (C : Addr) (cl : List (Str × Addr)) (fp : List Addr), QG (X.blk s H scope (compEnvC scope cl C X.env) fp) (Pn P) tg ag ws) (ht : ∀ (s : Shared) (H : Hp) (C : Addr) (cl : List (Str × Addr)) (fp : List Addr), QTs (X.blk s H scope (compEnvC scope cl C X.env) fp) (Pn P) ifs at_)
    (he : ∀ (s : Shared) (H : Hp) (C : Addr) (cl : List (Str × Addr)) (fp : List Addr), QE (X.blk s H scope (compEnvC scope cl C X.env) fp) (Pn P) elt ae) (hO : ∀ v ∈ own.map (·.2), v ∉ P.O) (hws : ∀ i ∈ ws, i ∈ own.map (·.2)) (hs : ∀ x, foldedSetIterable iter X.env x = pure x := by intro _; rfl) :
    QE X P (.ListComp elt [⟨tg, iter, ifs, 0⟩] scope pos) (aLc ai ag at_ ae (own.map (·.2))) :=
  qe_lc hc hN hi ok ⟨_, sim_canG, fun s H C cl fp => can_G (hg s H C cl fp) rfl⟩ ⟨_, sim_canT, fun s H C cl fp => can_Ts (ht s H C cl fp) rfl⟩ ⟨_, sim_canE, fun s H C cl fp => can_E (he s H C cl fp) rfl⟩ hO hws hs
end
end Vs

set_option Elab.async false
set_option linter.all false
set_option maxRecDepth 100000
set_option maxHeartbeats 1000000
/-! Vs: dict comprehensions; a name gets a comprehension. -/
namespace Vs
open PySem PySem.Spec PyProof.Rows L2
section
variable {X : Cx} {P : Pm} {K : Fg} {pos : Pos}
/-! ### {k: e for t in it if ..} -/
def dcA (G : AEnv → Prop) (ag : AG) (at_ : AT) (ak ae : AE) (vs : List Nat) : List D → List (Key × D) → AEnv → AK → Prop
  | [], acc, ρ, Q => G ρ ∧ Q (.dic acc) ρ
  | x :: xs, acc, ρ, Q => G ρ ∧ ag x ρ fun ρ1 => at_ noX ρ1 fun b ρ2 => if b = true then ak noX ρ2 fun ky ρ3 => ae noX ρ3 fun y ρ4 => useA y ρ4 fun d ρ5 => ∃ kd kk, dat ky ρ5 = some kd ∧ keyD kd = some kk ∧ acc.length ≤ 100000 ∧ dcA G ag at_ ak ae vs xs (putD acc kk d) (clearA vs ρ5) Q else dcA G ag at_ ak ae vs xs acc (clearA vs ρ2) Q
def aDc (ai : AI) (ag : AG) (at_ : AT) (ak ae : AE) (vs : List Nat) : AE := fun EA ρ Q => ai EA ρ fun xs G ρ1 => NoneAt vs ρ1 ∧ dcA G ag at_ ak ae vs xs [] ρ1 Q
theorem sim_dc {wi : TI} {g : TG} {tt : TT} {tk te : TE} {ai : AI} {ag : AG} {at_ : AT} {ak ae : AE} {vs ws : List Nat} (hO : ∀ v ∈ vs, v ∉ P.O) (hws : ∀ i ∈ ws, i ∈ vs) (si : SimI K P wi ai) (sg : SimG K (Pn P) g ag ws) (st : SimT K (Pn P) tt at_) (sk : SimE K (Pn P) tk ak) (se : SimE K (Pn P) te ae) :
    SimE K P (tDc wi g tt tk te vs) (aDc ai ag at_ ak ae vs) := by
  intro c EA ho hw τ S H σ ρ Q R s q k
  refine si c EA ho hw τ S H σ ρ _ _ s q fun c' J H1 S1 ρ1 xs G rb s1 hJ ⟨hn1, q1⟩ Dl hD => ?_
  have ho' := rb.osIn ho
  have hos : ∀ p ∈ c'.os, p.1 ∉ vs := fun p m z => hO p.1 z (ho'.1 p m)
  have s1' : Stt K c' S1 H1 (wipe σ vs) ρ1 τ := s1.but wipe_but hn1 hos
  have s2 : Stt K c' S1 (upd H1 Dl (.dK [])) (wipe σ vs) ρ1 ((.ref Dl, .dic []) :: τ) := s1'.alloc hD rfl (.mk_dic upd_same (by simp only [RepK]))
  refine ⟨fun i m H => ∃ S ρ acc, Stt K c' S H (wipe σ vs) ρ ((.ref Dl, .dic acc) :: τ) ∧ NoneAt vs ρ ∧ i + m = xs.length ∧ dcA G ag at_ ak ae vs (xs.drop i) acc ρ Q, ⟨xs.length, S1, ρ1, [], s2, hn1, by omega, by simpa using q1⟩, ?_⟩
  rintro i m H2 ⟨S2, ρ2, acc, s3, hn2, hm, q2⟩
  have noloc : ∀ u j, (u, A.loc j) ∈ (V.ref Dl, A.dic acc) :: τ → j ∉ vs := fun u j mm z => by
    obtain ⟨_, y, hy⟩ := s3.loc u j mm
    rw [hn2 j z] at hy
    cases hy
  by_cases hlt : i < xs.length
  · have e : xs.drop i = xs[i] :: xs.drop (i + 1) := List.drop_eq_getElem_cons hlt
    rw [e] at q2
    obtain ⟨hG, q2⟩ := q2
    obtain ⟨h1, h2⟩ := (hJ S2 H2 (wipe σ vs) ρ2 _ s3 hG).1 i xs[i] (List.getElem?_eq_getElem hlt)
    refine .inr ⟨h1, fun H' => ∃ S ρ acc, Stt K c' S H' (wipe σ vs) ρ ((.ref Dl, .dic acc) :: τ) ∧ NoneAt vs ρ ∧ dcA G ag at_ ak ae vs (xs.drop (i + 1)) acc ρ Q, fun H' ⟨S', ρ', acc', a1, a2, a3⟩ => ⟨m - 1, by omega, S', ρ', acc', a1, a2, by omega, a3⟩, fun x H' hy => ?_⟩
    obtain ⟨S3, s4⟩ := h2 x H' hy
    refine sg c' ho' _ S3 H' (wipe σ vs) ρ2 x xs[i] _ _ s4 (fun u j mm z => noloc u j mm (hws j z)) q2 fun σ' ρ' s5 bt q5 => ?_
    have btv : But vs (wipe σ vs) σ' := bt.mono hws
    have wip : wipe (wipe σ vs) vs = wipe σ vs := But.wipe (But.symm wipe_but).symm
    refine ⟨(But.wipe btv).trans wip, st c' noX ho' xok_no _ S3 H' σ' ρ' _ _ s5 q5 fun b H3 ⟨S4, ρ4, s6, q6⟩ => ?_⟩
    have back : ∀ {S H : Hp} {ρ : AEnv} {acc : List (Key × D)}, Stt K c' S H σ' ρ ((.ref Dl, .dic acc) :: τ) → Stt K c' S H (wipe σ vs) (clearA vs ρ) ((.ref Dl, .dic acc) :: τ) ∧ NoneAt vs (clearA vs ρ) := fun {S H ρ acc'} z => by
      have nl : ∀ u j, (u, A.loc j) ∈ (V.ref Dl, A.dic acc') :: τ → j ∉ vs := fun u j mm zz => by
        rcases List.mem_cons.mp mm with y | y
        · injection y with _ y; cases y
        · exact noloc u j (List.mem_cons_of_mem _ y) zz
      have hlen : ∀ v ∈ vs, v < ρ.length := fun v hv => by
        have e1 := lt_of_get (hn2 v hv)
        have e2 := s3.env.len
        have e3 := z.env.len
        have e4 := btv.1
        omega
      have nn := clear_none (ρ := ρ) hlen
      exact ⟨(z.clears vs nl).but (But.symm btv) nn hos, nn⟩
    cases b with
    | false =>
      rw [if_neg Bool.false_ne_true] at q6 ⊢
      obtain ⟨z1, z2⟩ := back s6
      exact ⟨S4, _, acc, z1, z2, q6⟩
    | true =>
      rw [if_pos rfl] at q6 ⊢
      refine sk c' noX ho' xok_no _ S4 H3 σ' ρ4 _ _ s6 q6 fun vk H4 ⟨S5, ρ5, ky, s7, q7⟩ => se c' noX ho' xok_no _ S5 H4 σ' ρ5 _ _ s7 q7 fun vy H5 ⟨S6, ρ6, y, s8, q8⟩ => ?_
      obtain ⟨S7, d, ρ7, sm, s9, kd, kk, hk1, hk2, hz, q9⟩ := use_sim s8 q8
      have rd := s9.data
      have rk := s9.dat (v := vk) (x := ky) (by simp) hk1
      have ek := key_rep hk2 rk
      subst ek
      have s10 := s9.drop.drop
      obtain ⟨g, hh, r1, _, _, _⟩ := s10.top rfl
      obtain ⟨p', us, e1, hp, rl, _⟩ := r1.dic_inv
      cases e1
      refine ⟨us, kk, rfl, hp, by rw [rl.len]; exact Nat.lt_of_le_of_lt hz (by decide), ?_⟩
      have s11 : Stt K c' S7 (upd H5 Dl (.dK (putK us kk vy))) σ' ρ7 ((.ref Dl, .dic (putD acc kk d)) :: τ) := s10.writeTop rfl rfl (fun g' h => by obtain ⟨a', _, e, _, _, e2⟩ := h.dic_inv; cases e; exact e2) (.mk_dic upd_same (rl.put kk rd))
      obtain ⟨z1, z2⟩ := back s11
      exact ⟨S7, _, _, z1, z2, q9⟩
  · have e : xs.drop i = [] := List.drop_eq_nil_of_le (by omega)
    rw [e] at q2
    refine .inl ⟨(hJ S2 H2 (wipe σ vs) ρ2 _ s3 q2.1).2 i (by omega), k _ _ ⟨S2, ρ2, .dic acc, ?_, q2.2⟩⟩
    exact rb.back (s3.but (But.symm wipe_but) hn2 hos)
theorem qe_dcX {kx elt tg iter : Expr} {ifs : List Expr} {scope : Scope} {ai : AI} {ag : AG} {at_ : AT} {ak ae : AE} {ws : List Nat} (own : List (Str × Nat)) (hc : X.calm = true) (hN : X.N.Nodup) (ok : BlkOk X.N X.env.scope scope own) (hi : QI X P tg iter ai)
    (hg : ∀ (s : Shared) (H : Hp) (C : Addr) (cl : List (Str × Addr)) (fp : List Addr), QG (X.blk s H scope (compEnvC scope cl C X.env) fp) (Pn P) tg ag ws) (ht : ∀ (s : Shared) (H : Hp) (C : Addr) (cl : List (Str × Addr)) (fp : List Addr), QTs (X.blk s H scope (compEnvC scope cl C X.env) fp) (Pn P) ifs at_)
    (hk : ∀ (s : Shared) (H : Hp) (C : Addr) (cl : List (Str × Addr)) (fp : List Addr), QE (X.blk s H scope (compEnvC scope cl C X.env) fp) (Pn P) kx ak)
    (he : ∀ (s : Shared) (H : Hp) (C : Addr) (cl : List (Str × Addr)) (fp : List Addr), QE (X.blk s H scope (compEnvC scope cl C X.env) fp) (Pn P) elt ae) (hO : ∀ v ∈ own.map (·.2), v ∉ P.O) (hws : ∀ i ∈ ws, i ∈ own.map (·.2)) (hs : ∀ x, foldedSetIterable iter X.env x = pure x := by intro _; rfl) :
    QE X P (.DictComp kx elt [⟨tg, iter, ifs, 0⟩] scope pos) (aDc ai ag at_ ak ae (own.map (·.2))) := by
  obtain ⟨wi, pi, si⟩ := hi.ex
  exact ⟨_, pe_dc hc hN pi ok (fun s H C cl fp => can_G (hg s H C cl fp) rfl) (fun s H C cl fp => can_Ts (ht s H C cl fp) rfl) (fun s H C cl fp => can_E (hk s H C cl fp) rfl) (fun s H C cl fp => can_E (he s H C cl fp) rfl) hs, sim_dc hO hws si sim_canG sim_canT sim_canE sim_canE⟩
/-! ### name = [..] on one line -/
theorem qs_setLc {i : Nat} {y : Str} {py : Pos} {elt tg iter : Expr} {ifs : List Expr} {scope : Scope} {ai : AI} {ag : AG} {at_ : AT} {ae : AE} {ws : List Nat} {spos : Pos} (own : List (Str × Nat)) (hc : X.calm = true) (hN : X.N.Nodup) (hy : X.N[i]? = some y) (hyl : X.env.scope.names.lookup y = some .local) (hyO : i ∉ P.O)
    (hsw : swapsWith (.ListComp elt [⟨tg, iter, ifs, 0⟩] scope pos) (some (.Name y py)) spos.line X.env = pure true) (ok : BlkOk X.N X.env.scope scope own) (hi : QI X P tg iter ai)
    (hg : ∀ (s : Shared) (H : Hp) (C : Addr) (cl : List (Str × Addr)) (fp : List Addr), QG (X.blk s H scope (compEnvC scope cl C X.env) fp) (Pn P) tg ag ws) (ht : ∀ (s : Shared) (H : Hp) (C : Addr) (cl : List (Str × Addr)) (fp : List Addr), QTs (X.blk s H scope (compEnvC scope cl C X.env) fp) (Pn P) ifs at_)
    (he : ∀ (s : Shared) (H : Hp) (C : Addr) (cl : List (Str × Addr)) (fp : List Addr), QE (X.blk s H scope (compEnvC scope cl C X.env) fp) (Pn P) elt ae) (hO : ∀ v ∈ own.map (·.2), v ∉ P.O) (hws : ∀ i ∈ ws, i ∈ own.map (·.2)) (hs : ∀ x, foldedSetIterable iter X.env x = pure x := by intro _; rfl) :
    QS X P (.Assign [.Name y py] (.ListComp elt [⟨tg, iter, ifs, 0⟩] scope pos) spos) (asSet i (aFrz (aLc ai ag at_ ae (own.map (·.2))))) := by
  obtain ⟨wi, pi, si⟩ := hi.ex
  refine ⟨_, ps_setLc hc hN hy hyl hsw pi ok (fun s H C cl fp => can_G (hg s H C cl fp) rfl) (fun s H C cl fp => can_Ts (ht s H C cl fp) rfl) (fun s H C cl fp => can_E (he s H C cl fp) rfl) hs, fun c D DA ho hw l S H σ ρ st q => ?_⟩
  refine sim_lc hO hws si sim_canG sim_canT sim_canE c DA.ex ho hw [] S H σ ρ _ _ st q fun v H1 ⟨S1, ρ1, y, s1, q1⟩ => ?_
  obtain ⟨S2, d, ρ2, sm, s2, q2⟩ := use_sim s1 q1
  exact set_sim s2 (ho.ne hyO) q2 fun S' ρ' s3 q3 => l.nx S' H1 _ ρ' s3 q3
end
end Vs

set_option Elab.async false
set_option linter.all false
set_option maxRecDepth 100000
set_option maxHeartbeats 1000000
/-! Vs: == and != by an own __eq__, len by an own __len__. -/
namespace Vs
open PySem PySem.Spec PyProof.Rows L2
structure EqC (Pr : Program) (w : World) (K : Fg) (mg : Str → Option Value) (base : Heap) (C : Addr) (k : Nat) (sp : ASp) : Prop where
  ne : PySem.W.findIn K (.ref C) "__ne__" = some (some (.builtin "object.__ne__"))
  mo : PySem.W.mroIn K C (.type "object") = some true
  ex : ∃ f fd ps, PySem.W.findIn K (.ref C) "__eq__" = some (some (.ref f)) ∧ PySem.W.isFn K (.ref f) = true ∧ Binds K fd ps [] ∧ Fok Pr w K mg base k f fd ps sp
section
variable {X : Cx} {P : Pm} {K : Fg} {C : Addr} {k : Nat} {sp : ASp}
/-- a def run in any room like the frame's -/
theorem run_at {pins : List (Addr × Obj)} {σ : L2.St} {H : Hp} {s : Shared} {A' : Around} {Q : VK} {f : Addr} {fd : FuncData} {ps : List Str} {us : List Value} {vs : List V} (F : Fok X.prog X.w X.K X.mg X.base k f fd ps sp) (hr : Room k A') (hfr : A'.frames = X.A.frames) (hb : Binds X.K fd ps []) (I : Inv X pins σ H s) (r : Vals vs us)
    (h : lift X.K sp vs H Q (fun _ _ _ => False)) {E : Value → Shared → Prop} : wpAny (model X.prog X.w) A' (call (.ref f) us) (EP X pins σ Q) E s := by
  have e0 : Env0 X.prog X.w X.K X.mg X.base A' X.stack s H := by
    have e := I.env0
    exact ⟨by rw [hfr]; exact e.frames, e.mod, e.bs, e.bsz, e.funs, e.frf, e.hok, e.bare⟩
  have hl := F.len _ _ _ _ h
  have bd := hb s us I.kIn (by rw [List.append_nil, ← r.length]; exact hl)
  refine wpAny_call (codeAny_mono (F.run A' X.stack s H ⟨us, []⟩ us vs _ _ hr e0 (by simpa using bd) r h) fun rr s' hq => ?_)
  cases rr with
  | error e => exact (cx_false _ _ _ _ _ hq).elim
  | ok fl =>
    cases fl with
    | ret u =>
      obtain ⟨v, H', I', rv, q⟩ := I.after hq
      exact ⟨v, H', I', rv, q⟩
    | next => exact False.elim hq
    | brk => exact False.elim hq
    | cont => exact False.elim hq
def rOwn (K : Fg) (C : Addr) (sp : ASp) (g : Bool → Bool) : R2 := fun x y H Q => ∃ a b dx dy fs gs, x = .ref a ∧ y = .ref b ∧ H a = some (.ins C dx fs) ∧ H b = some (.ins C dy gs) ∧ lift K sp [x, y] H (fun v H' => ∃ t, v = .bl t ∧ Q (.bl (g t)) H') (fun _ _ _ => False)
theorem op_ownEq (T : EqC X.prog X.w X.K X.mg X.base C k sp) (hr : Room k X.A) : OpR X (compareOp .Eq) (rOwn X.K C sp id) := by
  intro pins s σ H x y v u Q I rx ry h
  obtain ⟨a, b, dx, dy, fs, gs, rfl, rfl, ha, hb, h⟩ := h
  cases rx
  cases ry
  obtain ⟨f, fd, ps, hs, hf, hbd, F⟩ := T.ex
  obtain ⟨mA, J, _⟩ := ins_get I.hok ha
  obtain ⟨mB, J', _⟩ := ins_get I.hok hb
  obtain ⟨od, J, _⟩ := J.look
  obtain ⟨od', J', _⟩ := J'.look
  obtain ⟨m, hF⟩ := I.fr
  show wpAny (model X.prog X.w) X.A (richCompare .Eq (.ref a) (.ref b)) (EP X pins σ Q) X.xe s
  refine PySem.W.cmp_K (op := .Eq) (tb := .ref C) hr.units0 hF I.ok.mod.kin J J'.type (by simp [PySem.W.notFirst]) hs hf ?_
  refine thn (run_at F hr rfl hbd I (us := [.ref a, .ref b]) (vs := [.ref a, .ref b]) (.cons rfl (.cons rfl .nil)) h) fun u s1 hu => ?_
  obtain ⟨v, H', I', rv, t, rfl, q⟩ := hu
  cases (show u = Value.bool t from rv)
  exact ⟨.bl t, H', I', rfl, q⟩
section
variable {M : Model} {prog : Program} {w : World} {A : Around} {E : Value → Shared → Prop} {s : Shared} {x : Addr} {ox : Obj} {od : Option Obj}
theorem ifBound_objNe {args : List Value} {Q : Option Value → Shared → Prop} (X : K.In s.heap) (I : PySem.W.InstAt s.heap x ox C od) (hs : PySem.W.findIn K (.ref C) "__ne__" = some (some (.builtin "object.__ne__")))
    (h : wpAny M A (call (.builtin "object.__ne__") (.ref x :: args)) (fun v => Q (some v)) E s) : wpAny M A (callSpecialIfBound? (.ref x) "__ne__" args) Q E s := by
  simp only [callSpecialIfBound?, bindSpecialIfBound?]
  refine wpAny_holding (wpAny_bind (wpAny_bind (wpAny_bind (I.type.here ((PySem.W.looks_findIn X hs).here ?_)))))
  refine wpAny_bind (wpAny_askSetting (wpAny_ite ?_))
  have fin : wpAny M A (call (.builtin "object.__ne__") ([.ref x] ++ args) >>= fun v => pure (some v)) Q E s := wpAny_bind (wpAny_mono h (fun v s' h' => wpAny_pure h') fun _ _ h' => h')
  split
  · exact wpAny_bind (wpAny_of_eq (F.cmp_object.ne.bind _) (wpAny_pure (by exact fin)))
  · exact wpAny_tryCatch (wpAny_bind (wpAny_of_eq (F.cmp_object.ne.bind _) (wpAny_pure (by exact fin))))
theorem entry_ne {y f : Addr} {Q : Fin → Shared → Prop} (hu : A.units < cLine) (X : K.In s.heap) (I : PySem.W.InstAt s.heap x ox C od) (hs : PySem.W.findIn K (.ref C) "__eq__" = some (some (.ref f))) (hf : PySem.W.isFn K (.ref f) = true)
    (hcall : wpAny M A (call (.ref f) [.ref x, .ref y]) (fun v s' => ∃ b, v = .bool b ∧ Q (.done (.ret (.bool (!b)))) s') E s) : wpAny M A (Builtin.«object.__ne__» ⟨[.ref x, .ref y], []⟩) Q E s := by
  unfold Builtin.«object.__ne__»
  repeat (first
    | with_reducible refine wpAny_cRoomFor hu ?_
    | (refine wpAny_bind (m := callSpecialIfBound? (.ref x) (Str.ofString "__eq__") [.ref y])
        (PySem.W.ifBound_K X I hs hf (wpAny_mono hcall (fun r s' hr => by
          obtain ⟨b, rfl, hq⟩ := hr
          repeat (first | exact hq | exact wpAny_pure hq | exact wpAny_truthy_bool hq | (refine wpAny_bind (m := truthy (.bool _)) (wpAny_truthy_bool ?_)) | wp_step)) fun _ _ e => e)))
    | wp_step)
end
theorem op_ownNe (T : EqC X.prog X.w X.K X.mg X.base C k sp) (hr : Room (k + 1) X.A) : OpR X (compareOp .NotEq) (rOwn X.K C sp (!·)) := by
  intro pins s σ H x y v u Q I rx ry h
  obtain ⟨a, b, dx, dy, fs, gs, rfl, rfl, ha, hb, h⟩ := h
  cases rx
  cases ry
  obtain ⟨f, fd, ps, hs, hf, hbd, F⟩ := T.ex
  obtain ⟨mA, J, _⟩ := ins_get I.hok ha
  obtain ⟨mB, J', _⟩ := ins_get I.hok hb
  obtain ⟨od, J, _⟩ := J.look
  obtain ⟨od', J', _⟩ := J'.look
  have hk := I.kIn
  have one : wpAny (model X.prog X.w) X.A (tryCompare (.ref a) "__ne__" (.ref b)) (fun r s' => ∃ v, r = some v ∧ EP X pins σ Q v s') X.xe s := by
    unfold tryCompare
    refine wpAny_bind (ifBound_objNe hk J T.ne (wpAny_call (codeAny_call_builtin PySem.F.cmp_object.ne.plain PySem.F.cmpEntry_ne (PySem.W.check_slot PySem.F.cmpKind_ne PySem.F.cmpSplit_ne (J.type.andThen (PySem.W.looks_mroIn hk T.mo)) (PySem.F.cmpArgs_ne _ _) (entry_ne (A := X.A.in1) hr.in1.units0 hk J hs hf ?_)))))
    refine thn (run_at F hr.in1 rfl hbd I (us := [.ref a, .ref b]) (vs := [.ref a, .ref b]) (.cons rfl (.cons rfl .nil)) h) fun u s1 hu => ?_
    obtain ⟨v, H', I', rv, t, rfl, q⟩ := hu
    cases (show u = Value.bool t from rv)
    exact ⟨t, rfl, wpAny_pure ⟨_, rfl, .bl (!t), H', I', rfl, q⟩⟩
  show wpAny (model X.prog X.w) X.A (richCompare .NotEq (.ref a) (.ref b)) (EP X pins σ Q) X.xe s
  unfold richCompare
  simp only [oneThing_ref]
  refine wpAny_holding (wpAny_bind (wpAny_cRoomFor hr.units0 ?_))
  refine wpAny_bind (J.type.here (wpAny_bind (J'.type.here ?_)))
  split
  · rename_i q
    simp at q
  · refine wpAny_bind (wpAny_pure ?_)
    simp only [Bool.false_eq_true, if_false]
    refine wpAny_bind (wpAny_mono one (fun r s' z => ?_) fun _ _ e => e)
    obtain ⟨v, rfl, hq⟩ := z
    exact wpAny_pure hq
/-- x == y, x != y by the own __eq__ -/
def aOwn (C : Addr) (sp : ASp) (g : Bool → Bool) : AR2 := fun x y ρ Q => (∃ fs, dat x ρ = some (.obj C fs)) ∧ (∃ fs, dat y ρ = some (.obj C fs)) ∧ callA sp [x, y] noX ρ fun r ρ' => ∃ t, r = .v (.bl t) ∧ Q (.v (.bl (g t))) ρ'
theorem s_own {g : Bool → Bool} : Sim2 K (rOwn K C sp g) (aOwn C sp g) := by
  intro c τ S H σ ρ vx vy x y Q R s q k
  obtain ⟨⟨fs, h1⟩, ⟨gs, h2⟩, h3⟩ := q
  obtain ⟨r1, r2⟩ := two_dat s h1 h2
  simp only [Rep] at r1 r2
  obtain ⟨a, dx, ws, rfl, a1, _⟩ := r1
  obtain ⟨b, dy, us, rfl, b1, _⟩ := r2
  refine ⟨a, b, dx, dy, ws, us, rfl, rfl, a1, b1, ?_⟩
  have s2 : Stt K c S H σ ρ ([V.ref a, V.ref b].zip [x, y] ++ τ) := s.swap (.swap _ _ _)
  refine lift_mono (call_sim (W := fun _ _ _ _ => False) (EA := noX) xok_no rfl s2 h3) (fun v H' hv => ?_) fun _ _ _ h => h
  obtain ⟨S', ρ', r, s3, t, rfl, q⟩ := hv
  have rv := s3.data
  simp only [Rep] at rv
  exact ⟨t, rv, k _ _ (KE.sc s3.drop rfl q)⟩
end
end Vs

set_option Elab.async false
set_option linter.all false
set_option maxRecDepth 100000
set_option maxHeartbeats 1000000
/-! Vs: sorted, len of an own class, max and min of a list. -/
namespace Vs
open PySem PySem.Spec PyProof.Rows L2
theorem CallR.or {X : Cx} {f : Value} {r r' : List V → Hp → VK → Prop} (h : CallR X f r) (h' : CallR X f r') : CallR X f (fun xs H Q => r xs H Q ∨ r' xs H Q) := fun pins s σ H xs us Q I rx q =>
  q.elim (fun q => h pins s σ H xs us Q I rx q) fun q => h' pins s σ H xs us Q I rx q
/-! ### sorted -/
def srtD (ds : List D) : List D := ds.mergeSort (PySem.W.dataLe false pd)
def EachT (T : D → V → Prop) : List D → List V → Prop
  | [], vs => vs = []
  | d :: ds, vs => ∃ v r, vs = v :: r ∧ T d v ∧ EachT T ds r
theorem eachT_rep {K : Fg} {S : Hp} : ∀ {ds : List D} {vs : List V}, EachT (Rep K S) ds vs ↔ RepL K S ds vs
  | [], vs => by simp only [EachT, RepL]
  | d :: ds, vs => by
    simp only [EachT, RepL]
    constructor
    · rintro ⟨v, r, e, h1, h2⟩
      exact ⟨v, r, e, h1, eachT_rep.mp h2⟩
    · rintro ⟨v, r, e, h1, h2⟩
      exact ⟨v, r, e, h1, eachT_rep.mpr h2⟩
def rSortD (K : Fg) : List V → Hp → VK → Prop := fun xs H Q => ∃ (a : Addr) (vs : List V) (ds : List D) (T : D → V → Prop), xs = [.ref a] ∧ SqL K H a vs ∧ EachT T ds vs ∧ (∀ d v, T d v → Rep K H d v) ∧ (∀ d ∈ ds, PlD 20 d) ∧ PySem.W.AllAlike (ds.map pd) ∧ PySem.W.Sortable (ds.map pd) ∧
  ∀ vs' p, EachT T (srtD ds) vs' → H p = none → Q (.ref p) (upd H p (.lst vs'))
section
variable {X : Cx} {P : Pm} {K : Fg} {pos : Pos}
theorem cr_sortD (hu : X.A.units + 64 < cLine) : CallR X (.builtin "sorted") (rSortD X.K) := by
  intro pins s σ H xs us Q I r h
  obtain ⟨a, vs, ds, T, rfl, hs, ht, hT, hp, hal, hk, q⟩ := h
  obtain ⟨its, rv, hl, hz⟩ := I.list hs
  obtain ⟨u, rfl, ru⟩ := vals1 r
  obtain rfl : u = Value.ref a := ru
  have e1 : ∀ {ds : List D} {vs : List V} {its : List Value}, EachT T ds vs → Vals vs its → PySem.W.EachIs (fun u d => ∃ v, RelV v u ∧ T d v) its ds := by
    intro ds
    induction ds with
    | nil =>
      intro vs its h r
      simp only [EachT] at h
      subst h
      cases r
      exact .nil
    | cons d ds ih =>
      intro vs its h r
      simp only [EachT] at h
      obtain ⟨v, rr, rfl, h1, h2⟩ := h
      cases r with
      | cons ra rb => exact .cons ⟨v, ra, h1⟩ (ih h2 rb)
  have e2 : ∀ {ds : List D} {its : List Value}, (∀ d ∈ ds, PlD 20 d) → PySem.W.EachIs (fun u d => ∃ v, RelV v u ∧ T d v) its ds → PySem.W.EachIs (fun u d => ∃ as, Reads s.heap u (pd d) as) its ds := by
    intro ds
    induction ds with
    | nil => intro its _ h; cases h; exact .nil
    | cons d ds ih =>
      intro its hp h
      cases h with
      | cons h1 h2 =>
        obtain ⟨v, ra, rb⟩ := h1
        exact .cons (Dp.reads I _ v _ (rep_dp 20 d v (hp d (by simp)) (hT d v rb)) ra) (ih (fun x hx => hp x (by simp [hx])) h2)
  have e3 : ∀ {ds : List D} {out : List Value}, PySem.W.EachIs (fun u d => ∃ v, RelV v u ∧ T d v) out ds → ∃ vs', Vals vs' out ∧ EachT T ds vs' := by
    intro ds
    induction ds with
    | nil => intro out h; cases h; exact ⟨[], .nil, by simp only [EachT]⟩
    | cons d ds ih =>
      intro out h
      cases h with
      | cons h1 h2 =>
        obtain ⟨v, ra, rb⟩ := h1
        obtain ⟨vs', z1, z2⟩ := ih h2
        exact ⟨v :: vs', .cons ra z1, by simp only [EachT]; exact ⟨v, vs', rfl, rb, z2⟩⟩
  have hE := e1 ht rv
  have lds : ds.length = its.length := hE.length.symm
  have lvs := rv.length
  refine PySem.W.sorted_data (R := fun u d => ∃ v, RelV v u ∧ T d v) (enc := pd) hl.isList hE (e2 hp hE) hal hk (by omega) (fun d hd => ?_) fun out hlen ho => ?_
  · have := (pd_plain 20 d (hp d hd)).2
    omega
  · obtain ⟨vs', z1, z2⟩ := e3 ho
    obtain ⟨ep, he'⟩ := PyProof.Rows.sortedAll_at s.heap its out.toArray
    have hlo := z1.length
    exact ⟨.ref _, upd H (s.heap.objs.size + 1) (.lst vs'), I.laid (t' := s.toks) (fun _ _ => PyProof.Rows.sortedAll_old) (Nat.le_succ _) ⟨by omega, out, ep, z1, he'⟩, rfl, q _ _ z2 (I.hok.fresh (Nat.le_succ _))⟩
abbrev rSortX (K : Fg) : List V → Hp → VK → Prop := fun xs H Q => rSortD K xs H Q ∨ ∃ (a : Addr) (kvs : List (Key × V)) (ks : List Str), xs = [.ref a] ∧ Rd H a (.dK kvs) ∧ kvs.map (·.1) = ks.map Sum.inr ∧ ks.length < 64 ∧ ∀ ys p, ys.Perm ks → sortedS ys = true → H p = none → Q (.ref p) (upd H p (.lst (ys.map V.str)))
theorem cr_sortX (hc : X.calm = true) (hu : X.A.units + 64 < cLine) : CallR X (.builtin "sorted") (rSortX X.K) := CallR.or (cr_sortD hu) (call_sortedD hc)
def aSort : ARs := fun xs ρ Q => ∃ x d, xs = [x] ∧ dat x ρ = some d ∧ match d with
  | .lst ds => (∀ d ∈ ds, PlD 20 d) ∧ PySem.W.AllAlike (ds.map pd) ∧ PySem.W.Sortable (ds.map pd) ∧ Q (.lst (srtD ds)) ρ
  | .dic kvs => ∃ ks : List Str, kvs.map (·.1) = ks.map Sum.inr ∧ ks.length < 64 ∧ ∀ ys : List Str, ys.Perm ks → sortedS ys = true → Q (.lst (ys.map D.str)) ρ
  | _ => False
theorem repL_strs {S : Hp} : ∀ (ys : List Str), RepL K S (ys.map D.str) (ys.map V.str)
  | [] => by simp only [List.map_nil, RepL]
  | y :: ys => by
    simp only [List.map_cons, RepL, Rep]
    exact ⟨_, _, rfl, rfl, repL_strs ys⟩
theorem repK_fst {S : Hp} : ∀ {kvs : List (Key × D)} {ws : List (Key × V)}, RepK K S kvs ws → ws.map (·.1) = kvs.map (·.1)
  | [], ws, h => by simp only [RepK] at h; subst h; rfl
  | (k, d) :: kvs, ws, h => by
    simp only [RepK] at h
    obtain ⟨v, r, rfl, _, h2⟩ := h
    simp only [List.map_cons, repK_fst h2]
theorem s_sort : Sims K (rSortX K) aSort := by
  intro c τ S H σ ρ vs xs Q R hl s q k
  obtain ⟨x, d, rfl, h1, q⟩ := q
  obtain ⟨v, rfl, s1⟩ := one_arg hl s
  obtain ⟨y0, g0, r0, e0⟩ := s1.thing (List.mem_cons_self ..) h1
  cases d with
  | lst ds =>
    obtain ⟨p, vs, rfl, h3, h4⟩ := repA_lst r0 e0 s1.le
    obtain ⟨q1, q2, q3, q4⟩ := q
    refine .inl ⟨p, vs, ds, Rep K S, rfl, h3, eachT_rep.mpr h4, fun d v r => Rep.le s1.le d v r, q1, q2, q3, fun vs' p' hv hp => ?_⟩
    exact k _ _ ⟨S, ρ, _, s1.drop.newList hp (eachT_rep.mp hv), q4⟩
  | dic kvs =>
    obtain ⟨p, ws, rfl, h3, h4⟩ := repA_dic r0 e0 s1.le
    obtain ⟨ks, q1, q2, q3⟩ := q
    refine .inr ⟨p, ws, ks, rfl, h3, (repK_fst h4).trans q1, q2, fun ys p' hy1 hy2 hp => ?_⟩
    exact k _ _ ⟨S, ρ, _, s1.drop.newList hp (repL_strs ys), q3 ys hy1 hy2⟩
  | _ => cases q
/-! ### len of an own class -/
structure LenC (Pr : Program) (w : World) (K : Fg) (mg : Str → Option Value) (base : Heap) (C : Addr) (k : Nat) (sp : ASp) : Prop where
  ex : ∃ f fd ps, PySem.W.findIn K (.ref C) "__len__" = some (some (.ref f)) ∧ PySem.W.isFn K (.ref f) = true ∧ Binds K fd ps [] ∧ Fok Pr w K mg base k f fd ps sp
def rLenO (K : Fg) (C : Addr) (sp : ASp) : List V → Hp → VK → Prop := fun xs H Q => ∃ a dx fs, xs = [.ref a] ∧ H a = some (.ins C dx fs) ∧ lift K sp xs H (fun v H' => ∃ n : Int, v = .int n ∧ 0 ≤ n ∧ n < 2 ^ 63 ∧ Q (.int n) H') (fun _ _ _ => False)
theorem cr_lenO {C : Addr} {k : Nat} {sp : ASp} (T : LenC X.prog X.w X.K X.mg X.base C k sp) (hr : Room (k + 1) X.A) : CallR X (.builtin "len") (rLenO X.K C sp) := by
  intro pins s σ H xs us Q I r h
  obtain ⟨a, dx, fs, rfl, ha, h⟩ := h
  obtain ⟨u, rfl, ru⟩ := vals1 r
  obtain rfl : u = Value.ref a := ru
  obtain ⟨f, fd, ps, hs, hf, hbd, F⟩ := T.ex
  obtain ⟨mA, J, _⟩ := ins_get I.hok ha
  obtain ⟨od, J, _⟩ := J.look
  obtain ⟨m, hF⟩ := I.fr
  refine PySem.W.len_K hF I.ok.mod.kin J hs hf ?_
  refine thn (run_at F hr.in1 rfl hbd I (us := [.ref a]) (vs := [.ref a]) (.cons rfl .nil) h) fun u s1 hu => ?_
  obtain ⟨v, H', I', rv, n, rfl, n0, n1, q⟩ := hu
  obtain ⟨t, rfl⟩ := (show ∃ t, u = Value.int n t from rv)
  exact ⟨⟨n0, n1⟩, .int n, H', I'.tok _, ⟨_, rfl⟩, q⟩
def aLenO (C : Addr) (sp : ASp) : ARs := fun xs ρ Q => ∃ x, xs = [x] ∧ (∃ fs, dat x ρ = some (.obj C fs)) ∧ callA sp [x] noX ρ fun r ρ' => ∃ n : Int, r = .v (.int n) ∧ 0 ≤ n ∧ n < 2 ^ 63 ∧ Q (.v (.int n)) ρ'
theorem s_lenO {C : Addr} {sp : ASp} : Sims K (rLenO K C sp) (aLenO C sp) := by
  intro c τ S H σ ρ vs xs Q R hl s q k
  obtain ⟨x, rfl, ⟨fs, h1⟩, h3⟩ := q
  obtain ⟨v, rfl, s1⟩ := one_arg hl s
  have r1 := s1.dat (List.mem_cons_self ..) h1
  simp only [Rep] at r1
  obtain ⟨a, dx, ws, rfl, a1, _⟩ := r1
  refine ⟨a, dx, ws, rfl, a1, ?_⟩
  refine lift_mono (call_sim (W := fun _ _ _ _ => False) (EA := noX) xok_no rfl s h3) (fun v H' hv => ?_) fun _ _ _ h => h
  obtain ⟨S', ρ', r, s3, n, rfl, n0, n1, q⟩ := hv
  have rv := s3.data
  simp only [Rep] at rv
  exact ⟨n, rv, n0, n1, k _ _ (KE.sc s3.drop rfl q)⟩
/-! ### max, min of a list of numbers -/
def aMaxL : ARs := fun xs ρ Q => ∃ x, ∃ ns : List Int, xs = [x] ∧ dat x ρ = some (.lst (ns.map D.int)) ∧ 0 < ns.length ∧ ∀ m, m ∈ ns → (∀ y, y ∈ ns → y ≤ m) → Q (.v (.int m)) ρ
def aMinL : ARs := fun xs ρ Q => ∃ x, ∃ ns : List Int, xs = [x] ∧ dat x ρ = some (.lst (ns.map D.int)) ∧ 0 < ns.length ∧ ∀ m, m ∈ ns → (∀ y, y ∈ ns → m ≤ y) → Q (.v (.int m)) ρ
theorem repL_ints {S : Hp} : ∀ {ns : List Int} {vs : List V}, RepL K S (ns.map D.int) vs → vs = ns.map V.int
  | [], vs, h => by simpa only [List.map_nil, RepL] using h
  | n :: ns, vs, h => by
    simp only [List.map_cons, RepL, Rep] at h
    obtain ⟨v, r, rfl, rfl, h2⟩ := h
    rw [repL_ints h2]
    rfl
theorem s_maxL : Sims K (rMax K) aMaxL := by
  intro c τ S H σ ρ vs xs Q R hl s q k
  obtain ⟨x, ns, rfl, h1, h2, q⟩ := q
  obtain ⟨v, rfl, s1⟩ := one_arg hl s
  obtain ⟨y0, g0, r0, e0⟩ := s1.thing (List.mem_cons_self ..) h1
  obtain ⟨p, vs, rfl, h3, h4⟩ := repA_lst r0 e0 s1.le
  rw [repL_ints h4] at h3
  exact ⟨p, ns, rfl, h3, h2, fun m hm hy => k _ _ (KE.sc s1.drop rfl (q m hm hy))⟩
theorem s_minL : Sims K (rMin K) aMinL := by
  intro c τ S H σ ρ vs xs Q R hl s q k
  obtain ⟨x, ns, rfl, h1, h2, q⟩ := q
  obtain ⟨v, rfl, s1⟩ := one_arg hl s
  obtain ⟨y0, g0, r0, e0⟩ := s1.thing (List.mem_cons_self ..) h1
  obtain ⟨p, vs, rfl, h3, h4⟩ := repA_lst r0 e0 s1.le
  rw [repL_ints h4] at h3
  exact ⟨p, ns, rfl, h3, h2, fun m hm hy => k _ _ (KE.sc s1.drop rfl (q m hm hy))⟩
end
end Vs

set_option Elab.async false
set_option linter.all false
set_option maxRecDepth 100000
set_option maxHeartbeats 1000000
/-! Vs: the pairs of a dict. -/
namespace Vs
open PySem PySem.Spec PyProof.Rows L2
def pairD (p : Key × D) : D := .tup [keyOf p.1, p.2]
section
variable {X : Cx} {P : Pm} {K : Fg} {pos : Pos}
theorem keyOf_rep {S : Hp} (k : Key) : Rep K S (keyOf k) (kV k) := by
  cases k <;> simp only [keyOf, kV, Rep]
theorem RepK.get0 {S : Hp} : ∀ {kvs : List (Key × D)} {ws : List (Key × V)} {i : Nat} {k : Key} {v : V}, RepK K S kvs ws → ws[i]? = some (k, v) → ∃ d, kvs[i]? = some (k, d) ∧ Rep K S d v
  | [], ws, i, k, v, h, e => by
    simp only [RepK] at h
    subst h
    simp at e
  | (k', d) :: kvs, ws, i, k, v, h, e => by
    simp only [RepK] at h
    obtain ⟨u, r, rfl, h1, h2⟩ := h
    cases i with
    | zero =>
      have e' : (k', u) = (k, v) := by simpa using e
      cases e'
      exact ⟨d, by simp, h1⟩
    | succ i =>
      obtain ⟨d', a1, a2⟩ := RepK.get0 h2 (i := i) (by simpa using e)
      exact ⟨d', by simpa using a1, a2⟩
/-- the pairs of a locked dict -/
theorem itOk_items {c : Ctx} {d : Addr} {o : Obj} {kvs : List (Key × D)} {ws : List (Key × V)} (hR : c.R d = some (.frz o (.dK ws))) (hr : RepK K c.S0 kvs ws) : ItOk K c (Iti d o ws) (kvs.map pairD) fun _ => True := fun S H σ ρ τ s _ => by
  have hd : H d = some (.frz o (.dK ws)) := s.r d _ hR
  have hlen := hr.len
  refine ⟨fun i e he => ?_, fun i hi => ⟨hd, by rw [List.length_map] at hi; omega⟩⟩
  rw [List.getElem?_map] at he
  cases ek : kvs[i]? with
  | none => rw [ek] at he; cases he
  | some p =>
    rw [ek] at he
    have hi : i < kvs.length := lt_of_get ek
    refine ⟨⟨hd, by omega⟩, fun v H' ⟨T, k, u, h1, h2, h3, h4⟩ => ?_⟩
    subst h2 h4
    obtain ⟨d', a1, a2⟩ := hr.get0 h1
    rw [ek] at a1
    cases a1
    have e1 := (Option.some.inj he).symm
    subst e1
    have f1 := (s.fresh h3).1
    refine ⟨_, s.share (o := .tup [kV k, u]) (d := pairD (k, d')) h3 ?_⟩
    simp only [pairD, Rep]
    refine ⟨T, [kV k, u], rfl, SqT.of upd_same, ?_⟩
    simp only [RepL]
    exact ⟨_, _, rfl, keyOf_rep k, _, _, rfl, Rep.le (Le.of_same (fun a o e => Same.up f1 a o (s.up a o e))) d' u a2, rfl⟩
/-! ### a dict just made -/
def iItemsX (td : TE) : TI := fun σ H R => td σ H fun x H1 => ∃ d kvs, x = .ref d ∧ H1 d = some (.dK kvs) ∧ ∀ o, R (Iti d o kvs) (upd H1 d (.frz o (.dK kvs)))
theorem pi_itemsX {e : Expr} {td : TE} {apos cpos tpos : Pos} {elts : List Expr} {kk : Nat} (he : PE X e td) (hbase : attributeBase e "items" X.env (eval e X.env) = eval e X.env := by rfl) (hline : (apos.endLine == cpos.line) = true := by rfl) :
    PI X (.Tuple elts kk tpos) (.Call (.Attribute e "items" apos) [] [] cpos) (iItemsX td) := by
  refine ⟨fun pins s σ H R I h => ?_⟩
  refine wpAny_Call_method (T := "dict") (id := "dict.items") hbase rfl hline F.plainAttrs_dict F.slot_dict_items F.type_dict_items (thn (he.run pins s σ H _ I h) fun u s1 ⟨x, H1, I0, rx, d, kvs, ex, hd0, q0⟩ => ?_)
  subst ex
  obtain rfl : u = Value.ref d := rx
  obtain ⟨o, I1⟩ := I0.lock hd0 trivial
  have hd : (upd H1 d (.frz o (.dK kvs))) d = some (.frz o (.dK kvs)) := upd_same
  have q := q0 o
  obtain ⟨hs, hgd, hx, es, ep, vs, hdt, hsz, kv, hm⟩ := I1.frzK hd
  have hl : kvs.length = vs.length := Paired.length kv
  refine ⟨hm.dictOf.typeIs, hm.dictOf.mapOf.noDict, ?_⟩
  have I2 : Inv X pins σ (upd H1 d (.frz o (.dK kvs))) { s1 with heap := s1.heap.push { cls := .type "dict_items", data := .fields #[.ref d] } } := I1.kept (t' := s1.toks) fun b ob q => Heap.get?_push_of_some _ q
  have fin : wpAny (model X.prog X.w) X.A (pyIter (.ref s1.heap.objs.size)) (PIE X pins σ (.Tuple elts kk tpos) R) X.xe { s1 with heap := s1.heap.push { cls := .type "dict_items", data := .fields #[.ref d] } } := by
    refine wpAny_pyIter_items (d := d) (knd := mixKind X.prog X.w) ⟨_, Heap.get?_push_size _ rfl, rfl, rfl⟩ (hm.push _) (pi_one (tk := s1.toks) I2 _ (turn_items _ hdt) ⟨.none, .none, ?_⟩ q)
    rw [hl]
    exact Heap.get?_push_size _ rfl
  show wpAny _ _ (callWith cpos (.builtin "dict.items") [.ref d] [] []) _ X.xe s1
  exact method_meetsIn F.slot_dict_items F.entry_dict_items rfl (PySem.evalArgs_none ⟨rfl, hm.dictOf.typeIs, F.args_dict_items_1 _, _, meets_dict_items (mixKind X.prog X.w) d hs, ⟨vs, hm.dictOf⟩, fin⟩)
def aiItemsT (ae : AE) : AI := fun EA ρ Q => ae EA ρ fun x ρ1 => ∃ kvs, x = .dic kvs ∧ Q (kvs.map pairD) (fun _ => True) ρ1
theorem Stt.lockTop {c : Ctx} {S H : Hp} {σ : L2.St} {ρ : AEnv} {τ : List (V × A)} {d : Addr} {kvs : List (Key × D)} (s : Stt K c S H σ ρ ((.ref d, .dic kvs) :: τ)) : ∃ ws, H d = some (.dK ws) ∧ RepK K S kvs ws ∧ ∀ o, Stt K ⟨upd c.R d (.frz o (.dK ws)), S, c.os⟩ S (upd H d (.frz o (.dK ws))) σ ρ τ ∧ Reb K c ⟨upd c.R d (.frz o (.dK ws)), S, c.os⟩ := by
  obtain ⟨g, h, r1, r2, nd, h3⟩ := s.top rfl
  obtain ⟨d', ws, e1, hd, rk, eg⟩ := r1.dic_inv
  cases e1
  subst eg
  have np : d ∉ h := fun z => (List.nodup_append.mp nd).2.2 d (List.mem_cons_self ..) d z rfl
  have Sd : S d = none := (h3 d (by simp)).1
  have Rd' : c.R d = none := (h3 d (by simp)).2
  refine ⟨ws, hd, rk, fun o => ⟨⟨⟨h, r2.keep (Same.refl S) fun a ha => upd_ne (fun z => np (z ▸ ha)), (List.nodup_append.mp nd).2.1, fun a ha => ⟨(h3 a (List.mem_append_right _ ha)).1, ?_⟩⟩, s.env, fun v' i m => s.loc v' i (List.mem_cons_of_mem _ m), s.le.up Sd, fun a u e => ?_, fun a ha => rfl, Same.refl S, s.os⟩, rfl, fun {S2 H2 σ2 ρ2 τ2} t => ?_⟩⟩
  · have hne : a ≠ d := fun z => np (z ▸ ha)
    show upd c.R d _ a = none
    rw [upd_ne hne]
    exact (h3 a (List.mem_append_right _ ha)).2
  · by_cases q : a = d
    · subst q
      have e' : upd c.R a (.frz o (.dK ws)) a = some u := e
      rw [upd_same] at e'
      rw [upd_same]
      exact e'
    · have e' : upd c.R d (.frz o (.dK ws)) a = some u := e
      rw [upd_ne q] at e'
      rw [upd_ne q]
      exact s.r a u e'
  · refine ⟨?_, t.env, t.loc, t.le, fun a u e => t.r a u ?_, fun a ha => ?_, fun a u e => t.up a u (s.up a u e), t.os⟩
    · obtain ⟨fp, b1, b2, b3⟩ := t.own
      refine ⟨fp, b1, b2, fun a ha => ⟨(b3 a ha).1, ?_⟩⟩
      have := (b3 a ha).2
      by_cases q : a = d
      · rw [q]; exact Rd'
      · have e' : upd c.R d (.frz o (.dK ws)) a = none := this
        rw [upd_ne q] at e'
        exact e'
    · show upd c.R d (.frz o (.dK ws)) a = some u
      rw [upd_ne (ne_of_none e Rd')]
      exact e
    · have nd' : a ≠ d := fun z => ha (z ▸ Rd')
      have h1 : S2 a = S a := t.new a (by show upd c.R d _ a ≠ none; rw [upd_ne nd']; exact ha)
      exact h1.trans (s.new a ha)
theorem qi_itemsT {e : Expr} {ae : AE} {apos cpos tpos : Pos} {elts : List Expr} {kk : Nat} (he : QE X P e ae) (hbase : attributeBase e "items" X.env (eval e X.env) = eval e X.env := by rfl) (hline : (apos.endLine == cpos.line) = true := by rfl) :
    QI X P (.Tuple elts kk tpos) (.Call (.Attribute e "items" apos) [] [] cpos) (aiItemsT ae) := by
  obtain ⟨t, p, s⟩ := he.ex
  refine ⟨_, pi_itemsX p hbase hline, fun c EA ho hw τ S H σ ρ Q R st q k => s c EA ho hw τ S H σ ρ _ _ st q fun v H1 ⟨S1, ρ1, x, s1, kvs, ex, q1⟩ => ?_⟩
  subst ex
  obtain ⟨g, h, r1, _, _, _⟩ := s1.top rfl
  obtain ⟨d, ws0, rfl, _, _, _⟩ := r1.dic_inv
  obtain ⟨ws, hd, rk, lk⟩ := s1.lockTop
  refine ⟨d, ws, rfl, hd, fun o => ?_⟩
  obtain ⟨s2, rb⟩ := lk o
  exact k _ _ _ S1 ρ1 _ _ rb s2 (itOk_items upd_same rk) q1
/-! ### for .. in name.items(), the name's dict shared -/
def asForItems (i : Nat) (ag : AG) (ab : AS) : AS := fun DA ρ => ∃ kvs, ρ[i]? = some (some (.v (.dic kvs))) ∧ forA (fun _ => True) ag ab { DA with ex := noX } (kvs.map pairD) ρ
theorem ps_or {st : Stmt} {t u : TS} (h : PS X st t) (h2 : PS X st u) : PS X st (fun D σ H => t D σ H ∨ u D σ H) := ⟨fun pins s σ H D I h' => h'.elim (fun z => h.run pins s σ H D I z) fun z => h2.run pins s σ H D I z⟩
/-- the loop over a locked dict that a context keeps -/
theorem for_items {c : Ctx} {S1 H1 : Hp} {σ : L2.St} {ρ1 : AEnv} {d : Addr} {o : Obj} {kvs : List (Key × D)} {ws : List (Key × V)} {g : TG} {tb : TS} {ag : AG} {ab : AS} {vs : List Nat} {D : Ends} {DA : AEnds} (ho : OsIn K c P.O) (hR : c.R d = some (.frz o (.dK ws))) (hr : RepK K c.S0 kvs ws) (sg : SimG K P g ag vs) (sb : SimS K P tb ab) (hw : XOk K c P.W DA.ex) (l : Link K c D DA)
    (s1 : Stt K c S1 H1 σ ρ1 []) (q1 : forA (fun _ => True) ag ab DA (kvs.map pairD) ρ1) : ∃ W : Nat → Nat → L2.St → Hp → Prop, (∃ m, W 0 m σ H1) ∧ ∀ i m σ H, W i m σ H →
  ((Iti d o ws).stop i H ∧ D.nx σ H) ∨ ((Iti d o ws).go i H ∧ ∃ N : L2.St → Hp → Prop, (∀ σ' H', N σ' H' → ∃ m', m' < m ∧ W (i + 1) m' σ' H') ∧ ∀ x H', (Iti d o ws).yld i H x H' → g x σ H' fun σ2 H2 => tb { D with nx := N, ct := N, bk := D.nx } σ2 H2) := by
  have hJ := itOk_items hR hr
  refine ⟨fun i m σ H => ∃ S ρ, Stt K c S H σ ρ [] ∧ i + m = (kvs.map pairD).length ∧ forA (fun _ => True) ag ab DA ((kvs.map pairD).drop i) ρ, ⟨(kvs.map pairD).length, S1, ρ1, s1, by omega, by simpa using q1⟩, ?_⟩
  rintro i m σ2 H2 ⟨S2, ρ2, s2, hm, q2⟩
  by_cases hlt : i < (kvs.map pairD).length
  · have e : (kvs.map pairD).drop i = (kvs.map pairD)[i] :: (kvs.map pairD).drop (i + 1) := List.drop_eq_getElem_cons hlt
    rw [e] at q2
    obtain ⟨hG, q2⟩ := q2
    obtain ⟨h1, h2⟩ := (hJ S2 H2 σ2 ρ2 [] s2 hG).1 i _ (List.getElem?_eq_getElem hlt)
    refine .inr ⟨h1, fun σ' H' => ∃ S ρ, Stt K c S H' σ' ρ [] ∧ forA (fun _ => True) ag ab DA ((kvs.map pairD).drop (i + 1)) ρ, fun σ' H' ⟨S', ρ', a1, a2⟩ => ⟨m - 1, by omega, S', ρ', a1, by omega, a2⟩, fun x H' hy => ?_⟩
    obtain ⟨S3, s3⟩ := h2 x H' hy
    refine sg c ho [] S3 H' σ2 ρ2 x _ _ _ s3 (fun _ _ m => by simp at m) q2 fun σ' ρ' s4 _ q4 => ?_
    exact sb c { D with nx := fun σ' H' => ∃ S ρ, Stt K c S H' σ' ρ [] ∧ forA (fun _ => True) ag ab DA ((kvs.map pairD).drop (i + 1)) ρ, ct := fun σ' H' => ∃ S ρ, Stt K c S H' σ' ρ [] ∧ forA (fun _ => True) ag ab DA ((kvs.map pairD).drop (i + 1)) ρ, bk := D.nx } { DA with nx := forA (fun _ => True) ag ab DA ((kvs.map pairD).drop (i + 1)), ct := forA (fun _ => True) ag ab DA ((kvs.map pairD).drop (i + 1)), bk := DA.nx } ho hw
      ⟨fun S H σ ρ a b => ⟨S, ρ, a, b⟩, l.rt, l.nx, fun S H σ ρ a b => ⟨S, ρ, a, b⟩⟩ S3 H' σ' ρ' s4 q4
  · have e : (kvs.map pairD).drop i = [] := List.drop_eq_nil_of_le (by omega)
    rw [e] at q2
    exact .inl ⟨(hJ S2 H2 σ2 ρ2 [] s2 q2.1).2 i (by omega), l.nx S2 H2 σ2 ρ2 s2 q2.2⟩
theorem qs_forItems (i : Nat) {x : Str} {elts : List Expr} {kk : Nat} {tpos np apos cpos : Pos} {body : List Stmt} {ag : AG} {ab : AS} {vs : List Nat} (hp : PassesOwn (model X.prog X.w) X.A X.env X.xe) (hc : X.calm = true) (hg : QG X P (.Tuple elts kk tpos) ag vs) (hb : QSs X P body ab)
    (hN : X.N[i]? = some x := by rfl) (hv : Vis X.env.scope x := by first | exact Or.inl rfl | exact Or.inr (Or.inl rfl) | exact Or.inr (Or.inr rfl)) (hd : (x == ("__debug__" : Str)) = false := by decide) (hcd : (x == ("__classdict__" : Str)) = false := by decide)
    (hbase : attributeBase (.Name x np) "items" X.env (eval (.Name x np) X.env) = eval (.Name x np) X.env := by rfl) (hline : (apos.endLine == cpos.line) = true := by rfl) (hs : ∀ y, foldedSetIterable (.Call (.Attribute (.Name x np) "items" apos) [] [] cpos) X.env y = pure y := by intro _; rfl) :
    QS X P (.For (.Tuple elts kk tpos) (.Call (.Attribute (.Name x np) "items" apos) [] [] cpos) body [] pos) (asForItems i ag ab) := by
  obtain ⟨g, pg, sg⟩ := hg.ex
  obtain ⟨tb, pb, sb⟩ := hb.ex
  have pf := ps_for (pos := pos) hp hc (pi_items (elts := elts) (kk := kk) (tpos := tpos) (pe_var hN hv hd hcd) hbase hline) pg pb hs
  refine ⟨_, ps_or (ps_lock pf) pf, fun c D DA ho hw l S H σ ρ st ⟨kvs, hi, q⟩ => ?_⟩
  obtain ⟨v, hv', rv⟩ := st.slot hi
  simp only [Rep] at rv
  obtain ⟨d, ws, rfl, hrd, rk⟩ := rv
  have xno : ∀ {c2 : Ctx}, XOk X.K c2 P.W noX := fun {c2} _ _ _ _ _ _ _ _ _ h => h.elim
  have Sd : S d ≠ none := by
    rcases hrd with h | ⟨o, h⟩ <;> rw [h] <;> simp
  have hcase : (∃ o, H d = some (.frz o (.dK ws))) ∨ (S d = some (.dK ws) ∧ H d = some (.dK ws)) := by
    rcases hrd with h | ⟨o, h⟩
    · rcases st.le d _ h with z | ⟨ob, w', e1, z⟩
      · exact .inr ⟨h, z⟩
      · cases e1
        exact .inl ⟨ob, z⟩
    · rcases st.le d _ h with z | ⟨ob, w', e1, z⟩
      · exact .inl ⟨o, z⟩
      · cases e1
  obtain ⟨fp, f1, f2, f3⟩ := st.own
  have nfp : ∀ a ∈ fp, a ≠ d := fun a ha z => Sd (z ▸ (f3 a ha).1)
  rcases hcase with ⟨o, hH⟩ | ⟨hS, hH⟩
  · refine .inr ⟨.ref d, hv', d, o, ws, rfl, hH, ?_⟩
    have s2 : Stt X.K ⟨upd c.R d (.frz o (.dK ws)), S, c.os⟩ S H σ ρ [] := by
      refine ⟨⟨fp, f1, f2, fun a ha => ⟨(f3 a ha).1, ?_⟩⟩, st.env, st.loc, st.le, fun a u e => ?_, fun _ _ => rfl, Same.refl S, st.os⟩
      · show upd c.R d _ a = none
        rw [upd_ne (nfp a ha)]
        exact (f3 a ha).2
      · have e' : upd c.R d (.frz o (.dK ws)) a = some u := e
        by_cases q : a = d
        · rw [q, upd_same] at e'
          rw [q, hH]
          exact e'
        · rw [upd_ne q] at e'
          exact st.r a u e'
    have back : ∀ {S2 H2 : Hp} {σ2 : L2.St} {ρ2 : AEnv} {τ2 : List (V × A)}, Stt X.K ⟨upd c.R d (.frz o (.dK ws)), S, c.os⟩ S2 H2 σ2 ρ2 τ2 → Stt X.K c S2 H2 σ2 ρ2 τ2 := fun {S2 H2 σ2 ρ2 τ2} t => by
      refine ⟨?_, t.env, t.loc, t.le, fun a u e => t.r a u ?_, fun a ha => ?_, fun a u e => t.up a u (st.up a u e), t.os⟩
      · obtain ⟨gp, b1, b2, b3⟩ := t.own
        refine ⟨gp, b1, b2, fun a ha => ⟨(b3 a ha).1, ?_⟩⟩
        have e' : upd c.R d (.frz o (.dK ws)) a = none := (b3 a ha).2
        by_cases q : a = d
        · rw [q, upd_same] at e'; cases e'
        · rw [upd_ne q] at e'; exact e'
      · show upd c.R d (.frz o (.dK ws)) a = some u
        by_cases q : a = d
        · subst q
          have := st.r a u e
          rw [hH] at this
          rw [upd_same]; exact this
        · rw [upd_ne q]; exact e
      · have h1 : S2 a = S a := t.new a (by
          show upd c.R d (.frz o (.dK ws)) a ≠ none
          by_cases q : a = d
          · rw [q, upd_same]; simp
          · rw [upd_ne q]; exact ha)
        exact h1.trans (st.new a ha)
    exact for_items (c := ⟨upd c.R d (.frz o (.dK ws)), S, c.os⟩) (DA := { DA with ex := noX }) ⟨ho.1, ho.2.1, fun _ _ _ _ _ z => ho.2.2 _ _ _ _ _ (back z)⟩ upd_same rk sg sb xno ⟨fun S H σ ρ a => l.nx S H σ ρ (back a), fun S H σ ρ v x a => l.rt S H σ ρ v x (back a), fun S H σ ρ a => l.bk S H σ ρ (back a), fun S H σ ρ a => l.ct S H σ ρ (back a)⟩ s2 q
  · refine .inl ⟨d, .dK ws, hH, trivial, fun od => ⟨.ref d, hv', d, od, ws, rfl, upd_same, ?_⟩⟩
    have s2 : Stt X.K ⟨upd c.R d (.frz od (.dK ws)), S, c.os⟩ S (upd H d (.frz od (.dK ws))) σ ρ [] := by
      refine ⟨⟨fp, f1.keep (Same.refl S) fun a ha => upd_ne (nfp a ha), f2, fun a ha => ⟨(f3 a ha).1, ?_⟩⟩, st.env, st.loc, fun a u e => ?_, fun a u e => ?_, fun _ _ => rfl, Same.refl S, st.os⟩
      · show upd c.R d _ a = none
        rw [upd_ne (nfp a ha)]
        exact (f3 a ha).2
      · by_cases q : a = d
        · rw [q, hS] at e
          cases e
          exact .inr ⟨od, ws, rfl, by rw [q]; exact upd_same⟩
        · rw [upd_ne q]
          exact st.le a u e
      · have e' : upd c.R d (.frz od (.dK ws)) a = some u := e
        by_cases q : a = d
        · rw [q, upd_same] at e' ⊢
          exact e'
        · rw [upd_ne q] at e' ⊢
          exact st.r a u e'
    have back : ∀ {S2 H2 : Hp} {σ2 : L2.St} {ρ2 : AEnv} {τ2 : List (V × A)}, Stt X.K ⟨upd c.R d (.frz od (.dK ws)), S, c.os⟩ S2 H2 σ2 ρ2 τ2 → H2 d = some (.frz od (.dK ws)) ∧ Stt X.K c S2 (upd H2 d (.dK ws)) σ2 ρ2 τ2 := fun {S2 H2 σ2 ρ2 τ2} t => by
      have c2d : (⟨upd c.R d (.frz od (.dK ws)), S, c.os⟩ : Ctx).R d = some (.frz od (.dK ws)) := upd_same
      have s2d : S2 d = S d := t.new d (by rw [c2d]; simp)
      refine ⟨t.r d _ c2d, ?_, t.env, t.loc, fun a u e => ?_, fun a u e => ?_, fun a ha => ?_, fun a u e => t.up a u (st.up a u e), t.os⟩
      · obtain ⟨gp, b1, b2, b3⟩ := t.own
        have ngp : ∀ a ∈ gp, a ≠ d := fun a ha z => Sd (by rw [← s2d, ← z]; exact (b3 a ha).1)
        refine ⟨gp, b1.keep (Same.refl S2) fun a ha => upd_ne (ngp a ha), b2, fun a ha => ⟨(b3 a ha).1, ?_⟩⟩
        have e' : upd c.R d (.frz od (.dK ws)) a = none := (b3 a ha).2
        rw [upd_ne (ngp a ha)] at e'
        exact e'
      · by_cases q : a = d
        · rw [q, s2d, hS] at e
          cases e
          exact .inl (by rw [q]; exact upd_same)
        · rw [upd_ne q]
          exact t.le a u e
      · by_cases q : a = d
        · subst q
          have := st.r a u e
          rw [hH] at this
          rw [upd_same]
          exact this
        · rw [upd_ne q]
          exact t.r a u (by show upd c.R d _ a = some u; rw [upd_ne q]; exact e)
      · have h1 : S2 a = S a := t.new a (by
          show upd c.R d (.frz od (.dK ws)) a ≠ none
          by_cases q : a = d
          · rw [q, upd_same]; simp
          · rw [upd_ne q]; exact ha)
        exact h1.trans (st.new a ha)
    exact for_items (c := ⟨upd c.R d (.frz od (.dK ws)), S, c.os⟩) (DA := { DA with ex := noX }) ⟨ho.1, ho.2.1, fun _ _ _ _ _ z => P.O.un _ _ _ _ _ _ (back z).1 (ho.2.2 _ _ _ _ _ (back z).2)⟩ upd_same rk sg sb xno ⟨fun S H σ ρ a b => ⟨(back a).1, l.nx S _ σ ρ (back a).2 b⟩, fun S H σ ρ v x a b e => ⟨(back a).1, l.rt S _ σ ρ v x (back a).2 b e⟩, fun S H σ ρ a b => ⟨(back a).1, l.bk S _ σ ρ (back a).2 b⟩, fun S H σ ρ a b => ⟨(back a).1, l.ct S _ σ ρ (back a).2 b⟩⟩ s2 q
end
end Vs

set_option Elab.async false
set_option linter.all false
set_option maxRecDepth 100000
set_option maxHeartbeats 1000000
/-! Vs: enumerate of a list or a tuple. -/
namespace Vs
open PySem PySem.Spec PyProof.Rows L2
theorem meets_enum1 {v : Value} {o : Obj} {H : Heap → Prop} (B : Begins v o H) :
    Meets (Builtin.«enumerate.__new__» ⟨[.type "enumerate", v], []⟩) (fun _ R s => H s.heap ∧
      R (.ok (.ret (.ref (s.heap.push o).objs.size))) { s with heap := (s.heap.push o).push { cls := .type "enumerate", data := .fields #[.none, .bool false, .ref s.heap.objs.size, rawInt 0, .none, .none] } }) :=
  .of_wp fun prog w A R s h => by
    obtain ⟨hp, g, d, tk, os⟩ := s; obtain ⟨h1, h⟩ := h
    have hsub := sub_enumerate
    have q1 : ∀ {A' : Around} {E : Value → Shared → Prop} {Q : Value → Shared → Prop}, Q (.ref hp.objs.size) ⟨hp.push o, g, d, tk, os⟩ → wpAny (model prog w) A' (pyIter v) Q E ⟨hp, g, d, tk, os⟩ :=
      fun q => B.iter prog w _ _ ⟨hp, g, d, tk, os⟩ _ h1 q
    wp_walk using q1
    refine wpAny_stack_any fun st => wpAny_pure ?_
    split
    · rename_i c _ _ _ _ _
      cases (c == Value.type "enumerate")
      · wp_walk using q1
        exact ⟨_, rfl, h⟩
      · wp_walk using q1
        exact ⟨_, rfl, h⟩
    · wp_walk using q1
      exact ⟨_, rfl, h⟩
theorem enum_begins1 {prog : Program} {w : World} {A : Around} {E : Value → Shared → Prop} {s : Shared} {v : Value} {o : Obj} {H : Heap → Prop} {Q : Value → Shared → Prop} (B : Begins v o H) (h1 : H s.heap)
    (h : ∀ h', IsEnum h' (s.heap.objs.size + 1) s.heap.objs.size 0 .none → h'.get? s.heap.objs.size = some o → h'.objs.size = s.heap.objs.size + 2 →
      (∀ b o, s.heap.get? b = some o → h'.get? b = some o) → Q (.ref (s.heap.objs.size + 1)) { s with heap := h' }) :
    wpAny (model prog w) A (call (.type "enumerate") [v]) Q E s := by
  refine callType_new PySem.F.called_enumerate (by decide) (PySem.F.typeCall_enumerate_1 _) (PySem.F.newCall_enumerate_1 _) (fun obj => PySem.F.args_object_init_2 obj _) PySem.F.entry_enumerate_new (meets_enum1 B) ⟨h1, ?_⟩
  have hz : (s.heap.push o).objs.size = s.heap.objs.size + 1 := Heap.size_push ..
  show _ ∧ _
  rw [hz]
  have he : IsEnum ((s.heap.push o).push { cls := .type "enumerate", data := .fields #[.none, .bool false, .ref s.heap.objs.size, rawInt 0, .none, .none] }) (s.heap.objs.size + 1) s.heap.objs.size 0 .none := by
    have := Heap.get?_push_size (s.heap.push o) (o := { cls := .type "enumerate", data := .fields #[.none, .bool false, .ref s.heap.objs.size, rawInt 0, .none, .none] }) rfl
    rw [hz] at this; exact this
  refine ⟨⟨_, he, rfl⟩, h _ he (Heap.get?_push_of_some _ (Heap.get?_push_size _ B.free)) (by rw [Heap.size_push, hz]) fun b o x => Heap.get?_push_of_some _ (Heap.get?_push_of_some _ x)⟩
/-- the tuple at a, each item in a new pair -/
def IteT (K : Fg) (a : Addr) : It :=
  ⟨fun i H => ∃ (xs : List V) (x : V), SqT K H a xs ∧ xs[i]? = some x, fun i H v H' => ∃ T x, v = .ref T ∧ H T = none ∧ H' = upd H T (.tup [.int (i : Nat), x]) ∧ ∀ xs, SqT K H a xs → xs[i]? = some x, fun i H => ∃ xs : List V, SqT K H a xs ∧ xs.length ≤ i⟩
theorem turn_enumT {P : Program} {w : World} {K : Fg} {elts : List Expr} {kk : Nat} {tpos : Pos} (a e it : Addr) (hae : a ≠ e) (hai : a ≠ it) :
    Turn P w K (.Tuple elts kk tpos) (IteT K a) [e, it] e (fun i h => (∃ old, IsEnum h e it ((i : Nat) : Int) old) ∧ h.IsTupleIter it a i ∧ e ≠ it) where
  mem := by simp
  obj := fun i h st b hb => by
    obtain ⟨⟨old, he⟩, ⟨o, ho, hc, hd⟩, _⟩ := st
    have e' : b = e ∨ b = it := by simpa using hb
    rcases e' with z | z
    · rw [z]; exact ⟨_, he, fun v q => nomatch q⟩
    · rw [z]; exact ⟨o, ho, fun v q => by rw [hd] at q; cases q⟩
  keep := fun i h h' st k => let ⟨⟨old, he⟩, hi, hne⟩ := st; ⟨⟨old, k e (by simp) _ he⟩, hi.at fun o q => k it (by simp) o q, hne⟩
  item := by
    intro X hP hw hK hc i pins s σ H E I hf st hg
    subst hP hw hK
    obtain ⟨⟨old, he⟩, hit, hne⟩ := st
    obtain ⟨xs, x, hq, hx⟩ := hg
    obtain ⟨its, rv, p, hz⟩ := I.tuple hq
    obtain ⟨u, hu, ru⟩ := rv.get hx
    have hel : e < s.heap.objs.size := Heap.lt_size he
    have hil : it < s.heap.objs.size := by obtain ⟨_, q, _⟩ := hit; exact Heap.lt_size q
    have hlen := rv.length
    have hi : i < its.toArray.size := by
      have := lt_of_get hx
      rw [List.size_toArray]; omega
    refine wpAny_pyNext_enum_itemD (Draws.tuple (A := X.A.in1) (show X.A.in1.handled = none from I.ok.hd hc) it a hai its.toArray) he ⟨hit, show s.heap.IsTuple a its.toArray from p⟩ hi hne (by simp only [List.mem_cons, List.not_mem_nil, or_false, not_or]; exact ⟨hne, hae.symm⟩) fun y h' tk hy ho hst' hT hsz hk => ?_
    have ey : y = u := by
      have h1 : its.toArray[i]? = some u := by simpa using hu
      rw [h1] at hy
      exact (Option.some.inj hy).symm
    subst ey
    refine ⟨_, rfl, wpAny_letOwnedTupleGo_enum (s := { s with heap := h', toks := tk + 1 }) ho fun h'' he' sb => ?_⟩
    have hT2 : h''.get? s.heap.objs.size = some { cls := .type "tuple", data := .seq #[.int i tk, y] } := (sb.2 _ (Nat.ne_of_gt hel)).trans hT
    have new : ObjOk X.prog X.w (upd H s.heap.objs.size (.tup [.int (i : Nat), x])) h'' s.heap.objs.size (.tup [.int (i : Nat), x]) :=
      ⟨by show 2 ≤ sizeLine; decide, [.int i tk, y], .cons ⟨_, rfl⟩ (.cons ru .nil), ⟨_, hT2, rfl, _, rfl⟩⟩
    have I1 : Inv X pins σ (upd H s.heap.objs.size (.tup [.int (i : Nat), x])) { s with heap := h'', toks := tk + 1 } :=
      I.turnedNew (ch := [e, it]) (fun b ob hb q => (sb.2 b (fun z => hb (by simp [z]))).trans (hk b ob (fun z => hb (by simp [z])) (fun z => hb (by simp [z])) q)) hf (Nat.le_refl _) new
    refine ⟨.ref s.heap.objs.size, _, I1, rfl, ⟨_, x, rfl, I.hok.fresh (Nat.le_refl _), rfl, fun ys hy => by rw [I.tuple_inj hy hq]; exact hx⟩, ⟨⟨y, ?_⟩, hst'.1.at fun o q => (sb.2 it (Ne.symm hne)).trans q, hne⟩, fun b hb => ?_⟩
    · have e1 : ((i + 1 : Nat) : Int) = (i : Int) + 1 := by omega
      rw [e1]; exact he'
    · have hb' : b < s.heap.objs.size := by
        have e' : b = e ∨ b = it := by simpa using hb
        rcases e' with z | z
        · rw [z]; exact hel
        · rw [z]; exact hil
      rw [upd_ne (Nat.ne_of_lt hb')]
      exact (hf b hb).1
  done := by
    intro X hP hw hK hc i pins s σ H E I hf st hg
    subst hP hw hK
    obtain ⟨⟨old, he⟩, hit, hne⟩ := st
    obtain ⟨xs, hq, hx⟩ := hg
    obtain ⟨its, rv, p, hz⟩ := I.tuple hq
    obtain ⟨f0, f1, f2, f3, f4, f5⟩ := hf it (by simp)
    have hl := rv.length
    have hT : s.TypeIs (.ref e) "enumerate" := ⟨_, he, rfl⟩
    unfold pyNext
    refine wpAny_bind (wpAny_attempt (wpAny_callSpecial?_slot (name := Str.ofString "__next__") hT PySem.F.slot_enumerate_next
      (wpAny_call_entry PySem.F.slot_enumerate_next hT PySem.F.entry_enumerate_next ?_ (PySem.F.args_enumerate_next_1 _))))
    show wpAny _ _ (field (.ref e) 2 >>= _) _ _ _
    refine wpAny_bind (wpAny_field he rfl (x := .ref it) rfl ?_)
    refine wpAny_bind (wpAny_nextOf_tuple_end (show X.A.in1.handled = none from I.ok.hd hc) hit (show s.heap.IsTuple a its.toArray from p) (by simp; omega) fun h' x he' hx' => ?_)
    obtain ⟨o, ho, hcl⟩ := hx'
    refine wpAny_bind (wpAny_isInstance (T := "StopIteration") (b := true) ⟨o, ho, hcl⟩ isSubtype_stop ?_)
    exact wpAny_pure ⟨rfl, I.turned (t' := s.toks) (fun b o hb q => he' b o hb q) f0 f1 f3 f4 f5⟩
  self := fun A i s Q E st h => let ⟨⟨_, he⟩, _⟩ := st; wpAny_pyIter_enum he h
section
variable {X : Cx} {P : Pm} {K : Fg} {pos : Pos}
def iEnumX (K : Fg) (ta : TA) : TI := fun σ H R => ta σ H fun vs H1 => (∃ a xs, vs = [.ref a] ∧ SqL K H1 a xs ∧ R (Ite K a) H1) ∨ ∃ a xs, vs = [.ref a] ∧ SqT K H1 a xs ∧ R (IteT K a) H1
theorem pi_enumX {e : Expr} {ta : TA} {p tpos : Pos} {elts : List Expr} {kk : Nat} (hg : Gl X "enumerate") (hm : X.mg "enumerate" = none) (ha : PA X [e] ta) (hs : starEach [e] X.env = [(false, eval e X.env)] := by rfl) :
    PI X (.Tuple elts kk tpos) (.Call (.Name "enumerate" p) [e] [] pos) (iEnumX X.K ta) := by
  refine ⟨fun pins s σ H R I h => ?_⟩
  refine Call_ (ld_blt I hg hm boot_enumerate (PyProof.Rows.callWith_type1 (thn (ha.run pos pins s σ H _ I h) fun us s1 ⟨vs, H1, I1, r1, q1⟩ => ?_) hs rfl))
  rcases q1 with ⟨a, xs, ex, hq, q⟩ | ⟨a, xs, ex, hq, q⟩
  · subst ex
    cases r1 with
    | cons r rr =>
      cases rr
      cases r
      obtain ⟨its, rv, p', hz⟩ := I1.list hq
      refine call_enumerate_list p'.isList fun h' he hit hsz hk => wpAny_pyIter_enum he ?_
      have I2 : Inv X pins σ H1 { s1 with heap := h' } := I1.kept (t' := s1.toks) hk
      refine ⟨s1.heap.objs.size + 1, [s1.heap.objs.size + 1, s1.heap.objs.size], _, _, H1, rfl, I2, turn_enum a (s1.heap.objs.size + 1) s1.heap.objs.size, ⟨⟨.none, he⟩, hit, Nat.succ_ne_self _⟩, fun b hb => ?_, q⟩
      have e' : b = s1.heap.objs.size + 1 ∨ b = s1.heap.objs.size := by simpa using hb
      have hle : s1.heap.objs.size ≤ b := by
        rcases e' with z | z
        · rw [z]; exact Nat.le_add_right _ _
        · rw [z]; exact Nat.le_refl _
      exact I1.fpOk hle (I1.hok.fresh hle)
  · subst ex
    cases r1 with
    | cons r rr =>
      cases rr
      cases r
      obtain ⟨its, rv, p', hz⟩ := I1.tuple hq
      have hT : s1.heap.IsTuple a its.toArray := p'
      have hlt : a < s1.heap.objs.size := by obtain ⟨o, ho, _⟩ := hT; exact Heap.lt_size ho
      refine enum_begins1 (begins_tuple a its.toArray) hT fun h' he hit hsz hk => wpAny_pyIter_enum he ?_
      have I2 : Inv X pins σ H1 { s1 with heap := h' } := I1.kept (t' := s1.toks) hk
      refine ⟨s1.heap.objs.size + 1, [s1.heap.objs.size + 1, s1.heap.objs.size], _, _, H1, rfl, I2, turn_enumT a (s1.heap.objs.size + 1) s1.heap.objs.size (Nat.ne_of_lt (Nat.lt_succ_of_lt hlt)) (Nat.ne_of_lt hlt), ⟨⟨.none, he⟩, ⟨_, hit, rfl, rfl⟩, Nat.succ_ne_self _⟩, fun b hb => ?_, q⟩
      have e' : b = s1.heap.objs.size + 1 ∨ b = s1.heap.objs.size := by simpa using hb
      have hle : s1.heap.objs.size ≤ b := by
        rcases e' with z | z
        · rw [z]; exact Nat.le_add_right _ _
        · rw [z]; exact Nat.le_refl _
      exact I1.fpOk hle (I1.hok.fresh hle)
/-- the pairs of enumerate -/
def enumD (xs : List D) : List D := xs.zipIdx.map fun p => .tup [.int (p.2 : Nat), p.1]
theorem enumD_at {xs : List D} {i : Nat} {d : D} (h : (enumD xs)[i]? = some d) : ∃ x, xs[i]? = some x ∧ d = .tup [.int (i : Nat), x] := by
  unfold enumD at h
  rw [List.getElem?_map, List.getElem?_zipIdx] at h
  cases e : xs[i]? with
  | none => rw [e] at h; cases h
  | some x =>
    rw [e] at h
    refine ⟨x, rfl, ?_⟩
    have := Option.some.inj h
    simpa using this.symm
def aiEnumR (j : Nat) : AI := fun _ ρ Q => ∃ d xs, dat (.loc j) ρ = some d ∧ (d = .lst xs ∨ d = .tup xs) ∧ Q (enumD xs) (fun ρ => dat (.loc j) ρ = some d) ρ
theorem qi_enumR (j : Nat) {x : Str} {np p tpos : Pos} {elts : List Expr} {kk : Nat} (hg : Gl X "enumerate") (hm : X.mg "enumerate" = none) (hO : j ∈ P.O) (hN : X.N[j]? = some x := by rfl) (hv : Vis X.env.scope x := by first | exact Or.inl rfl | exact Or.inr (Or.inl rfl) | exact Or.inr (Or.inr rfl)) (hd : (x == ("__debug__" : Str)) = false := by decide)
    (hcd : (x == ("__classdict__" : Str)) = false := by decide) (hs : starEach [.Name x np] X.env = [(false, eval (.Name x np) X.env)] := by rfl) (hs2 : starEach [.Name x np] X.env = (false, eval (.Name x np) X.env) :: starEach [] X.env := by rfl) : QI X P (.Tuple elts kk tpos) (.Call (.Name "enumerate" p) [.Name x np] [] pos) (aiEnumR j) := by
  refine ⟨_, pi_enumX hg hm (pa_cons (pe_var hN hv hd hcd) pa_nil hs2) hs, fun c EA ho hw τ S H σ ρ Q R st ⟨d, xs, hd, hx, q⟩ k => ?_⟩
  obtain ⟨v, hv'⟩ := ho.2.1 j hO
  refine ⟨v, st.os _ hv', ?_⟩
  have slot : ∀ {S H : Hp} {σ : L2.St} {ρ : AEnv} {τ : List (V × A)}, Stt X.K { c with S0 := S } S H σ ρ τ → dat (.loc j) ρ = some d → ∃ y g, RepA X.K S H y v g ∧ y.toD = d := fun {S H σ ρ τ} s hd => by
    obtain ⟨y, hy, e⟩ := dat_loc hd
    obtain ⟨g, ra⟩ := s.slotA hy (s.os _ hv')
    exact ⟨y, g, ra, e⟩
  have slot2 : ∀ {S0 S H : Hp} {σ : L2.St} {ρ : AEnv} {τ : List (V × A)}, Stt X.K { c with S0 := S0 } S H σ ρ τ → dat (.loc j) ρ = some d → ∃ y g, RepA X.K S H y v g ∧ y.toD = d := fun {S0 S H σ ρ τ} s hd => by
    obtain ⟨y, hy, e⟩ := dat_loc hd
    obtain ⟨g, ra⟩ := s.slotA hy (s.os _ hv')
    exact ⟨y, g, ra, e⟩
  obtain ⟨y, g, ra, e⟩ := slot st.rest hd
  rcases hx with rfl | rfl
  · obtain ⟨a, vs, rfl, h1, h2⟩ := repA_lst ra e st.le
    refine .inl ⟨a, vs, rfl, h1, k _ _ _ S ρ _ _ (Reb.rest st) st.rest (fun S2 H2 σ2 ρ2 τ2 s2 hd2 => ?_) q⟩
    obtain ⟨y2, g2, ra2, e2⟩ := slot2 s2 hd2
    obtain ⟨a2, vs2, ea, h3, h4⟩ := repA_lst ra2 e2 s2.le
    cases ea
    refine ⟨fun i z hz => ?_, fun i hi => ⟨vs2, h3, by rw [h4.len]; unfold enumD at hi; simpa using hi⟩⟩
    obtain ⟨x, hx, rfl⟩ := enumD_at hz
    obtain ⟨u, hu, ru⟩ := h4.at0 hx
    refine ⟨⟨vs2, u, h3, hu⟩, fun v H' ⟨T, x', b1, b2, b3, b4⟩ => ?_⟩
    have := b4 vs2 h3
    rw [hu] at this
    cases this
    subst b1 b3
    have f1 := (s2.fresh b2).1
    refine ⟨_, s2.share (o := .tup [.int (i : Nat), u]) (d := .tup [.int (i : Nat), x]) b2 ?_⟩
    simp only [Rep]
    refine ⟨T, _, rfl, SqT.of upd_same, ?_⟩
    simp only [RepL, Rep]
    exact ⟨_, _, rfl, rfl, _, _, rfl, Rep.le (Le.of_same (Same.up f1)) x u ru, rfl⟩
  · obtain ⟨a, vs, rfl, _, h1, h2⟩ := repA_tup ra e st.le
    refine .inr ⟨a, vs, rfl, h1, k _ _ _ S ρ _ _ (Reb.rest st) st.rest (fun S2 H2 σ2 ρ2 τ2 s2 hd2 => ?_) q⟩
    obtain ⟨y2, g2, ra2, e2⟩ := slot2 s2 hd2
    obtain ⟨a2, vs2, ea, _, h3, h4⟩ := repA_tup ra2 e2 s2.le
    cases ea
    refine ⟨fun i z hz => ?_, fun i hi => ⟨vs2, h3, by rw [h4.len]; unfold enumD at hi; simpa using hi⟩⟩
    obtain ⟨x, hx, rfl⟩ := enumD_at hz
    obtain ⟨u, hu, ru⟩ := h4.at0 hx
    refine ⟨⟨vs2, u, h3, hu⟩, fun v H' ⟨T, x', b1, b2, b3, b4⟩ => ?_⟩
    have := b4 vs2 h3
    rw [hu] at this
    cases this
    subst b1 b3
    have f1 := (s2.fresh b2).1
    refine ⟨_, s2.share (o := .tup [.int (i : Nat), u]) (d := .tup [.int (i : Nat), x]) b2 ?_⟩
    simp only [Rep]
    refine ⟨T, _, rfl, SqT.of upd_same, ?_⟩
    simp only [RepL, Rep]
    exact ⟨_, _, rfl, rfl, _, _, rfl, Rep.le (Le.of_same (Same.up f1)) x u ru, rfl⟩
end
end Vs

set_option Elab.async false
set_option linter.all false
set_option maxRecDepth 100000
set_option maxHeartbeats 1000000
/-! Vs: == of dicts with plain values. -/
namespace Vs
open PySem PySem.Spec PyProof.Rows L2
def hitD (ls : List (Key × D)) (p : Key × D) : Bool := match valD ls p.1 with
  | some d => deq p.2 d
  | none => false
def deqK (ks ls : List (Key × D)) : Bool := ks.length == ls.length && ks.all (hitD ls)
def rEqDic (K : Fg) : R2 := fun x y H Q => ∃ a b ks ls, x = .ref a ∧ y = .ref b ∧ Rep K H (.dic ks) x ∧ Rep K H (.dic ls) y ∧ (∀ p ∈ ks, PlD 20 p.2) ∧ (∀ p ∈ ls, PlD 20 p.2) ∧ (ks.map (·.1)).Nodup ∧ Q (.bl (deqK ks ls)) H
section
variable {X : Cx} {P : Pm} {K : Fg}
theorem kv_all {S : Hp} {ls : List (Key × D)} {vb : List (Key × Value)} {e : Key → Bool} : ∀ {ks : List (Key × D)} {ws : List (Key × V)} {va : List (Key × Value)}, RepK K S ks ws → KV ws va → (∀ p ∈ ks, ((valueAt vb p.1).isSome && e p.1) = hitD ls p) → (va.all fun p => (valueAt vb p.1).isSome && e p.1) = ks.all (hitD ls)
  | [], ws, va, h, r, _ => by
    simp only [RepK] at h
    subst h
    cases r
    rfl
  | (k, d) :: ks, ws, va, h, r, hh => by
    simp only [RepK] at h
    obtain ⟨v, r', rfl, h1, h2⟩ := h
    cases r with
    | @cons _ q _ qs hq hr =>
      obtain ⟨hk, _⟩ := hq
      obtain ⟨qk, qv⟩ := q
      have hk' : k = qk := hk
      subst hk'
      simp only [List.all_cons]
      rw [kv_all h2 hr fun p hp => hh p (by simp [hp])]
      have := hh (k, d) (by simp)
      rw [← this]
theorem kv_mem {S : Hp} : ∀ {ks : List (Key × D)} {ws : List (Key × V)} {va : List (Key × Value)} {k : Key} {u : Value}, RepK K S ks ws → KV ws va → (k, u) ∈ va → ∃ d v, (k, d) ∈ ks ∧ RelV v u ∧ Rep K S d v
  | [], ws, va, k, u, h, r, m => by
    simp only [RepK] at h
    subst h
    cases r
    simp at m
  | (k', d) :: ks, ws, va, k, u, h, r, m => by
    simp only [RepK] at h
    obtain ⟨v, r', rfl, h1, h2⟩ := h
    cases r with
    | @cons _ q _ qs hq hr =>
      obtain ⟨hk, hv⟩ := hq
      obtain ⟨qk, qv⟩ := q
      rcases List.mem_cons.mp m with z | z
      · cases z
        have hk' : k' = k := hk
        subst hk'
        exact ⟨d, v, by simp, hv, h1⟩
      · obtain ⟨d', v', a1, a2, a3⟩ := kv_mem h2 hr z
        exact ⟨d', v', by simp [a1], a2, a3⟩
theorem or_eqDic (hu : X.A.units + 64 < cLine) : OpR X (compareOp .Eq) (rEqDic X.K) := by
  intro pins s σ H x y v u Q I rx ry h
  obtain ⟨a, b, ks, ls, rfl, rfl, r1, r2, p1, p2, nd, q⟩ := h
  cases rx
  cases ry
  simp only [Rep] at r1 r2
  obtain ⟨a', ws, e1, h1, k1⟩ := r1
  obtain ⟨b', us, e2, h2, k2⟩ := r2
  cases e1
  cases e2
  obtain ⟨_, ya, va, ra, da⟩ := h1.ok I.hok
  obtain ⟨_, yb, vb, rb, db⟩ := h2.ok I.hok
  -- the values side by side
  have hval : ∀ k, (valD ls k = none ∧ valueAt vb k = none) ∨ ∃ d v u, valD ls k = some d ∧ valueAt vb k = some u ∧ RelV v u ∧ Rep X.K H d v ∧ PlD 20 d := fun k => by
    have rr := rb.val k
    rcases k2.val (k := k) with ⟨e1, e2⟩ | ⟨d, v, e1, e2, e3⟩
    · rw [e2] at rr
      left
      refine ⟨e1, ?_⟩
      cases hv : valueAt vb k with
      | none => rfl
      | some z => rw [hv] at rr; exact (rr : False).elim
    · rw [e2] at rr
      right
      obtain ⟨u, hu, ru⟩ := RelO.some_of rr
      have hm : ∀ {l : List (Key × D)}, valD l k = some d → (∀ p ∈ l, PlD 20 p.2) → PlD 20 d := by
        intro l
        induction l with
        | nil => intro h _; simp [valD] at h
        | cons p r ih =>
          intro h hp
          simp only [valD] at h
          split at h
          · have := Option.some.inj h
            rw [← this]
            exact hp p (by simp)
          · exact ih h fun x hx => hp x (by simp [hx])
      exact ⟨d, v, u, e1, hu, ru, e3, hm e1 p2⟩
  let e : Key → Bool := fun k => match valD ks k, valD ls k with
    | some d, some d' => deq d d'
    | _, _ => false
  have hlen : va.length = ks.length := by rw [← ra.length, k1.len]
  have hlen2 : vb.length = ls.length := by rw [← rb.length, k2.len]
  have look : ∀ {l : List (Key × D)} {k : Key} {d : D}, (l.map (·.1)).Nodup → (k, d) ∈ l → valD l k = some d := by
    intro l
    induction l with
    | nil => intro k d _ m; simp at m
    | cons p r ih =>
      intro k d hn m
      obtain ⟨k', d'⟩ := p
      simp only [List.map_cons, List.nodup_cons] at hn
      simp only [valD]
      rcases List.mem_cons.mp m with z | z
      · cases z
        simp
      · have ne : k' ≠ k := fun e => hn.1 (by rw [e]; exact List.mem_map.mpr ⟨_, z, rfl⟩)
        simp only [ne, if_false]
        exact ih hn.2 z
  refine PySem.W.eq_dictsT (knd := mixKind X.prog X.w) (n := 21) (e := e) ya yb da db (fun k z y hz hy => ?_) (by omega) ⟨.bl _, H, I, rfl, ?_⟩
  · obtain ⟨d, v, m, rv, rd⟩ := kv_mem k1 ra hz
    have e1 : valD ks k = some d := look nd m
    rcases hval k with ⟨_, e2⟩ | ⟨d', v', u', e2, e3, e4, e5, e6⟩
    · rw [e2] at hy; cases hy
    · rw [e3] at hy
      cases hy
      have ee : e k = deq d d' := by show (match valD ks k, valD ls k with | some d, some d' => deq d d' | _, _ => false) = _; rw [e1, e2]
      rw [ee, deq_pd 20 d d' (p1 _ m) e6]
      obtain ⟨as, r1⟩ := Dp.reads I _ v z (rep_dp 20 d v (p1 _ m) rd) rv
      obtain ⟨bs, r2⟩ := Dp.reads I _ v' y (rep_dp 20 d' v' e6 e5) e4
      obtain ⟨a1, a2⟩ := pd_plain 20 d (p1 _ m)
      obtain ⟨b1, b2⟩ := pd_plain 20 d' e6
      exact .leaf fun A hA => SeqAt.eqAt_plain _ _ A s z y as bs r1 r2 a1 b1 (by have := Nat.min_le_left (pd d).depth (pd d').depth; omega)
  · have e1 : (va.all fun p => (valueAt vb p.1).isSome && e p.1) = ks.all (hitD ls) := kv_all k1 ra fun p hp => by
      obtain ⟨k, d⟩ := p
      have e1 : valD ks k = some d := look nd hp
      show ((valueAt vb k).isSome && e k) = hitD ls (k, d)
      unfold hitD
      rcases hval k with ⟨e2, e3⟩ | ⟨d', v', u', e2, e3, e4, e5, e6⟩
      · rw [e3]
        simp only [e2]
        rfl
      · have ee : e k = deq d d' := by show (match valD ks k, valD ls k with | some d, some d' => deq d d' | _, _ => false) = _; rw [e1, e2]
        rw [e3, ee]
        simp only [e2]
        rfl
    rw [e1, hlen, hlen2]
    exact q
def aEqDic : AR2 := fun x y ρ Q => ∃ ks ls, dat x ρ = some (.dic ks) ∧ dat y ρ = some (.dic ls) ∧ (∀ p ∈ ks, PlD 20 p.2) ∧ (∀ p ∈ ls, PlD 20 p.2) ∧ (ks.map (·.1)).Nodup ∧ Q (.v (.bl (deqK ks ls))) ρ
theorem s_eqDic : Sim2 K (rEqDic K) aEqDic := by
  intro c τ S H σ ρ vx vy x y Q R s q k
  obtain ⟨ks, ls, h1, h2, p1, p2, nd, q⟩ := q
  obtain ⟨r1, r2⟩ := two_dat s h1 h2
  have r1' := r1
  have r2' := r2
  simp only [Rep] at r1' r2'
  obtain ⟨a, _, rfl, _⟩ := r1'
  obtain ⟨b, _, rfl, _⟩ := r2'
  exact ⟨a, b, ks, ls, rfl, rfl, r1, r2, p1, p2, nd, k _ _ (KE.sc s.drop.drop rfl q)⟩
end
end Vs

set_option Elab.async false
set_option linter.all false
set_option maxRecDepth 100000
set_option maxHeartbeats 1000000
/-! Vs: bundles of what calls lean on. -/
namespace Vs
open PySem PySem.Spec PyProof.Rows L2
/-- a method -/
structure CalM (Pr : Program) (w : World) (K : Fg) (mg : Str → Option Value) (base : Heap) (C : Addr) (m : Str) (k : Nat) (ps : List Str) (sp : ASp) : Prop where
  ex : ∃ f fd, Meth K C m f ∧ Binds K fd ps [] ∧ Fok Pr w K mg base k f fd ps sp
/-- a class with an __init__ -/
structure CalK (Pr : Program) (w : World) (K : Fg) (mg : Str → Option Value) (base : Heap) (x : Str) (C : Addr) (k : Nat) (ps : List Str) (sp : ASp) : Prop where
  ex : ∃ f fd, Mk K C f ∧ mg x = some (.ref C) ∧ Binds K fd ps [] ∧ Fok Pr w K mg base k f fd ps sp
def asForget (vs : List Nat) (a : AS) : AS := fun DA ρ => a DA (clearA vs ρ)
section
variable {X : Cx} {P : Pm} {k : Nat} {ps : List Str} {sp : ASp} {C : Addr} {m x : Str} {o e : Expr} {es : List Expr} {ao : AE} {aa : AA} {apos p pos : Pos}
theorem qs_forgetA (vs : List Nat) {st : Stmt} {a : AS} (h : QS X P st a) : QS X P st (asForget vs a) := qs_forget vs h
theorem passF : ∀ σ, PassesAt (L2.CX X.prog X.w) X σ (fun cls d H => (Pn P).W cls d σ H) := fun σ pins H s e s' I c => (cx_false _ _ _ _ _ c).elim
theorem qe_methC {pl : Sem Bool} (he : QE X P o ao) (c : Cls X.K C) (F : CalM X.prog X.w X.K X.mg X.base C m k ps sp) (hr : Room k X.A) (hx : ∀ σ, PassesAt (L2.CX X.prog X.w) X σ (fun cls d H => P.W cls d σ H)) (ha : QA X P (e :: es) aa)
    (hst : starEach (e :: es) X.env = (false, eval e X.env) :: starEach es X.env := by rfl) (hpl : (backTo pos (starEach es X.env)).any (·.1) = false := by rfl)
    (ht : eval (.Call (.Attribute o m apos) (e :: es) [] pos) X.env = (do
      let ov ← eval o X.env
      standAt apos.atName
      let (f, first) ← holding [ov] (getMethod ov m pl)
      callWith pos f first (backTo pos (starEach (e :: es) X.env)) (backToKw pos (keywordEach [] X.env))) := by rfl) :
    QE X P (.Call (.Attribute o m apos) (e :: es) [] pos) (aMeth C m sp [] ao aa) := let ⟨_, _, h1, h2, h3⟩ := F.ex; qe_meth he c h1 h3 hr h2 .nil dfl_nil hx ha hst hpl ht
theorem qe_methC0 {pl : Sem Bool} (he : QE X P o ao) (c : Cls X.K C) (F : CalM X.prog X.w X.K X.mg X.base C m k ps sp) (hr : Room k X.A) (hx : ∀ σ, PassesAt (L2.CX X.prog X.w) X σ (fun cls d H => P.W cls d σ H))
    (ht : eval (.Call (.Attribute o m apos) [] [] pos) X.env = (do
      let ov ← eval o X.env
      standAt apos.atName
      let (f, first) ← holding [ov] (getMethod ov m pl)
      callWith pos f first (backTo pos (starEach [] X.env)) (backToKw pos (keywordEach [] X.env))) := by rfl) :
    QE X P (.Call (.Attribute o m apos) [] [] pos) (aMeth C m sp [] ao aNil) := let ⟨_, _, h1, h2, h3⟩ := F.ex; qe_meth0 he c h1 h3 hr h2 .nil dfl_nil hx ht
theorem qe_makeC (F : CalK X.prog X.w X.K X.mg X.base x C k ps sp) (hr : Room (k + 1) X.A) (hg : Gl X x) (hx : ∀ σ, PassesAt (L2.CX X.prog X.w) X σ (fun cls d H => P.W cls d σ H)) (ha : QA X P (e :: es) aa)
    (hdb : (x == ("__debug__" : Str)) = false := by decide) (he : starEach (e :: es) X.env = (false, eval e X.env) :: starEach es X.env := by rfl) (hpl : (backTo pos (starEach es X.env)).any (·.1) = false := by rfl) :
    QE X P (.Call (.Name x p) (e :: es) [] pos) (aMake C sp [] aa) := let ⟨_, _, h1, h2, h3, h4⟩ := F.ex; qe_make h1 h4 hr hg h2 h3 .nil dfl_nil hx ha hdb he hpl
theorem qe_gint {i : Int} (h : ∃ t, X.mg x = some (.int i t)) (hg : Gl X x) (hd : (x == ("__debug__" : Str)) = false := by decide) : QE X P (.Name x pos) (aC (.int i)) := let ⟨t, h⟩ := h; qe_glob (v := .int i) rfl hg h ⟨t, rfl⟩ hd
theorem qe_gstr {i : Str} (h : ∃ t, X.mg x = some (.str i t)) (hg : Gl X x) (hd : (x == ("__debug__" : Str)) = false := by decide) : QE X P (.Name x pos) (aC (.str i)) := let ⟨t, h⟩ := h; qe_glob (v := .str i) rfl hg h ⟨t, rfl⟩ hd
end
end Vs

set_option Elab.async false
set_option linter.all false
set_option maxRecDepth 100000
set_option maxHeartbeats 1000000
/-! Vs: list(d.values()). -/
namespace Vs
open PySem PySem.Spec PyProof.Rows L2
section
variable {X : Cx} {P : Pm} {K : Fg} {e : Expr} {te : TE} {ae : AE} {p pos apos cpos : Pos}
def tLV (te : TE) : TE := fun σ H Q => te σ H fun x H1 => ∃ d kvs, x = .ref d ∧ Rd H1 d (.dK kvs) ∧ ∀ q, H1 q = none → Q (.ref q) (upd H1 q (.lst (kvs.map (·.2))))
theorem pe_listValues (hc : X.calm = true) (he : PE X e te) (hg : Gl X "list") (hm : X.mg "list" = none) (hbase : attributeBase e "values" X.env (eval e X.env) = eval e X.env := by rfl) (hline : (apos.endLine == cpos.line) = true := by rfl)
    (hs : starEach [.Call (.Attribute e "values" apos) [] [] cpos] X.env = (false, eval (.Call (.Attribute e "values" apos) [] [] cpos) X.env) :: starEach [] X.env := by rfl) :
    PE X (.Call (.Name "list" p) [.Call (.Attribute e "values" apos) [] [] cpos] [] pos) (tLV te) := by
  refine ⟨fun pins s σ H Q I hq => ?_⟩
  refine wpAny_Call_Name_kw (ld_blt I hg hm PyProof.Rows.boot_list ?_)
  refine PyProof.Rows.callWith_type1 ?_ hs rfl
  rw [hs]
  show wpAny _ _ (spliced ((false, eval (.Call (.Attribute e "values" apos) [] [] cpos) X.env) :: backTo pos (starEach [] X.env))) _ _ s
  refine Calls.spliced_cons ?_
  refine wpAny_Call_method (T := "dict") (id := "dict.values") hbase rfl hline F.plainAttrs_dict F.slot_dict_values F.type_dict_values (thn (he.run pins s σ H _ I hq) fun u s1 ⟨x, H1, I1, rx, d, kvs, ex, hd, q⟩ => ?_)
  subst ex
  obtain rfl : u = Value.ref d := rx
  obtain ⟨hz, hs0, vs, kv, hdo⟩ := hd.ok I1.hok
  obtain ⟨ep, hat⟩ := hdo.dictAt
  have lk : kvs.length = vs.length := Paired.length kv
  have I2 : Inv X pins σ H1 { s1 with heap := s1.heap.push { cls := .type "dict_values", data := .fields #[.ref d] } } := I1.kept (t' := s1.toks) fun b ob q => Heap.get?_push_of_some _ q
  refine ⟨hdo.typeIs, hdo.mapOf.noDict, ?_⟩
  show wpAny _ _ (callWith cpos (.builtin "dict.values") [.ref d] [] []) _ X.xe s1
  refine method_meetsIn F.slot_dict_values F.entry_dict_values rfl (PySem.evalArgs_none ⟨rfl, hdo.typeIs, F.args_dict_values_1 _, _, meets_dict_values (mixKind X.prog X.w) d hs0, ⟨vs, hdo⟩, ?_⟩)
  refine Calls.spliced_nil ?_
  refine PySem.W.kdl_call (PySem.W.kdl_values (knd := mixKind X.prog X.w) (kvs := vs) (ep := ep)) (I1.ok.hd hc) ⟨⟨_, Heap.get?_push_size _ rfl, rfl, rfl⟩, hat.push _⟩ (by omega) fun h' tk acc c hk hS hacc => ?_
  have ea : acc.toList = vs.map (·.2) := by
    apply List.ext_getElem?
    intro i
    rw [List.getElem?_map]
    by_cases hi : i < acc.size
    · have h1 : acc.toList[i]? = some acc[i] := by rw [Array.getElem?_toList]; exact Array.getElem?_eq_getElem hi
      obtain ⟨k, hkv⟩ := hacc.2 i acc[i] (Array.getElem?_eq_getElem hi)
      rw [h1, hkv]
      rfl
    · have hsz := hacc.1
      rw [List.getElem?_eq_none (by rw [Array.length_toList]; omega), List.getElem?_eq_none (by omega)]
      rfl
  have rv : Vals (kvs.map (·.2)) acc.toList := by
    rw [ea]
    have : ∀ {kvs : List (Key × V)} {vs : List (Key × Value)}, KV kvs vs → Vals (kvs.map (·.2)) (vs.map (·.2)) := by
      intro kvs vs h
      induction h with
      | nil => exact .nil
      | cons h _ ih => exact .cons h.2 ih
    exact this kv
  refine ⟨.ref _, _, I2.laid (t' := tk) (o := .lst (kvs.map (·.2))) hk (Nat.le_refl _) ⟨by rw [List.length_map]; exact hz, acc.toList, c, rv, by rw [Array.toArray_toList]; exact hS⟩, rfl, q _ (I2.hok.fresh (Nat.le_refl _))⟩
def aLV (ae : AE) : AE := fun EA ρ Q => ae EA ρ fun x ρ1 => ∃ kvs, dat x ρ1 = some (.dic kvs) ∧ Q (.lst (kvs.map (·.2))) ρ1
theorem repK_snd {S : Hp} : ∀ {kvs : List (Key × D)} {ws : List (Key × V)}, RepK K S kvs ws → RepL K S (kvs.map (·.2)) (ws.map (·.2))
  | [], ws, h => by
    simp only [RepK] at h
    subst h
    simp only [List.map_nil, RepL]
  | (k, d) :: kvs, ws, h => by
    simp only [RepK] at h
    obtain ⟨v, r, rfl, h1, h2⟩ := h
    simp only [List.map_cons, RepL]
    exact ⟨v, _, rfl, h1, repK_snd h2⟩
theorem qe_listValues (hc : X.calm = true) (he : QE X P e ae) (hg : Gl X "list") (hm : X.mg "list" = none) (hbase : attributeBase e "values" X.env (eval e X.env) = eval e X.env := by rfl) (hline : (apos.endLine == cpos.line) = true := by rfl)
    (hs : starEach [.Call (.Attribute e "values" apos) [] [] cpos] X.env = (false, eval (.Call (.Attribute e "values" apos) [] [] cpos) X.env) :: starEach [] X.env := by rfl) :
    QE X P (.Call (.Name "list" p) [.Call (.Attribute e "values" apos) [] [] cpos] [] pos) (aLV ae) := by
  obtain ⟨t, pe, s⟩ := he.ex
  refine ⟨_, pe_listValues hc pe hg hm hbase hline hs, fun c EA ho hw τ S H σ ρ Q R st q k => s c EA ho hw τ S H σ ρ _ _ st q fun v H1 ⟨S1, ρ1, x, s1, kvs, h1, q1⟩ => ?_⟩
  obtain ⟨y0, g0, r0, e0⟩ := s1.thing (List.mem_cons_self ..) h1
  obtain ⟨d, ws, rfl, h3, h4⟩ := repA_dic r0 e0 s1.le
  exact ⟨d, ws, rfl, h3, fun q hq => k _ _ ⟨S1, ρ1, _, s1.drop.newList hq (repK_snd h4), q1⟩⟩
end
end Vs

set_option Elab.async false
set_option linter.all false
set_option maxRecDepth 100000
set_option maxHeartbeats 1000000
/-! Vs: facts of classes, as a head can read them. -/
namespace Vs
open PySem PySem.Spec PyProof.Rows L2
section
variable {K : Fg} {C : Addr} {f : Str}
/-- an own exception class whose __init__ stores one field -/
theorem oexB_ok (h : oexB K C = true) : OexC K C := by
  obtain ⟨q, h⟩ := He.ba h
  obtain ⟨h2, h⟩ := He.ba h
  obtain ⟨h3, h⟩ := He.ba h
  obtain ⟨h4, h5⟩ := He.ba h
  refine ⟨?_, He.eqO_ok h2, of_decide_eq_true h3, of_decide_eq_true h4, h5⟩
  split at q
  · rename_i dd cd sl ho
    split at q
    · rename_i C' bm k0 k1 k2 k3 n k5 hm hs
      simp only [Bool.and_eq_true, beq_iff_eq, Bool.not_eq_true'] at q
      obtain ⟨⟨⟨⟨rfl, rfl⟩, hdel⟩, hhd⟩, ht⟩ := q
      obtain ⟨nm, bs, mro, ns, qn, hd, sn, sub, ab, col, del⟩ := cd
      dsimp only at hm hdel hhd
      subst hm hdel hhd
      have hsl : sl = #[k0, k1, k2, k3, some (.builtin "ValueError.__new__"), k5] := by
        obtain ⟨l⟩ := sl
        simp only at hs
        rw [hs]
      subst hsl
      exact ⟨nm, qn, ns, bs, bm, sn, sub, ab, col, dd, k0, k1, k2, k3, k5, ho, ht⟩
    · cases q
  · cases q
/-- its __init__ is a function, its field no name of the class -/
theorem oexI_ok (h : oexI K C f = true) : PySem.W.findIn K (.ref C) "__init__" = some (some (.ref (He.ma K C "__init__"))) ∧ PySem.W.typeIn K (.ref (He.ma K C "__init__")) = some (.type "function") ∧ PySem.W.findIn K (.ref C) f = some none ∧ XfC K C := by
  obtain ⟨h1, h⟩ := He.ba h
  obtain ⟨h2, h⟩ := He.ba h
  obtain ⟨h3, h4⟩ := He.ba h
  exact ⟨He.eqO_ok h1, of_decide_eq_true h2, He.eqO_ok h3, xfB_ok h4⟩
/-- what isinstance asks of an own class -/
theorem clsIB_ok (c : Cls K C) (h : clsIB K C = true) : ClsI K C := by
  obtain ⟨h1, h⟩ := He.ba h
  obtain ⟨h2, h⟩ := He.ba h
  obtain ⟨h3, h4⟩ := He.ba h
  exact ⟨c, He.eqO_ok h1, He.eqO_ok h2, of_decide_eq_true h3, of_decide_eq_true h4⟩
/-- an own special method -/
theorem spcB_ok {m : Str} (h : spcB K C m = true) : PySem.W.findIn K (.ref C) m = some (some (.ref (He.ma K C m))) ∧ PySem.W.isFn K (.ref (He.ma K C m)) = true := by
  obtain ⟨h1, h2⟩ := He.ba h
  exact ⟨He.eqO_ok h1, h2⟩
theorem neB_ok (h : neB K C = true) : PySem.W.findIn K (.ref C) "__ne__" = some (some (.builtin "object.__ne__")) ∧ PySem.W.mroIn K C (.type "object") = some true := by
  obtain ⟨h1, h2⟩ := He.ba h
  exact ⟨He.eqO_ok h1, of_decide_eq_true h2⟩
/-- isinstance's tables -/
theorem kitB2_ok {t u : Value} {b : Bool} (h : kitB2 K t u b = true) : PySem.W.kitOne K t u = some b := of_decide_eq_true h
end
end Vs

set_option Elab.async false
set_option linter.all false
set_option maxRecDepth 100000
set_option maxHeartbeats 1000000
/-! Vs: introduction, the later readings. -/
namespace Vs
open PySem PySem.Spec PyProof.Rows L2
section
variable {EA : AX} {ρ : AEnv} {Q : AK} {DA : AEnds} {QB : Bool → AEnv → Prop} {x y : A} {d e z : D} {K : Fg} {C : Addr} {f m : Str} {sp : ASp}
/-- isinstance of built-in data by built-in types -/
def tyN : D → Option String
  | .non => some "NoneType"
  | .bl _ => some "bool"
  | .int _ => some "int"
  | .str _ => some "str"
  | .lst _ => some "list"
  | .tup _ => some "tuple"
  | .dic _ => some "dict"
  | _ => none
def kitAnyB (a : String) : List String → Option Bool
  | [] => some false
  | b :: r => match kitB a b with
    | some true => some true
    | some false => kitAnyB a r
    | none => none
theorem kitAny_B {a : String} : ∀ {us : List String} {b : Bool}, kitAnyB a us = some b → PySem.W.kitAny K (.type a) (us.map Value.type) = some b
  | [], b, h => by
    simp only [kitAnyB] at h
    cases h
    exact kitAny_nil
  | u :: us, b, h => by
    simp only [kitAnyB] at h
    cases e : kitB a u with
    | none => rw [e] at h; cases h
    | some r =>
      rw [e] at h
      cases r with
      | true =>
        cases h
        exact kitAny_cons (kit_ty e) (fun z => nomatch z) fun _ => rfl
      | false => exact kitAny_cons (kit_ty e) (fun _ => kitAny_B h) fun z => nomatch z
theorem isi_bt {a : String} {us : List String} {b : Bool} (h1 : tyN d = some a) (h2 : kitAnyB a us = some b) : isiR K d (us.map Value.type) b := by
  refine ⟨.type a, ?_, fun C fs e => ?_, kitAny_B h2⟩
  · cases d <;> simp only [tyN] at h1 <;> first | (cases h1; rfl) | cases h1
  · subst e
    cases h1
theorem i_isi {us : List Value} {b : Bool} (h1 : dat x ρ = some d) (h2 : isiR K d us b) (k : Q (.v (.bl b)) ρ) : aIsi K us x ρ Q := ⟨d, b, h1, h2, k⟩
theorem i_fld {y : A} (h1 : lkA x ρ = some y) (h2 : fldA y C f = some d) (k : Q (.v d) ρ) : aFld C f x ρ Q := ⟨y, d, h1, h2, k⟩
theorem i_raise {ae : AE} (k : ae DA.ex ρ fun x ρ1 => useA x ρ1 fun d ρ2 => DA.ex C [(f, d)] ρ2) : asRaise C f ae DA ρ := k
theorem i_forget {vs : List Nat} {a : AS} (k : a DA (clearA vs ρ)) : asForget vs a DA ρ := k
theorem i_own {g : Bool → Bool} {fs gs : List (Str × D)} (h1 : dat x ρ = some (.obj C fs)) (h2 : dat y ρ = some (.obj C gs)) (k : callA sp [x, y] noX ρ fun r ρ' => ∃ t, r = .v (.bl t) ∧ Q (.v (.bl (g t))) ρ') : aOwn C sp g x y ρ Q := ⟨⟨fs, h1⟩, ⟨gs, h2⟩, k⟩
theorem i_lenO {fs : List (Str × D)} (h1 : dat x ρ = some (.obj C fs)) (k : callA sp [x] noX ρ fun r ρ' => ∃ n : Int, r = .v (.int n) ∧ 0 ≤ n ∧ n < 2 ^ 63 ∧ Q (.v (.int n)) ρ') : aLenO C sp [x] ρ Q := ⟨x, rfl, ⟨fs, h1⟩, k⟩
/-! loops -/
theorem i_aiSeq {ae : AE} {QI : List D → (AEnv → Prop) → AEnv → Prop} (k : ae EA ρ fun x ρ1 => useA x ρ1 fun d ρ2 => ∃ xs, seqD d = some xs ∧ QI xs (fun _ => True) ρ2) : aiSeq ae EA ρ QI := k
theorem for_inv {G : AEnv → Prop} {ag : AG} {ab : AS} (W : List D → List D → AEnv → Prop) : ∀ (ys xs : List D) (ρ : AEnv), (∀ ys ρ, W ys [] ρ → G ρ ∧ DA.nx ρ) →
    (∀ ys x xs ρ, W ys (x :: xs) ρ → G ρ ∧ ag x ρ fun ρ' => ab { DA with nx := fun ρ => W (ys ++ [x]) xs ρ, ct := fun ρ => W (ys ++ [x]) xs ρ, bk := DA.nx } ρ') →
    (∀ {D1 D2 : AEnds} {ρ : AEnv}, (∀ ρ, D1.nx ρ → D2.nx ρ) → (∀ ρ, D1.ct ρ → D2.ct ρ) → (∀ ρ, D1.bk ρ → D2.bk ρ) → D1.rt = D2.rt → D1.ex = D2.ex → ab D1 ρ → ab D2 ρ) → (∀ {d : D} {ρ : AEnv} {q q' : AEnv → Prop}, (∀ ρ, q ρ → q' ρ) → ag d ρ q → ag d ρ q') → W ys xs ρ → forA G ag ab DA xs ρ
  | ys, [], ρ, h0, _, _, _, w => h0 ys ρ w
  | ys, x :: xs, ρ, h0, h1, hm, hg, w => by
    obtain ⟨g, a⟩ := h1 ys x xs ρ w
    refine ⟨g, hg (fun ρ' hb => ?_) a⟩
    exact hm (D1 := { DA with nx := fun ρ => W (ys ++ [x]) xs ρ, ct := fun ρ => W (ys ++ [x]) xs ρ, bk := DA.nx }) (D2 := { DA with nx := forA G ag ab DA xs, ct := forA G ag ab DA xs, bk := DA.nx }) (fun ρ' z => for_inv W (ys ++ [x]) xs ρ' h0 h1 hm hg z) (fun ρ' z => for_inv W (ys ++ [x]) xs ρ' h0 h1 hm hg z) (fun _ z => z) rfl rfl hb
/-- a loop as a recursion over what is left: the step is proved with the rest's meaning in hand -/
theorem for_rec {G : AEnv → Prop} {ag : AG} {ab : AS} (W : List D → AEnv → Prop) (h0 : ∀ ρ, W [] ρ → G ρ ∧ DA.nx ρ)
    (h1 : ∀ x xs ρ, W (x :: xs) ρ → (∀ ρ, W xs ρ → forA G ag ab DA xs ρ) → G ρ ∧ ag x ρ fun ρ' => ab { DA with nx := forA G ag ab DA xs, ct := forA G ag ab DA xs, bk := DA.nx } ρ') : ∀ (xs : List D) (ρ : AEnv), W xs ρ → forA G ag ab DA xs ρ
  | [], ρ, w => h0 ρ w
  | x :: xs, ρ, w => h1 x xs ρ w fun ρ' w' => for_rec W h0 h1 xs ρ' w'
end
end Vs

set_option Elab.async false
set_option linter.all false
set_option maxRecDepth 100000
set_option maxHeartbeats 1000000
/-! Vs: isinstance by a function. -/
namespace Vs
open PySem PySem.Spec PyProof.Rows L2
def isiF (d : D) (u : String) : Bool := match d with
  | .bl _ => u == "bool" || u == "int"
  | .int _ => u == "int"
  | .str _ => u == "str"
  | .lst _ => u == "list"
  | .tup _ => u == "tuple"
  | .dic _ => u == "dict"
  | _ => false
theorem isi1 {K : Fg} {d : D} {u : String} (h : (tyN d).isSome = true) (hu : u = "int" ∨ u = "bool" ∨ u = "str" ∨ u = "list" ∨ u = "tuple" ∨ u = "dict") : isiR K d [.type u] (isiF d u) := by
  have go : ∀ a, tyN d = some a → kitAnyB a [u] = some (isiF d u) → isiR K d [.type u] (isiF d u) := fun a h1 h2 => isi_bt (us := [u]) h1 h2
  cases d <;> first
    | (cases h; done)
    | (refine go _ rfl ?_; rcases hu with rfl | rfl | rfl | rfl | rfl | rfl <;> simp only [isiF] <;> decide +kernel)
theorem isi_lt {K : Fg} {d : D} (h : (tyN d).isSome = true) : isiR K d [.type "list", .type "tuple"] (isiF d "list" || isiF d "tuple") := by
  have go : ∀ a, tyN d = some a → kitAnyB a ["list", "tuple"] = some (isiF d "list" || isiF d "tuple") → isiR K d [.type "list", .type "tuple"] (isiF d "list" || isiF d "tuple") := fun a h1 h2 => isi_bt (us := ["list", "tuple"]) h1 h2
  cases d <;> first
    | (cases h; done)
    | (refine go _ rfl ?_; simp only [isiF]; decide +kernel)
/-- isinstance of an own class -/
theorem isi_own {K : Fg} {C C2 : Addr} {fs : List (Str × D)} {b : Bool} (c : ClsI K C) (h : PySem.W.kitOne K (.ref C) (.ref C2) = some b) : isiR K (.obj C fs) [.ref C2] b := by
  refine ⟨.ref C, rfl, fun C' fs' e => ?_, ?_⟩
  · cases e
    exact c
  · exact kitAny_cons h (fun z => by rw [z]; exact kitAny_nil) fun z => z
end Vs

set_option Elab.async false
set_option linter.all false
set_option maxRecDepth 100000
set_option maxHeartbeats 1000000
/-! Vs: comprehensions in readings. -/
namespace Vs
open PySem PySem.Spec PyProof.Rows L2
section
variable {EA : AX} {ρ : AEnv} {Q : AK} {G : AEnv → Prop} {ag : AG} {at_ : AT} {ae ak : AE} {vs : List Nat}
theorem i_lc {ai : AI} (k : ai EA ρ fun xs G ρ1 => NoneAt vs ρ1 ∧ lcA G ag at_ ae vs xs [] ρ1 Q) : aLc ai ag at_ ae vs EA ρ Q := k
theorem i_dc {ai : AI} (k : ai EA ρ fun xs G ρ1 => NoneAt vs ρ1 ∧ dcA G ag at_ ak ae vs xs [] ρ1 Q) : aDc ai ag at_ ak ae vs EA ρ Q := k
theorem lc_rec (W : List D → List D → AEnv → Prop) (h0 : ∀ acc ρ, W acc [] ρ → G ρ ∧ Q (.lst acc) ρ)
    (h1 : ∀ acc x xs ρ, W acc (x :: xs) ρ → (∀ acc ρ, W acc xs ρ → lcA G ag at_ ae vs xs acc ρ Q) → lcA G ag at_ ae vs (x :: xs) acc ρ Q) : ∀ (xs acc : List D) (ρ : AEnv), W acc xs ρ → lcA G ag at_ ae vs xs acc ρ Q
  | [], acc, ρ, w => h0 acc ρ w
  | x :: xs, acc, ρ, w => h1 acc x xs ρ w fun acc' ρ' w' => lc_rec W h0 h1 xs acc' ρ' w'
theorem i_lcA {x : D} {xs acc : List D} (g : G ρ) (k : ag x ρ fun ρ1 => at_ noX ρ1 fun b ρ2 => if b = true then ae noX ρ2 fun y ρ3 => useA y ρ3 fun d ρ4 => acc.length ≤ 100000 ∧ lcA G ag at_ ae vs xs (acc ++ [d]) (clearA vs ρ4) Q else lcA G ag at_ ae vs xs acc (clearA vs ρ2) Q) : lcA G ag at_ ae vs (x :: xs) acc ρ Q := ⟨g, k⟩
theorem i_agName {i : Nat} {d : D} {q : AEnv → Prop} (k : q (ρ.set i (some (.v d)))) : agName i d ρ q := k
theorem i_yes {QB : Bool → AEnv → Prop} (k : QB true ρ) : atYes EA ρ QB := k
theorem i_aiSeqV {ae : AE} {QI : List D → (AEnv → Prop) → AEnv → Prop} (k : ae EA ρ fun x ρ1 => useA x ρ1 fun d ρ2 => ∃ xs, seqD d = some xs ∧ QI xs (fun _ => True) ρ2) : aiSeq ae EA ρ QI := k
end
end Vs

set_option Elab.async false
set_option linter.all false
set_option maxRecDepth 100000
set_option maxHeartbeats 1000000
/-! Vs: more steps of readings; contracts over an index. -/
namespace Vs
open PySem PySem.Spec PyProof.Rows L2
section
variable {EA : AX} {ρ ρ' : AEnv} {Q : AK} {DA : AEnds} {QB : Bool → AEnv → Prop} {x y o : A} {d e z : D} {C : Addr} {f m : Str} {sp : ASp} {dd : List D} {aa : AA} {ao ab : AE} {p : Prop}
theorem i_itep {c : Prop} [Decidable c] {p q : Prop} (h : c) (k : p) : if c then p else q := by rw [if_pos h]; exact k
theorem i_iten {c : Prop} [Decidable c] {p q : Prop} (h : ¬c) (k : q) : if c then p else q := by rw [if_neg h]; exact k
theorem i_itepB {b : Bool} {p q : Prop} (h : b = true) (k : p) : if b = true then p else q := i_itep h k
theorem i_itenB {b : Bool} {p q : Prop} (h : b = false) (k : q) : if b = true then p else q := by subst h; exact i_iten Bool.false_ne_true k
/-- x is an instance of C -/
def objK (C : Addr) (m : Str) (x : A) (ρ : AEnv) (p : Prop) : Prop := isObjA C m x ρ ∧ p
theorem i_meth (k : ao EA ρ fun o ρ1 => objK C m o ρ1 (aa EA ρ1 fun xs ρ2 => callA sp (o :: (xs ++ dd.map A.v)) EA ρ2 Q)) : aMeth C m sp dd ao aa EA ρ Q := k
theorem i_objK {fs : List (Str × D)} (h1 : dat x ρ = some (.obj C fs)) (h2 : fs.lookup m = none) (k : p) : objK C m x ρ p := ⟨⟨fs, h1, h2⟩, k⟩
theorem i_call0 (k : aa EA ρ fun xs ρ1 => callA sp xs EA ρ1 Q) : aCall sp [] aa EA ρ Q := by
  unfold aCall
  simp only [List.map_nil, List.append_nil]
  exact k
theorem i_meth0 (k : ao EA ρ fun o ρ1 => objK C m o ρ1 (aa EA ρ1 fun xs ρ2 => callA sp (o :: xs) EA ρ2 Q)) : aMeth C m sp [] ao aa EA ρ Q := by
  unfold aMeth
  simp only [List.map_nil, List.append_nil]
  exact k
theorem i_make0 (k : aa EA ρ fun xs ρ1 => mkSp C sp xs EA ρ1 Q) : aMake C sp [] aa EA ρ Q := by
  unfold aMake
  simp only [List.map_nil, List.append_nil]
  exact k
theorem i_make (k : aa EA ρ fun xs ρ1 => mkSp C sp (xs ++ dd.map A.v) EA ρ1 Q) : aMake C sp dd aa EA ρ Q := k
/-- slices -/
def slcK (x : A) (lo hi : Option Int) (ρ : AEnv) (Q : AK) : Prop := ∃ d, dat x ρ = some d ∧ match d with
  | .lst xs => Q (.lst (cutD xs lo hi)) ρ
  | .tup xs => Q (.v (.tup (cutD xs lo hi))) ρ
  | _ => False
theorem i_slice {al ah : AO} (k : ao EA ρ fun x ρ1 => al EA ρ1 fun lo ρ2 => ah EA ρ2 fun hi ρ3 => slcK x lo hi ρ3 Q) : aSlice ao al ah EA ρ Q := k
theorem i_slcT {xs : List D} {lo hi : Option Int} (h : dat x ρ = some (.tup xs)) (k : Q (.v (.tup (cutD xs lo hi))) ρ) : slcK x lo hi ρ Q := ⟨_, h, k⟩
theorem i_slcL {xs : List D} {lo hi : Option Int} (h : dat x ρ = some (.lst xs)) (k : Q (.lst (cutD xs lo hi)) ρ) : slcK x lo hi ρ Q := ⟨_, h, k⟩
theorem i_aoNone {q : Option Int → AEnv → Prop} (k : q none ρ) : aoNone EA ρ q := k
def isI (x : A) (ρ : AEnv) (k : Int → Prop) : Prop := ∃ i, dat x ρ = some (.int i) ∧ k i
theorem i_isI {i : Int} {k : Int → Prop} (h : dat x ρ = some (.int i)) (hk : k i) : isI x ρ k := ⟨i, h, hk⟩
theorem i_aoSome {q : Option Int → AEnv → Prop} (k : ao EA ρ fun x ρ1 => isI x ρ1 fun i => q (some i) ρ1) : aoSome ao EA ρ q := k
/-- targets -/
theorem i_agTup {n : Nat} {b : AGs} {ds : List D} {q : AEnv → Prop} (h : ds.length = n) (k : b ds ρ q) : agTup n b (.tup ds) ρ q := ⟨ds, rfl, h, k⟩
theorem i_agCons {a : AG} {b : AGs} {r : List D} {q : AEnv → Prop} (k : a d ρ fun ρ' => b r ρ' q) : agCons a b (d :: r) ρ q := ⟨d, r, rfl, k⟩
theorem i_agNil {q : AEnv → Prop} (k : q ρ) : agNil [] ρ q := ⟨rfl, k⟩
/-- fields -/
def fldK (C : Addr) (f : Str) (o : A) (d : D) (ρ : AEnv) (nx : AEnv → Prop) : Prop := ∃ j fs, o = .loc j ∧ ρ[j]? = some (some (.obj C fs)) ∧ (∀ p ∈ fs, ∃ d, p.2 = .v d) ∧ fs.length ≤ 100 ∧ nx (ρ.set j (some (.obj C (putFA f d fs))))
theorem i_asFld {av ao : AE} (k : av DA.ex ρ fun x ρ1 => useA x ρ1 fun d ρ2 => ao DA.ex ρ2 fun o ρ3 => fldK C f o d ρ3 DA.nx) : asFld C f av ao DA ρ := k
theorem i_fldK {j : Nat} {fs : List (Str × A)} {nx : AEnv → Prop} (h1 : ρ[j]? = some (some (.obj C fs))) (h2 : ∀ p ∈ fs, ∃ d, p.2 = A.v d) (h3 : fs.length ≤ 100) (k : nx (ρ.set j (some (.obj C (putFA f d fs))))) : fldK C f (.loc j) d ρ nx := ⟨j, fs, rfl, h1, h2, h3, k⟩
theorem fs_nil : ∀ p ∈ ([] : List (Str × A)), ∃ d, p.2 = A.v d := fun _ h => nomatch h
theorem fs_one {f : Str} {d : D} : ∀ p ∈ ([(f, .v d)] : List (Str × A)), ∃ d, p.2 = A.v d := fun p h => by
  rcases List.mem_cons.mp h with h | h
  · exact ⟨d, by rw [h]⟩
  · cases h
theorem i_fldV {fs : List (Str × D)} (h1 : lkA x ρ = some (.v (.obj C fs))) (h2 : fs.lookup f = some d) (k : Q (.v d) ρ) : aFld C f x ρ Q := ⟨_, d, h1, by simp only [fldA, if_pos, h2], k⟩
theorem plD_h {n : Nat} {d : D} (h : PlD n d) : PlD n d := h
theorem lenA_h {y : A} (h : lenA y ≤ 100000) : lenA y ≤ 100000 := h
/-- get -/
def isDc (x : A) (ρ : AEnv) (p : Prop) : Prop := (∃ kvs, dat x ρ = some (.dic kvs)) ∧ p
def getK (x y : A) (ρ : AEnv) (Q : AK) : Prop := ∃ kvs i k, dat x ρ = some (.dic kvs) ∧ dat y ρ = some i ∧ keyD i = some k ∧ Q (.v ((valD kvs k).getD .non)) ρ
theorem i_get1 (k : ao EA ρ fun x ρ1 => isDc x ρ1 (ab EA ρ1 fun y ρ2 => getK x y ρ2 Q)) : aGet1 ao ab EA ρ Q := k
theorem i_isDc {kvs : List (Key × D)} (h : dat x ρ = some (.dic kvs)) (k : p) : isDc x ρ p := ⟨⟨kvs, h⟩, k⟩
theorem i_getK {kvs : List (Key × D)} {i : D} {ky : Key} (h1 : dat x ρ = some (.dic kvs)) (h2 : dat y ρ = some i) (h3 : keyD i = some ky) (h4 : (valD kvs ky).getD .non = z) (k : Q (.v z) ρ) : getK x y ρ Q := ⟨kvs, i, ky, h1, h2, h3, by rw [h4]; exact k⟩
/-- in -/
theorem i_inD {kvs : List (Key × D)} {ky : Key} (h1 : dat x ρ = some d) (h2 : dat y ρ = some (.dic kvs)) (h3 : keyD d = some ky) (k : Q (.v (.bl (valD kvs ky).isSome)) ρ) : aIn false x y ρ Q := ⟨d, _, _, h1, h2, ⟨ky, h3, rfl⟩, k⟩
theorem i_ninD {kvs : List (Key × D)} {ky : Key} (h1 : dat x ρ = some d) (h2 : dat y ρ = some (.dic kvs)) (h3 : keyD d = some ky) (k : Q (.v (.bl (!(valD kvs ky).isSome))) ρ) : aIn true x y ρ Q := ⟨d, _, _, h1, h2, ⟨ky, h3, rfl⟩, k⟩
theorem i_inL {xs : List D} (h1 : dat x ρ = some d) (h2 : dat y ρ = some (.lst xs)) (h3 : PlD 20 d) (h4 : ∀ z ∈ xs, PlD 20 z) (k : Q (.v (.bl (xs.any fun z => deq z d))) ρ) : aIn false x y ρ Q := ⟨d, _, _, h1, h2, ⟨h3, h4, rfl⟩, k⟩
theorem i_ninL {xs : List D} (h1 : dat x ρ = some d) (h2 : dat y ρ = some (.lst xs)) (h3 : PlD 20 d) (h4 : ∀ z ∈ xs, PlD 20 z) (k : Q (.v (.bl (!xs.any fun z => deq z d))) ρ) : aIn true x y ρ Q := ⟨d, _, _, h1, h2, ⟨h3, h4, rfl⟩, k⟩
theorem i_inS {c : Nat} {z : Str} (h1 : dat x ρ = some (.str ⟨#[c]⟩)) (h2 : dat y ρ = some (.str z)) (k : Q (.v (.bl (decide (c ∈ z.cps.toList)))) ρ) : aIn false x y ρ Q := ⟨_, _, _, h1, h2, ⟨c, rfl, rfl⟩, k⟩
/-- loops -/
theorem i_forItems {i : Nat} {ag : AG} {abd : AS} {kvs : List (Key × D)} (h : ρ[i]? = some (some (.v (.dic kvs)))) (k : forA (fun _ => True) ag abd { DA with ex := noX } (kvs.map pairD) ρ) : asForItems i ag abd DA ρ := ⟨kvs, h, k⟩
theorem i_itemsT {QI : List D → (AEnv → Prop) → AEnv → Prop} (k : ao EA ρ fun x ρ1 => ∃ kvs, x = .dic kvs ∧ QI (kvs.map pairD) (fun _ => True) ρ1) : aiItemsT ao EA ρ QI := k
theorem i_seqX {xs : List D} {QI : List D → (AEnv → Prop) → AEnv → Prop} (h : seqD d = some xs) (k : QI xs (fun _ => True) ρ) : ∃ xs, seqD d = some xs ∧ QI xs (fun _ => True) ρ := ⟨xs, h, k⟩
theorem i_rng1 {QI : List D → (AEnv → Prop) → AEnv → Prop} (k : aa EA ρ fun xs ρ1 => ∃ x j, xs = [x] ∧ dat x ρ1 = some (.int j) ∧ -(2 ^ 62) ≤ j ∧ j < 2 ^ 62 ∧ QI (intsD 0 j.toNat) (fun _ => True) ρ1) : aiRng1 aa EA ρ QI := k
theorem i_sortL {ds : List D} (h1 : dat x ρ = some (.lst ds)) (h2 : ∀ d ∈ ds, PlD 20 d) (h3 : PySem.W.AllAlike (ds.map pd)) (h4 : PySem.W.Sortable (ds.map pd)) (k : Q (.lst (srtD ds)) ρ) : aSort [x] ρ Q := ⟨x, _, rfl, h1, h2, h3, h4, k⟩
theorem i_sortD {kvs : List (Key × D)} {ks : List Str} (h1 : dat x ρ = some (.dic kvs)) (h2 : kvs.map (·.1) = ks.map Sum.inr) (h3 : ks.length < 64) (k : ∀ ys : List Str, ys.Perm ks → sortedS ys = true → Q (.lst (ys.map D.str)) ρ) : aSort [x] ρ Q := ⟨x, _, rfl, h1, ks, h2, h3, k⟩
theorem i_eqDic {ks ls : List (Key × D)} (h1 : dat x ρ = some (.dic ks)) (h2 : dat y ρ = some (.dic ls)) (h3 : ∀ p ∈ ks, PlD 20 p.2) (h4 : ∀ p ∈ ls, PlD 20 p.2) (h5 : (ks.map (·.1)).Nodup) (k : Q (.v (.bl (deqK ks ls))) ρ) : aEqDic x y ρ Q := ⟨ks, ls, h1, h2, h3, h4, h5, k⟩
theorem dc_rec {G : AEnv → Prop} {ag : AG} {at_ : AT} {ak ae : AE} {vs : List Nat} (W : List (Key × D) → List D → AEnv → Prop) (h0 : ∀ acc ρ, W acc [] ρ → G ρ ∧ Q (.dic acc) ρ)
    (h1 : ∀ acc x xs ρ, W acc (x :: xs) ρ → (∀ acc ρ, W acc xs ρ → dcA G ag at_ ak ae vs xs acc ρ Q) → dcA G ag at_ ak ae vs (x :: xs) acc ρ Q) : ∀ (xs : List D) (acc : List (Key × D)) (ρ : AEnv), W acc xs ρ → dcA G ag at_ ak ae vs xs acc ρ Q
  | [], acc, ρ, w => h0 acc ρ w
  | x :: xs, acc, ρ, w => h1 acc x xs ρ w fun acc' ρ' w' => dc_rec W h0 h1 xs acc' ρ' w'
end
/-! ### contracts over an index -/
inductive RX where
  | rt (r : A)
  | xc (C : Addr) (fs : List (Str × D))
section
variable {ι : Type} {args : ι → List A} {ok : ι → Prop} {po : ι → A → List A → Prop} {xc : ι → Addr → List (Str × D) → List A → Prop}
def spR (args : ι → List A) (ok : ι → Prop) (po : ι → A → List A → Prop) (xc : ι → Addr → List (Str × D) → List A → Prop) : ASp where
  pre := fun xs => ∃ i, ok i ∧ xs = args i
  post := fun xs r xs' => ∀ i, ok i → xs = args i → po i r xs'
  exc := fun xs C fs xs' => (∃ i, ok i ∧ xs = args i) ∧ ∀ i, ok i → xs = args i → xc i C fs xs'
def endsR (O : List Nat) (xs : List A) (po : A → List A → Prop) (xc : Addr → List (Str × D) → List A → Prop) : AEnds where
  nx := fun ρ => ∃ xs', fin O 0 xs ρ = some xs' ∧ po (.v .non) xs'
  rt := fun r ρ => ∃ xs', fin O 0 xs ρ = some xs' ∧ po r xs'
  bk := fun _ => False
  ct := fun _ => False
  ex := fun C fs ρ => ∃ xs', fin O 0 xs ρ = some xs' ∧ xc C fs xs'
theorem ends_spR {O : List Nat} {i : ι} (inj : ∀ j, ok j → args i = args j → i = j) (hi : ok i) : endsOf O (spR args ok po xc) (args i) = endsR O (args i) (po i) (xc i) := by
  have h1 : ∀ r xs', ((∀ j, ok j → args i = args j → po j r xs') ↔ po i r xs') := fun r xs' => ⟨fun h => h i hi rfl, fun h j hj e => by rw [← inj j hj e]; exact h⟩
  have h2 : ∀ C fs xs', (((∃ j, ok j ∧ args i = args j) ∧ ∀ j, ok j → args i = args j → xc j C fs xs') ↔ xc i C fs xs') := fun C fs xs' => ⟨fun h => h.2 i hi rfl, fun h => ⟨⟨i, hi, rfl⟩, fun j hj e => by rw [← inj j hj e]; exact h⟩⟩
  unfold endsOf endsR spR
  simp only [h1, h2]
theorem rd_R {a : AS} {O : List Nat} {n : Nat} (inj : ∀ i j, ok i → ok j → args i = args j → i = j) (h : ∀ i, ok i → a (endsR O (args i) (po i) (xc i)) (startA n (args i))) : ∀ xs, (spR args ok po xc).pre xs → a (endsOf O (spR args ok po xc) xs) (startA n xs) := by
  rintro xs ⟨i, hi, rfl⟩
  rw [ends_spR (fun j hj e => inj i j hi hj e) hi]
  exact h i hi
theorem len_R {n : Nat} (h : ∀ i, (args i).length = n) : ∀ xs, (spR args ok po xc).pre xs → xs.length = n := by
  rintro xs ⟨i, _, rfl⟩
  exact h i
variable {EA : AX} {ρ ρ' : AEnv} {Q : AK} {xs : List A}
theorem i_callR (i : ι) (h : pass xs ρ = some (args i, ρ')) (hi : ok i) (hq : ∀ r ys', po i r ys' → ys'.length = (args i).length → Q r (give xs ys' ρ')) (hx : ∀ C fs ys', xc i C fs ys' → ys'.length = (args i).length → EA C fs (give xs ys' ρ')) : callA (spR args ok po xc) xs EA ρ Q :=
  ⟨args i, ρ', h, ⟨i, hi, rfl⟩, fun r ys' p l => hq r ys' (p i hi rfl) l, fun C fs ys' p l => hx C fs ys' (p.2 i hi rfl) l⟩
theorem i_mkR {C : Addr} {ys : List A} (i : ι) (h : pass xs ρ = some (ys, ρ')) (ha : args i = .obj C [] :: ys) (hi : ok i) (hq : ∀ r y ys', po i r (y :: ys') → ys'.length = ys.length → r = .v .non ∧ Q y (give xs ys' ρ')) (hx : ∀ Ce fs y ys', xc i Ce fs (y :: ys') → ys'.length = ys.length → EA Ce fs (give xs ys' ρ')) : mkSp C (spR args ok po xc) xs EA ρ Q :=
  ⟨ys, ρ', h, ⟨i, hi, ha.symm⟩, fun r y ys' p l => hq r y ys' (p i hi ha.symm) l, fun Ce fs y ys' p l => hx Ce fs y ys' (p.2 i hi ha.symm) l⟩
/-- the same, a function of the index -/
def poI (rs : RX) (out : List A) : A → List A → Prop := fun r xs' => rs = .rt r ∧ xs' = out
def xcI (rs : RX) (out : List A) : Addr → List (Str × D) → List A → Prop := fun C fs xs' => rs = .xc C fs ∧ xs' = out
def spI (args : ι → List A) (ok : ι → Prop) (rs : ι → RX) (out : ι → List A) : ASp := spR args ok (fun i => poI (rs i) (out i)) fun i => xcI (rs i) (out i)
variable {rs : ι → RX} {out : ι → List A}
theorem i_callI {r : A} (i : ι) (h : pass xs ρ = some (args i, ρ')) (hi : ok i) (e : rs i = .rt r) (k : Q r (give xs (out i) ρ')) : callA (spI args ok rs out) xs EA ρ Q :=
  i_callR i h hi (fun r' ys' p _ => by obtain ⟨h1, rfl⟩ := p; rw [e] at h1; cases h1; exact k) fun C fs ys' p _ => by
    have h1 := p.1
    rw [e] at h1
    cases h1
theorem i_mkI {C : Addr} {ys ys' : List A} {y : A} (i : ι) (h : pass xs ρ = some (ys, ρ')) (ha : args i = .obj C [] :: ys) (hi : ok i) (e : rs i = .rt (.v .non)) (ho : out i = y :: ys') (k : Q y (give xs ys' ρ')) : mkSp C (spI args ok rs out) xs EA ρ Q :=
  i_mkR i h ha hi (fun r y' zs p _ => by
    obtain ⟨h1, h2⟩ := p
    rw [e] at h1
    cases h1
    rw [ho] at h2
    cases h2
    exact ⟨rfl, k⟩) fun Ce fs y' zs p _ => by
    have h1 := p.1
    rw [e] at h1
    cases h1
theorem i_callX {C : Addr} {fs : List (Str × D)} (i : ι) (h : pass xs ρ = some (args i, ρ')) (hi : ok i) (e : rs i = .xc C fs) (k : EA C fs (give xs (out i) ρ')) : callA (spI args ok rs out) xs EA ρ Q :=
  i_callR i h hi (fun r' ys' p _ => by have h1 := p.1; rw [e] at h1; cases h1) fun C fs ys' p _ => by
    obtain ⟨h1, rfl⟩ := p
    rw [e] at h1
    cases h1
    exact k
theorem rd_I {a : AS} {O : List Nat} {n : Nat} (inj : ∀ i j, ok i → ok j → args i = args j → i = j) (h : ∀ i, ok i → ∀ DA : AEnds, (∀ r ρ, fin O 0 (args i) ρ = some (out i) → rs i = .rt r → DA.rt r ρ) → (∀ ρ, fin O 0 (args i) ρ = some (out i) → rs i = .rt (.v .non) → DA.nx ρ) → (∀ C fs ρ, fin O 0 (args i) ρ = some (out i) → rs i = .xc C fs → DA.ex C fs ρ) → a DA (startA n (args i))) : ∀ xs, (spI args ok rs out).pre xs → a (endsOf O (spI args ok rs out) xs) (startA n xs) :=
  rd_R inj fun i hi => h i hi _ (fun r ρ h1 h2 => ⟨_, h1, h2, rfl⟩) (fun ρ h1 h2 => ⟨_, h1, h2, rfl⟩) fun C fs ρ h1 h2 => ⟨_, h1, h2, rfl⟩
theorem rd_P {a : AS} {O : List Nat} {n : Nat} (inj : ∀ i j, ok i → ok j → args i = args j → i = j) (h : ∀ i, ok i → ∀ DA : AEnds, (∀ r ρ xs', fin O 0 (args i) ρ = some xs' → po i r xs' → DA.rt r ρ) → (∀ ρ xs', fin O 0 (args i) ρ = some xs' → po i (.v .non) xs' → DA.nx ρ) → (∀ C fs ρ xs', fin O 0 (args i) ρ = some xs' → xc i C fs xs' → DA.ex C fs ρ) → a DA (startA n (args i))) : ∀ xs, (spR args ok po xc).pre xs → a (endsOf O (spR args ok po xc) xs) (startA n xs) :=
  rd_R inj fun i hi => h i hi _ (fun r ρ xs' h1 h2 => ⟨xs', h1, h2⟩) (fun ρ xs' h1 h2 => ⟨xs', h1, h2⟩) fun C fs ρ xs' h1 h2 => ⟨xs', h1, h2⟩
theorem len_I {n : Nat} (h : ∀ i, (args i).length = n) : ∀ xs, (spI args ok rs out).pre xs → xs.length = n := len_R h
end
section
variable {ρ : AEnv} {Q : AK} {G : AEnv → Prop} {ag : AG} {at_ : AT} {ae ak : AE} {vs : List Nat}
/-- a comprehension whose steps leave all names as they are -/
theorem lc_acc (t : D → Bool) (f : D → D) (hG : G ρ) : ∀ (xs acc : List D), acc.length + xs.length ≤ 100000 →
    (∀ x ∈ xs, ∀ (R : D → AEnv → Prop) (N : AEnv → Prop), (∀ ρ4, clearA vs ρ4 = ρ → t x = true → R (f x) ρ4) → (∀ ρ2, clearA vs ρ2 = ρ → t x = false → N ρ2) → ag x ρ fun ρ1 => at_ noX ρ1 fun b ρ2 => if b = true then ae noX ρ2 fun y ρ3 => useA y ρ3 R else N ρ2) →
    Q (.lst (acc ++ (xs.filter t).map f)) ρ → lcA G ag at_ ae vs xs acc ρ Q
  | [], acc, _, _, hq => ⟨hG, by simpa using hq⟩
  | x :: xs, acc, hl, h, hq => by
    simp only [List.length_cons] at hl
    refine ⟨hG, h x (List.mem_cons_self ..) (fun d ρ4 => acc.length ≤ 100000 ∧ lcA G ag at_ ae vs xs (acc ++ [d]) (clearA vs ρ4) Q) (fun ρ2 => lcA G ag at_ ae vs xs acc (clearA vs ρ2) Q) (fun ρ4 e ht => ?_) (fun ρ2 e ht => ?_)⟩
    · refine ⟨by omega, ?_⟩
      rw [e]
      refine lc_acc t f hG xs _ (by simp; omega) (fun y hy => h y (List.mem_cons_of_mem _ hy)) ?_
      simpa [List.filter_cons, ht] using hq
    · rw [e]
      refine lc_acc t f hG xs _ (by omega) (fun y hy => h y (List.mem_cons_of_mem _ hy)) ?_
      simpa [List.filter_cons, ht] using hq
theorem lc_filt (t : D → Bool) (f : D → D) {xs : List D} (hG : G ρ) (hl : xs.length ≤ 100000)
    (h : ∀ x ∈ xs, ∀ (R : D → AEnv → Prop) (N : AEnv → Prop), (∀ ρ4, clearA vs ρ4 = ρ → t x = true → R (f x) ρ4) → (∀ ρ2, clearA vs ρ2 = ρ → t x = false → N ρ2) → ag x ρ fun ρ1 => at_ noX ρ1 fun b ρ2 => if b = true then ae noX ρ2 fun y ρ3 => useA y ρ3 R else N ρ2)
    (hq : Q (.lst ((xs.filter t).map f)) ρ) : lcA G ag at_ ae vs xs [] ρ Q := lc_acc t f hG xs [] (by simpa using hl) h (by simpa using hq)
theorem filter_yes {xs : List D} : xs.filter (fun _ => true) = xs := List.filter_eq_self.mpr fun _ _ => rfl
end
end Vs

set_option Elab.async false
set_option linter.all false
set_option maxRecDepth 100000
set_option maxHeartbeats 1000000
/-! Vs: properties. -/
namespace Vs
open PySem PySem.Spec PyProof.Rows L2
section
variable {X : Cx} {P : Pm} {K : Fg} {C : Addr} {f : Str} {k : Nat} {sp : ASp} {e : Expr} {ae : AE} {pos : Pos}
/-- a property of an own class, read by its getter -/
structure CalP (Pr : Program) (w : World) (K : Fg) (mg : Str → Option Value) (base : Heap) (C : Addr) (f : Str) (k : Nat) (sp : ASp) : Prop where
  ex : ∃ p g fd ps, PropOf K C f p g ∧ Binds K fd ps [] ∧ Fok Pr w K mg base k g fd ps sp
def aProp (C : Addr) (sp : ASp) (ao : AE) : AE := fun EA ρ Q => ao EA ρ fun o ρ1 => (∃ fs, dat o ρ1 = some (.obj C fs)) ∧ callA sp [o] noX ρ1 Q
theorem sim_prop {to : TE} (h : SimE K P to ae) : SimE K P (tProp C (lift K sp) [] (fun _ _ _ => False) to) (aProp C sp ae) := by
  intro c EA ho hw τ S H σ ρ Q R s q kk
  refine h c EA ho hw τ S H σ ρ _ _ s q fun vo H0 ⟨S0, ρ0, o, s0, ⟨fs, hob⟩, q0⟩ => ?_
  have r1 := s0.dat (List.mem_cons_self ..) hob
  simp only [Rep] at r1
  obtain ⟨a, dx, ws, rfl, a1, _⟩ := r1
  refine ⟨a, dx, ws, rfl, a1, ?_⟩
  exact lift_mono (call_sim (W := fun _ _ _ _ => False) (EA := noX) xok_no rfl (vs := [.ref a]) s0 q0) (fun v H' hv => kk v H' hv) fun _ _ _ h => h
theorem qe_prop (he : QE X P e ae) (c : Cls X.K C) (F : CalP X.prog X.w X.K X.mg X.base C f k sp) (hr : Room (k + 1) X.A) (hab : attributeBase e f X.env (eval e X.env) = eval e X.env := by rfl) : QE X P (.Attribute e f pos) (aProp C sp ae) := by
  obtain ⟨t, pe, s⟩ := he.ex
  obtain ⟨p, g, fd, ps, hp, hb, hF⟩ := F.ex
  exact ⟨_, pe_prop (E := fun _ _ _ => False) pe c hp hF hr hb .nil (fun pins σ H s e s' I z => cx_false _ _ _ _ _ z) hab, sim_prop s⟩
end
end Vs

set_option Elab.async false
set_option linter.all false
set_option maxRecDepth 100000
set_option maxHeartbeats 2000000
/-! Vs: not-equal of tuples that hold dicts and instances: equal ones. -/
namespace Vs
section
open PySem PySem.SeqAt
open AutoSeq1 (wpAny_loadPart')
open MeetsSeq MeetsSeq2 MeetsSeq3 SeqRoads2
variable {prog : Program} {w : World} {A : Around} {Rz : Result → Shared → Prop}
theorem tupNe (p q : Addr) (us vs : Array Value) (m1 m2 : Nat) (e1 e2 : Option Addr) (l1 l2 : Array (Option Value)) (len : us.size = vs.size) (J : Nat → Shared → Prop)
    (go : ∀ k (a1 : k < us.size) (a2 : k < vs.size) s, J k s → wpAny (model prog w) A.in1 (eqBool us[k] vs[k]) (fun r z => r = true ∧ J (k + 1) z) (fun e z => Rz (.error e) z) s)
    (ends : ∀ s, J us.size s → Rz (.ok (.ret (.bool false))) s) {s : Shared} (g1 : s.heap.get? p = some { cls := .type "tuple", dict := e1, data := .seq us m1, slots := l1 }) (g2 : s.heap.get? q = some { cls := .type "tuple", dict := e2, data := .seq vs m2, slots := l2 }) (j0 : J 0 s) :
    wpAny (model prog w) A.in1 (Builtin.«tuple.__ne__» ⟨[.ref p, .ref q], []⟩) (GQ.FinOf prog w A Rz) (fun e z => Rz (.error e) z) s := by
  have isSub := AutoSeq1.sub_tuple_tuple
  have zl : (us.toList.zip vs.toList).length = us.size := by simp [len]
  have j1 := j0
  obtain ⟨hp, ge, dr, tk, os⟩ := s
  wp_walk using wpAny_loadPart' g1, wpAny_loadPart' g2, wpAny_forIn_list _ (fun more c z => c.1 = none ∧ ∃ k, more = (us.toList.zip vs.toList).drop k ∧ k ≤ us.size ∧ J k z) _
  case turn =>
    rintro ⟨a, b⟩ more c z ⟨c0, k, hm, hk, hJ⟩
    have lt : k < (us.toList.zip vs.toList).length := by
      rcases Nat.lt_or_ge k (us.toList.zip vs.toList).length with x | x
      · exact x
      · rw [List.drop_of_length_le x] at hm; cases hm
    have a1 : k < us.size := zl ▸ lt
    have a2 : k < vs.size := len ▸ a1
    rw [List.drop_eq_getElem_cons lt] at hm
    injection hm with hab hmore
    have ea : a = us[k] := by have := congrArg Prod.fst hab; simpa using this
    have eb : b = vs[k] := by have := congrArg Prod.snd hab; simpa using this
    subst ea eb
    refine wpAny_bind (wpAny_mono (go k a1 a2 z hJ) (fun r z2 hz => ?_) fun _ _ x => x)
    obtain ⟨rfl, hz⟩ := hz
    wp_walk
    exact ⟨rfl, k + 1, hmore, a1, hz⟩
  case fin =>
    rintro ⟨c1, c2⟩ z ⟨c0, k, hm, hk, hJ⟩
    simp only at c0
    subst c0
    have ge' : us.size ≤ k := by
      rcases Nat.lt_or_ge k (us.toList.zip vs.toList).length with x | x
      · rw [List.drop_eq_getElem_cons x] at hm; cases hm
      · exact zl ▸ x
    have ek : k = us.size := by omega
    have done_ : Rz (.ok (.ret (.bool false))) z := ends z (ek ▸ hJ)
    wp_walk
    simpa [Builtin.Tuple.tupleCompareSizes, len] using done_
  case h =>
    exact ⟨rfl, 0, rfl, Nat.zero_le _, j1⟩
theorem rcTupNe {E : Value → Shared → Prop} {s : Shared} {p q : Addr} {us vs : Array Value} {Q : Value → Shared → Prop} (len : us.size = vs.size) (hu : A.units < cLine) (J : Nat → Shared → Prop) (h1 : s.heap.IsTuple p us) (h2 : s.heap.IsTuple q vs)
    (go : ∀ k (a1 : k < us.size) (a2 : k < vs.size) s, J k s → wpAny (model prog w) A.in1 (eqBool us[k] vs[k]) (fun r z => r = true ∧ J (k + 1) z) E s)
    (ends : ∀ s, J us.size s → Q (.bool false) s) (j0 : J 0 s) : wpAny (model prog w) A (richCompare .NotEq (.ref p) (.ref q)) Q E s := by
  obtain ⟨⟨c1, d1, t1, l1⟩, o1, e1, m1, f1⟩ := id h1
  obtain ⟨⟨c2, d2, t2, l2⟩, o2, e2, m2, f2⟩ := id h2
  simp only at e1 f1 e2 f2
  subst e1 f1 e2 f2
  refine wpAny_richCompare_same_room (op := .NotEq) ⟨_, o1, rfl⟩ ⟨_, o2, rfl⟩ F.slot_tuple_ne (GQ.call_here F.slot_tuple_ne ⟨_, o1, rfl⟩ F.entry_tuple_ne (F.args_tuple_ne_2 _ _) ?_) hu
  exact tupNe (Rz := wants (fun v z => v ≠ .notImplemented ∧ Q v z) E) p q us vs m1 m2 d1 d2 l1 l2 len J go (fun z hz => ⟨(fun x => nomatch x), ends z hz⟩) o1 o2 j0
end
section
open PySem PySem.Spec PyProof.Rows L2
variable {X : Cx} {P : Pm} {K : Fg} {n : Nat}
/-- two values of one datum -/
def DRep (K : Fg) (d : D) : Eqv := fun x y H => Rep K H d x ∧ Rep K H d y
theorem mon_rep {d : D} : Mon (DRep K d) := fun x y H H' e h => ⟨Rep.le (Le.of_same e) d x h.1, Rep.le (Le.of_same e) d y h.2⟩
theorem deq_refl : ∀ (n : Nat) (d : D), PlD n d → deq d d = true := fun n d h => by
  rw [deq_pd n d d h h]
  exact SeqAt.eqv_refl_plain _ (pd_plain n d h).1
theorem eqG_plain {d : D} (h : PlD 20 d) : EqG X n (DRep X.K d) := by
  intro A pins s σ H x y u v sb I rx ry dd
  obtain ⟨as, r1⟩ := Dp.reads I _ x u (rep_dp 20 d x h dd.1) rx
  obtain ⟨bs, r2⟩ := Dp.reads I _ y v (rep_dp 20 d y h dd.2) ry
  obtain ⟨a1, a2⟩ := pd_plain 20 d h
  have hu := sb.room.units
  have q := SeqAt.eqAt_plain _ _ A s u v as bs r1 r2 a1 a1 (by have := Nat.min_le_left (pd d).depth (pd d).depth; omega)
  rw [← deq_pd 20 d d h h, deq_refl 20 d h] at q
  exact q X.prog X.w X.xe _ ⟨rfl, H, I, Ext.rfl'⟩
theorem eqG_dic0 : EqG X n (DRep X.K (.dic [])) := by
  intro A pins s σ H x y u v sb I rx ry dd
  obtain ⟨r1, r2⟩ := dd
  simp only [Rep, RepK] at r1 r2
  obtain ⟨a, ws, rfl, h1, rfl⟩ := r1
  obtain ⟨b, us, rfl, h2, rfl⟩ := r2
  cases rx
  cases ry
  have hu := sb.room.units
  by_cases hab : a = b
  · subst hab
    exact SeqAt.EqAt.same (A := A) (s := s) (.ref a) X.prog X.w X.xe _ ⟨rfl, H, I, Ext.rfl'⟩
  · obtain ⟨_, ya, va, ra, da⟩ := h1.ok I.hok
    obtain ⟨_, yb, vb, rb, db⟩ := h2.ok I.hok
    have ea : va = [] := List.eq_nil_of_length_eq_zero ra.length.symm
    have eb : vb = [] := List.eq_nil_of_length_eq_zero rb.length.symm
    subst ea eb
    have t : PySem.W.EqTree X.prog X.w s (0 + 1) (.ref a) (.ref b) _ := .dicts (e := fun _ => true) hab ya yb da db (fun _ _ _ z => nomatch z)
    exact t.at A (by omega) X.xe _ ⟨rfl, H, I, Ext.rfl'⟩
/-- an own class's instances, by its own == -/
theorem eqG_own {C : Addr} {sp : ASp} {fs : List (Str × D)} (T : EqC X.prog X.w X.K X.mg X.base C n sp) (hp : sp.pre [.v (.obj C fs), .v (.obj C fs)]) (hq : ∀ r xs', sp.post [.v (.obj C fs), .v (.obj C fs)] r xs' → r = .v (.bl true)) (hx : ∀ Ce gs xs', ¬ sp.exc [.v (.obj C fs), .v (.obj C fs)] Ce gs xs') : EqG X n (DRep X.K (.obj C fs)) := by
  obtain ⟨f, fd, ps, hs, hf, hb, F⟩ := T.ex
  have F' : FnOk X.prog X.w X.K X.mg X.base (L2.CX X.prog X.w) n f fd ps (spEq fun a b H => Rep X.K H (.obj C fs) (.ref a) ∧ Rep X.K H (.obj C fs) (.ref b)) := F.imp fun vs H Q E z => by
    obtain ⟨a, b, rfl, ⟨ra, rb⟩, q⟩ := z
    refine ⟨⟨H, H, []⟩, H, [.v (.obj C fs), .v (.obj C fs)], rfl, rfl, ?_, fun _ _ e => e, fun _ _ e => e, hp, fun r xs' v H' S' h1 _ _ st => ?_, fun Ce gs xs' dd H' S' h1 => (hx _ _ _ h1).elim⟩
    · refine ⟨⟨[], ?_, List.nodup_nil, (fun _ h => nomatch h)⟩, ?_, (fun _ _ h => nomatch h), Le.of_same (fun _ _ e => e), (fun _ _ e => e), (fun _ _ => rfl), (fun _ _ e => e), (fun _ h => nomatch h)⟩
      · simp [envP, tmpP, RepP, RepA, ra, rb]
      · exact envOk_some (vs := [.ref a, .ref b]) (xs := [.v (.obj C fs), .v (.obj C fs)]) rfl fun x hx => by
          have : x = .v (.obj C fs) := by simpa using hx
          subst this
          rfl
    · have e := hq _ _ h1
      subst e
      obtain ⟨g, hg⟩ := st.held2 (List.mem_cons_self ..) (y := .v (.bl true)) rfl
      simp only [RepA, Rep] at hg
      rw [hg.1]
      exact q H' st.r
  refine (eqG_ins (E := fun _ _ _ => False) F' hs hf hb (fun pins σ H s e s' I z => (cx_false _ _ _ _ _ z).elim)).imp fun x y H d => ?_
  obtain ⟨h1, h2⟩ := d
  have h1' := h1
  have h2' := h2
  simp only [Rep] at h1 h2
  obtain ⟨a, dx, ws, rfl, a1, _⟩ := h1
  obtain ⟨b, dy, us, rfl, b1, _⟩ := h2
  exact ⟨a, b, dx, dy, ws, us, rfl, rfl, a1, b1, h1', h2'⟩
def rNeT (K : Fg) (G : D → Prop) : R2 := fun x y H Q => ∃ ds, Rep K H (.tup ds) x ∧ Rep K H (.tup ds) y ∧ (∀ d ∈ ds, G d) ∧ ∀ H', Ext H H' → Q (.bl false) H'
theorem repL_prs {ds : List D} {H : Hp} : ∀ {es : List D} {xs ys : List V}, (∀ d ∈ es, d ∈ ds) → RepL K H es xs → RepL K H es ys → Prs (fun x y H => ∃ d ∈ ds, DRep K d x y H) xs ys H
  | [], xs, ys, _, h1, h2 => by
    simp only [RepL] at h1 h2
    subst h1 h2
    exact Prs.nil
  | e :: es, xs, ys, hm, h1, h2 => by
    simp only [RepL] at h1 h2
    obtain ⟨x, xs', rfl, a1, a2⟩ := h1
    obtain ⟨y, ys', rfl, b1, b2⟩ := h2
    exact Prs.cons ⟨e, hm e (List.mem_cons_self ..), a1, b1⟩ (repL_prs (fun d hd => hm d (List.mem_cons_of_mem _ hd)) a2 b2)
theorem op_neT {G : D → Prop} (hG : ∀ d, G d → EqG X n (DRep X.K d)) (hr : Room (n + 1) X.A) : OpR X (compareOp .NotEq) (rNeT X.K G) := by
  intro pins s σ H x y v u Q I rx ry h
  obtain ⟨ds, r1, r2, hd, q⟩ := h
  simp only [Rep] at r1 r2
  obtain ⟨a, xs, rfl, a1, a2⟩ := r1
  obtain ⟨b, ys, rfl, b1, b2⟩ := r2
  cases rx
  cases ry
  have E : EqG X n (fun x y H => ∃ d ∈ ds, DRep X.K d x y H) := fun A pins s σ H x y u v sb I rx ry ⟨d, hm, z⟩ => hG d (hd d hm) A pins s σ H x y u v sb I rx ry z
  have M : Mon (fun x y H => ∃ d ∈ ds, DRep X.K d x y H) := fun x y H H' e ⟨d, hm, z⟩ => ⟨d, hm, mon_rep x y H H' e z⟩
  have p := repL_prs (K := X.K) (ds := ds) (fun _ h => h) a2 b2
  obtain ⟨its, r, e, z⟩ := I.tuple a1
  obtain ⟨its2, r', e', z'⟩ := I.tuple b1
  have hsz : its.toArray.size = its2.toArray.size := by rw [List.size_toArray, List.size_toArray, ← r.length, ← r'.length]; exact p.1
  have sb : Sub X (n + 1) X.A := ⟨hr, rfl⟩
  show wpAny (model X.prog X.w) X.A (richCompare .NotEq (.ref a) (.ref b)) (EP X pins σ Q) X.xe s
  exact rcTupNe hsz hr.units0 (fun _ t => LoopI X pins σ H t) e e' (fun i h1 h2 t w => turnG M E sb p r r' i h1 h2 t w) (fun t ⟨H', I', ee⟩ => ⟨.bl false, H', I', rfl, q H' ee⟩) ⟨H, I, Ext.rfl'⟩
theorem Stt.grow {c : Ctx} {S H H' : Hp} {σ : L2.St} {ρ : AEnv} {τ : List (V × A)} (s : Stt K c S H σ ρ τ) (e : Ext H H') : Stt K c S H' σ ρ τ := by
  refine ⟨?_, s.env, s.loc, fun a o h => ?_, fun a o h => e _ _ (s.r a o h), s.new, s.up, s.os⟩
  · obtain ⟨fp, h1, h2, h3⟩ := s.own
    refine ⟨fp, RepP.keep (fun _ _ e => e) (fun a ha => ?_) h1, h2, h3⟩
    have := h1.there a ha
    cases q : H a with
    | none => exact absurd q this
    | some o => exact e _ _ q
  · rcases s.le a o h with q | ⟨ob, ws, q1, q2⟩
    · exact .inl (e _ _ q)
    · exact .inr ⟨ob, ws, q1, e _ _ q2⟩
def aNeT (G : D → Prop) : AR2 := fun x y ρ Q => ∃ ds, dat x ρ = some (.tup ds) ∧ dat y ρ = some (.tup ds) ∧ (∀ d ∈ ds, G d) ∧ Q (.v (.bl false)) ρ
theorem s_neT {G : D → Prop} : Sim2 K (rNeT K G) (aNeT G) := by
  intro c τ S H σ ρ vx vy x y Q R s q k
  obtain ⟨ds, h1, h2, hd, q⟩ := q
  obtain ⟨r1, r2⟩ := two_dat s h1 h2
  exact ⟨ds, r1, r2, hd, fun H' e => k _ _ (KE.sc ((s.grow e).drop.drop) rfl q)⟩
end
end Vs

set_option Elab.async false
set_option linter.all false

set_option Elab.async false
set_option linter.all false
set_option maxRecDepth 100000
set_option maxHeartbeats 1000000
/-! Vs: defaults of a class's __init__; not-equal of any tuples. -/
namespace Vs
open PySem PySem.Spec PyProof.Rows L2
section
variable {X : Cx} {P : Pm} {K : Fg} {C : Addr} {x : Str} {k n : Nat} {sp : ASp} {ps : List Str} {dd : List D} {e : Expr} {es : List Expr} {aa : AA} {p pos : Pos}
/-- a class with an __init__ whose last parameters are filled by defaults -/
structure CalD (Pr : Program) (w : World) (K : Fg) (mg : Str → Option Value) (base : Heap) (x : Str) (C : Addr) (k : Nat) (ps : List Str) (sp : ASp) (dd : List D) : Prop where
  ex : ∃ f fd ds dvs, Mk K C f ∧ mg x = some (.ref C) ∧ Binds K fd ps ds ∧ Vals dvs ds ∧ Dfl K dd dvs ∧ Fok Pr w K mg base k f fd ps sp
theorem qe_makeD (F : CalD X.prog X.w X.K X.mg X.base x C k ps sp dd) (hr : Room (k + 1) X.A) (hg : Gl X x) (hx : ∀ σ, PassesAt (L2.CX X.prog X.w) X σ (fun cls d H => P.W cls d σ H)) (ha : QA X P (e :: es) aa)
    (hdb : (x == ("__debug__" : Str)) = false := by decide) (he : starEach (e :: es) X.env = (false, eval e X.env) :: starEach es X.env := by rfl) (hpl : (backTo pos (starEach es X.env)).any (·.1) = false := by rfl) :
    QE X P (.Call (.Name x p) (e :: es) [] pos) (aMake C sp dd aa) := let ⟨_, _, _, _, h1, h2, h3, h4, h5, h6⟩ := F.ex; qe_make h1 h6 hr hg h2 h3 h4 h5 hx ha hdb he hpl
theorem dfl_tup0 {a : Addr} (h : tup0B K a = true) : Dfl K [.tup []] [.ref a] := fun S => by
  simp only [RepL, Rep]
  refine ⟨_, _, rfl, ⟨a, [], rfl, .inr ?_, rfl⟩, rfl⟩
  unfold tup0B at h
  split at h
  · rename_i c dd its m sl hl
    simp only [Bool.and_eq_true, decide_eq_true_eq] at h
    obtain ⟨rfl, h0⟩ := h
    have e : its = #[] := Array.eq_empty_of_size_eq_zero h0
    subst e
    exact ⟨_, #[], m, hl, rfl, rfl, Nat.zero_le _, .nil⟩
  · cases h
/-- data that are equal to themselves -/
def GOk (Pr : Program) (w : World) (K : Fg) (mg : Str → Option Value) (base : Heap) (n : Nat) (d : D) : Prop := PlD 20 d ∨ d = .dic [] ∨ ∃ C fs sp k, k ≤ n ∧ EqC Pr w K mg base C k sp ∧ d = .obj C fs ∧ sp.pre [.v d, .v d] ∧ (∀ r xs', sp.post [.v d, .v d] r xs' → r = .v (.bl true)) ∧ ∀ Ce gs xs', ¬ sp.exc [.v d, .v d] Ce gs xs'
theorem GOk.eqG {d : D} (h : GOk X.prog X.w X.K X.mg X.base n d) : EqG X n (DRep X.K d) := by
  rcases h with h | rfl | ⟨C, fs, sp, k, hk, T, rfl, h1, h2, h3⟩
  · exact eqG_plain h
  · exact eqG_dic0
  · exact (eqG_own T h1 h2 h3).mono hk
def aNeX (G : D → Prop) : AR2 := fun x y ρ Q => aNe x y ρ Q ∨ aNeT G x y ρ Q
theorem s_neX {r : R2} {G : D → Prop} (h : Sim2 K r aNe) : Sim2 K (fun x y H Q => r x y H Q ∨ rNeT K G x y H Q) (aNeX G) := by
  intro c τ S H σ ρ vx vy x y Q R s q k
  rcases q with q | q
  · exact .inl (h c τ S H σ ρ vx vy x y Q R s q k)
  · exact .inr (s_neT c τ S H σ ρ vx vy x y Q R s q k)
theorem or_neX {G : D → Prop} {m : Nat} (hG : ∀ d, G d → GOk X.prog X.w X.K X.mg X.base n d) (hr : Room m X.A) (hm : n + 1 ≤ m := by decide) : OpR X (compareOp .NotEq) (fun x y H Q => rNeR X.K x y H Q ∨ rNeT X.K G x y H Q) := Vs.OpR.or (or_ne hr.units) (op_neT (fun d h => (hG d h).eqG) (hr.mono hm))
theorem i_neX {ρ : AEnv} {Q : AK} {G : D → Prop} {x y : A} (h : aNe x y ρ Q) : aNeX G x y ρ Q := .inl h
theorem i_neT {ρ : AEnv} {Q : AK} {G : D → Prop} {x y : A} {ds : List D} (h1 : dat x ρ = some (.tup ds)) (h2 : dat y ρ = some (.tup ds)) (h3 : ∀ d ∈ ds, G d) (k : Q (.v (.bl false)) ρ) : aNeX G x y ρ Q := .inr ⟨ds, h1, h2, h3, k⟩
end
end Vs

set_option Elab.async false
set_option linter.all false
set_option maxRecDepth 100000
set_option maxHeartbeats 2000000
/-! Vs: sets of texts: {e for ..}, sorted of it. -/
namespace Vs
open PySem PySem.Spec PyProof.Rows L2 PpSet
/-! ### what a set of texts is -/
def keyT (e : Int × Value) : Str := match e.2 with | .str k _ => k | _ => Str.empty
def GoodT (w : World) (e : Int × Value) : Prop := ∃ k t, e.2 = Value.str k t ∧ e.1 = hashStr w k
/-- the set of the texts l at a; its table rises and can be walked -/
def SetT (w : World) (h : Heap) (a : Addr) (l : List Str) : Prop :=
  ∃ o es ep t, h.get? a = some o ∧ o.ExactSet ∧ o.data = .set es ep t ∧ (∀ e ∈ es.toList, GoodT w e) ∧ (es.toList.map keyT).Nodup ∧ (∀ k, k ∈ l ↔ k ∈ es.toList.map keyT) ∧
    es.size ≤ l.length ∧ t.fits es.size = true ∧ Ris t.place.toList ∧ (w.params.followText "set-order" = true ∨ t.led = true)
section
variable {P : Program} {w : World} {h h' : Heap} {a : Addr} {l : List Str}
theorem SetT.at (R : SetT w h a l) (k : ∀ o, h.get? a = some o → h'.get? a = some o) : SetT w h' a l := by
  obtain ⟨o, es, ep, t, ho, r⟩ := R
  exact ⟨o, es, ep, t, k o ho, r⟩
theorem goodT_elems {l : List (Int × Value)} (g : ∀ e ∈ l, GoodT w e) : ElemsOf (strKind P w) l := fun e he => by
  obtain ⟨k, t, h1, h2⟩ := g e he
  exact ⟨⟨k, by rw [h1]; exact strKind_is P w k t, h2⟩, by rw [h1] <;> rfl⟩
theorem goodT_is {e : Int × Value} (g : GoodT w e) (k : Str) : (strKind P w).is k e.2 = true ↔ keyT e = k := by
  obtain ⟨k0, t, h1, _⟩ := g
  unfold keyT
  rw [h1]
  constructor
  · intro z
    exact (strKind P w).inj _ _ _ (strKind_is P w k0 t) z
  · intro z
    have z' : k0 = k := z
    subst z'
    exact strKind_is P w k0 t
theorem goodT_mem {l : List (Int × Value)} (g : ∀ e ∈ l, GoodT w e) (k : Str) : k ∈ l.map keyT ↔ ∃ e ∈ l, (strKind P w).is k e.2 = true := by
  rw [List.mem_map]
  constructor
  · rintro ⟨e, he, q⟩
    exact ⟨e, he, (goodT_is (g e he) k).2 q⟩
  · rintro ⟨e, he, q⟩
    exact ⟨e, he, (goodT_is (g e he) k).1 q⟩
end
section
variable {P : Program} {w : World} {A : Around} {E : Value → Shared → Prop} {s : Shared} {a : Addr} {l : List Str}
theorem setT_add_tail {g : Bool → Sem Unit} (hg : ∀ (b : Bool) (s₁ : Shared) (Q' : Unit → Shared → Prop), Q' () s₁ → wpAny (model P w) A (g b) Q' E s₁)
    {o : Obj} {es : Array (Int × Value)} {ep : Nat} {t : SetTable} (ho : s.heap.get? a = some o) (hex : o.ExactSet) (hd : o.data = .set es ep t)
    {es1 : Array (Int × Value)} {t2 : SetTable} {l' : List Str} (g1 : ∀ e ∈ es1.toList, GoodT w e) (nd1 : (es1.toList.map keyT).Nodup) (m1 : ∀ k, k ∈ l' ↔ k ∈ es1.toList.map keyT)
    (hb1 : es1.size < scanBound) (hs1 : es1.size ≤ l'.length) (hf2 : t2.fits es1.size = true) (hr : Ris t2.place.toList) (hl : w.params.followText "set-order" = true ∨ t2.led = true) {wasDummy : Bool} {R : Option Bool → Shared → Prop}
    (hR : ∀ h', Heap.SameBut a s.heap h' → SetT w h' a l' → R (some true) { s with heap := h' }) :
    wpAny (model P w) A (do
        storeSet a es1 t2
        if (!wasDummy && t2.tooFull) = true then do
            g (relayAll t2 es1 (SetTable.grown es1.size)).2.2
            storeSet a (relayAll t2 es1 (SetTable.grown es1.size)).1 (relayAll t2 es1 (SetTable.grown es1.size)).2.1
            pure (some true)
          else pure (some true)) R E s := by
  refine wpAny_bind (wpAny_storeSet_of ho hd ?_ (fits_of_scanBound hb1))
  have ho1 := storeB_at (es' := es1) (t' := t2) ho hd
  have sb1 := Heap.SameBut.update s.heap a (Obj.putSet es1 t2)
  split
  · have pm := relayAll_perm t2 es1 (SetTable.grown es1.size)
    have hf3 := relayAll_fits t2 es1 (SetTable.grown es1.size)
    have hr3 := relayAll_ris t2 es1 (SetTable.grown es1.size)
    have hl3 := relayAll_led t2 es1 (SetTable.grown es1.size)
    generalize relayAll t2 es1 (SetTable.grown es1.size) = Z at pm hf3 hr3 hl3 ⊢
    obtain ⟨es2, t3, gave⟩ := Z
    dsimp only at pm hf3 hr3 hl3 ⊢
    have hsz : es2.size = es1.size := by rw [← Array.length_toList, pm.length_eq, Array.length_toList]
    have hb2 : es2.size < scanBound := by rw [hsz]; exact hb1
    refine wpAny_bind (hg _ _ _ ?_)
    refine wpAny_bind (wpAny_storeSet_of ho1 rfl ?_ (fits_of_scanBound hb2))
    have ho2 := storeB_at (es' := es2) (t' := t3) ho1 rfl
    refine wpAny_pure (hR _ (sb1.trans (Heap.SameBut.update _ a _)) ?_)
    exact ⟨_, es2, _, t3, ho2, hex, rfl, fun e he => g1 e (pm.mem_iff.mp he), (pm.map keyT).nodup_iff.mpr nd1, fun k => (m1 k).trans (pm.map keyT).mem_iff.symm, by rw [hsz]; exact hs1, hf3, hr3,
      hl.imp id fun z => by rw [hl3]; exact z⟩
  · exact wpAny_pure (hR _ sb1 ⟨_, es1, _, t2, ho1, hex, rfl, g1, nd1, m1, hs1, hf2, hr, hl⟩)
theorem setT_add_hashed {k : Str} {tk : Tok} {Q : Bool → Shared → Prop} (R : SetT w s.heap a l) (room : l.length + 1 < scanBound)
    (hQ : ∀ b h', Heap.SameBut a s.heap h' → SetT w h' a (l ++ [k]) → Q b { s with heap := h' }) :
    wpAny (model P w) A (setAddHashed a (.str k tk) ((strKind P w).hash k)) Q E s := by
  obtain ⟨o, es, ep, t, ho, hex, hd, g, nd, hm, hs, hf, hr, hl⟩ := R
  have hkey : (strKind P w).is k (.str k tk) = true := strKind_is P w k tk
  have hsc : (Value.str k tk).scannable = true := rfl
  have hel : ElemsOf (strKind P w) es.toList := goodT_elems g
  have hb : es.size < scanBound := Nat.lt_of_le_of_lt hs (Nat.lt_of_le_of_lt (Nat.le_succ _) room)
  unfold setAddHashed setAddHashedIn
  refine wpAny_holding (wpAny_bind (wpAny_setState_of ho hd hf ?_))
  dsimp only
  rw [byScan_of hsc hb hel]
  simp only [↓reduceIte]
  unfold setAddByScan
  refine wpAny_bind ?_
  refine wpAny_bind (wpAny_rule ?_)
  refine wpAny_bind (wpAny_setScan_of hkey ho hd hf hel ?_)
  cases hfi : List.findIdx? (fun e => (strKind P w).is k e.2) es.toList with
  | some j =>
    dsimp only
    obtain ⟨hj, pj, _⟩ := List.findIdx?_eq_some_iff_getElem.mp hfi
    have hSk : k ∈ l := (hm k).2 ((goodT_mem (P := P) (w := w) g k).2 ⟨es.toList[j], List.getElem_mem hj, pj⟩)
    refine wpAny_pure (wpAny_pure ?_)
    exact hQ _ s.heap (Heap.SameBut.refl a s.heap) ⟨o, es, ep, t, ho, hex, hd, g, nd, fun i => by
      rw [List.mem_append, List.mem_singleton, ← hm i]
      exact ⟨fun z => z.elim id (fun e => e ▸ hSk), .inl⟩, by rw [List.length_append]; omega, hf, hr, hl⟩
  | none =>
    dsimp only
    have hnk : k ∉ es.toList.map keyT := fun z => by
      obtain ⟨e, he, q⟩ := (goodT_mem (P := P) (w := w) g k).1 z
      have c := List.findIdx?_eq_none_iff.mp hfi e he
      rw [q] at c
      cases c
    have hgw : ∀ (b : Bool) {s₁ : Shared} {Q' : Unit → Shared → Prop}, Q' () s₁ → wpAny (model P w) A (match b with | true => rule "set.scan.the-table-gave-way" | false => pure ()) Q' E s₁ :=
      fun b s₁ Q' q => by cases b <;> first | exact wpAny_pure q | exact wpAny_rule q
    have pm := layNew_perm t es ((strKind P w).hash k) (.str k tk)
    have hf1 := layNew_fits t es ((strKind P w).hash k) (.str k tk)
    have hr1 := layNew_ris t es ((strKind P w).hash k) (.str k tk) hr
    have hl1 := layNew_led t es ((strKind P w).hash k) (.str k tk)
    generalize layNew t es ((strKind P w).hash k) (.str k tk) = Z at pm hf1 hr1 hl1 ⊢
    obtain ⟨es1, t1, wasDummy, gave⟩ := Z
    dsimp only at pm hf1 hr1 hl1 ⊢
    rw [Array.toList_push] at pm
    have pc : es1.toList.Perm (((strKind P w).hash k, Value.str k tk) :: es.toList) := pm.trans (List.perm_append_singleton _ _)
    have pk : (es1.toList.map keyT).Perm (k :: es.toList.map keyT) := pc.map keyT
    have g1 : ∀ e ∈ es1.toList, GoodT w e := fun e he => by
      rcases List.mem_cons.mp (pc.mem_iff.mp he) with z | z
      · rw [z]; exact ⟨k, tk, rfl, rfl⟩
      · exact g e z
    have nd1 : (es1.toList.map keyT).Nodup := pk.nodup_iff.mpr (List.nodup_cons.mpr ⟨hnk, nd⟩)
    have m1 : ∀ i, i ∈ l ++ [k] ↔ i ∈ es1.toList.map keyT := fun i => by
      rw [List.mem_append, List.mem_singleton, hm i, pk.mem_iff, List.mem_cons]
      exact Or.comm
    have hsz : es1.size = es.size + 1 := by rw [← Array.length_toList, pc.length_eq, List.length_cons, Array.length_toList]
    have hb1 : es1.size < scanBound := by rw [hsz]; exact Nat.lt_of_le_of_lt (Nat.succ_le_succ hs) room
    have hs1 : es1.size ≤ (l ++ [k]).length := by rw [hsz, List.length_append]; exact Nat.succ_le_succ hs
    have hled : w.params.followText "set-order" = true ∨ t1.led = true := hl.imp id fun z => by rw [hl1]; exact z
    refine wpAny_bind (hgw _ ?_)
    split
    · refine wpAny_bind ?_
      rw [hashByValue_scannable 8 hsc]
      refine wpAny_pure ?_
      refine setT_add_tail ?_ ho hex hd g1 nd1 m1 hb1 hs1 ?_ ?_ ?_ ?_
      · intro b s₁ Q' q; cases b <;> first | exact wpAny_pure q | exact wpAny_rule q
      · first | (split <;> first | exact hf1 | exact SetTable.fits_plain_off hf1) | exact hf1
      · first | (split <;> exact hr1) | exact hr1
      · first | (split <;> exact hled) | exact hled
      · intro h' sb r; dsimp only; exact wpAny_pure (hQ _ h' sb r)
    · refine wpAny_bind (wpAny_pure ?_)
      simp only [↓reduceIte]
      refine setT_add_tail ?_ ho hex hd g1 nd1 m1 hb1 hs1 ?_ ?_ ?_ ?_
      · intro b s₁ Q' q; cases b <;> first | exact wpAny_pure q | exact wpAny_rule q
      · first | (split <;> first | exact hf1 | exact SetTable.fits_plain_off hf1) | exact hf1
      · first | (split <;> exact hr1) | exact hr1
      · first | (split <;> exact hled) | exact hled
      · intro h' sb r; dsimp only; exact wpAny_pure (hQ _ h' sb r)
theorem SetT.typeIs (R : SetT w s.heap a l) : s.TypeIs (.ref a) "set" := by
  obtain ⟨o, es, ep, t, ho, hex, _⟩ := R
  exact ⟨o, ho, hex.1⟩
theorem setT_add {k : Str} {tk : Tok} {Q : Value → Shared → Prop} (R : SetT w s.heap a l) (room : l.length + 1 < scanBound)
    (hQ : ∀ h', Heap.SameBut a s.heap h' → SetT w h' a (l ++ [k]) → ∀ t', Q .none { s with heap := h', toks := t' }) :
    wpAny (model P w) A (call (.builtin "set.add") [.ref a, .str k tk]) Q E s := by
  refine wpAny_call_entry F.slot_set_add R.typeIs F.entry_set_add ?_ (F.args_set_add_2 _ _)
  unfold Builtin.«set.add» Builtin.Frozenset.oneOther
  simp only [List.isEmpty_nil, bind_assoc]
  unfold Builtin.Frozenset.addrOf setAdd
  refine wpAny_bind (wpAny_pure ?_)
  try dsimp only
  refine wpAny_bind (wpAny_pure ?_)
  try dsimp only
  refine wpAny_bind ?_
  refine wpAny_holding ?_
  refine wpAny_bind ((strKind P w).pyHash (strKind_is P w k tk) ?_)
  refine setT_add_hashed (s := { s with toks := s.toks + 1 }) R room fun b h' sb r => ?_
  show wpAny _ _ (ret Value.none) _ _ _
  exact wpAny_pure ⟨_, rfl, hQ h' sb r _⟩
theorem setT_fresh {h : Heap} (w : World) : SetT w (h.push { cls := .type "set", dict := none, data := .set #[] 0 (.fresh 0 0 (!w.params.followText "set-order")) }) h.objs.size [] :=
  ⟨_, #[], 0, _, Heap.get?_push_size _ rfl, ⟨rfl, rfl, rfl⟩, rfl, (fun e he => by simp at he), (by simp), (fun k => by simp), (by simp), (by rfl), List.Pairwise.nil, by
    show _ ∨ (!w.params.followText "set-order") = true
    cases w.params.followText "set-order"
    · exact .inr rfl
    · exact .inl rfl⟩
end
/-! ### as tracked things -/
def SetTO (w : World) (a : Addr) (l : List Str) : HO := .ext fun h => SetT w h a l
theorem setTO_new {w : World} {P : Program} {H : Hp} {h : Heap} {a : Addr} {l : List Str} (R : SetT w h a l) : ObjOk P w H h a (SetTO w a l) := by
  have ⟨o, _, _, _, ho, _⟩ := R
  exact ⟨R, ⟨o, ho⟩, fun h1 h2 p k => SetT.at p k⟩
section
variable {X : Cx}
theorem setTO_get {pins : List (Addr × Obj)} {σ : L2.St} {H : Hp} {s : Shared} {a : Addr} {l : List Str} (I : Inv X pins σ H s) (ha : H a = some (SetTO X.w a l)) : SetT X.w s.heap a l := (I.hok a _ ha).1
theorem addT_ok {pins : List (Addr × Obj)} {σ : L2.St} {H : Hp} {s : Shared} {E : Value → Shared → Prop} {D : Addr} {l : List Str} {y : Str} {tk : Tok} {Q : Value → Shared → Prop} (I : Inv X pins σ H s) (hD : H D = some (SetTO X.w D l)) (room : l.length + 1 < scanBound)
    (h : ∀ s', Inv X pins σ (upd H D (SetTO X.w D (l ++ [y]))) s' → Q .none s') : wpAny (model X.prog X.w) X.A (call (.builtin "set.add") [.ref D, .str y tk]) Q E s := by
  have R := setTO_get I hD
  refine setT_add R room fun h' sb new t' => ?_
  have he : ∃ u, h'.get? D = some u := by
    have ⟨o, _, _, _, ho, _⟩ := new
    exact ⟨o, ho⟩
  exact h _ (I.write (e := D) (t' := t') (by rw [hD]; trivial) (.inl rfl) (fun b u hb hu => (sb.2 b hb).trans hu) he (setTO_new new))
/-- sorted(set of texts), fewer than 64 -/
def rSortT (w : World) : List V → Hp → VK → Prop := fun xs H Q => ∃ (a : Addr) (l : List Str), xs = [.ref a] ∧ H a = some (SetTO w a l) ∧ l.length < 64 ∧
  ∀ ys p, ys.Nodup → (∀ k, k ∈ ys ↔ k ∈ l) → sortedS ys = true → H p = none → Q (.ref p) (upd H p (.lst (ys.map V.str)))
theorem strs_of : ∀ (vs : List Value), (∀ v ∈ vs, ∃ k t, v = Value.str k t) → StrsAre vs (vs.map fun v => keyT (0, v))
  | [], _ => .nil
  | v :: l, h => by
    obtain ⟨k, tk, rfl⟩ := h v List.mem_cons_self
    exact .cons k tk (strs_of l fun u hu => h u (List.mem_cons_of_mem _ hu))
theorem cr_sortT (hc : X.calm = true) : CallR X (.builtin "sorted") (rSortT X.w) := by
  intro pins s σ H xs us Q I r q
  obtain ⟨a, l, ex, ha, h64, q⟩ := q
  subst ex
  rw [Vals.ref1 r]
  obtain ⟨o, es, ep, t, ho, hex, hd, g, nd, hm, hs, hf, hr, hl⟩ := setTO_get I ha
  have hes : es.size < 64 := Nat.lt_of_le_of_lt hs h64
  refine Calls.call_function_entry PyProof.Rows.kind_sorted PyProof.Rows.plain_sorted PyProof.Rows.entry_sorted (PyProof.Rows.args_sorted1 _) ?_
  unfold Builtin.«sorted»
  refine wpAny_bind (m := checkCount "sorted" 1 1 _) (wpAny_pure ?_)
  refine wpAny_bind (collect_set (A := X.A.in1) (I.ok.hd hc) ⟨o, ho, hex.1, hd⟩ hf (Nat.lt_trans hes (by decide)) hr hl fun s1 vs k1 hz g1 o1 pm => ?_)
  have hvl : vs.length = es.size := by rw [pm.length_eq, List.length_map, Array.length_toList]
  have hS : StrsAre vs (vs.map fun v => keyT (0, v)) := strs_of vs fun v hv => by
    obtain ⟨e, he, q⟩ := List.mem_map.mp (pm.mem_iff.mp hv)
    obtain ⟨k, tk, h1, _⟩ := g e he
    exact ⟨k, tk, by rw [← q]; exact h1⟩
  have pk : (vs.map fun v => keyT (0, v)).Perm (es.toList.map keyT) := by
    have q := pm.map fun v => keyT (0, v)
    rw [List.map_map] at q
    exact q
  have I1 : Inv X pins σ H { s with heap := s1.heap, gens := s1.gens, drawn := s1.drawn, toks := s1.toks } :=
    I.call (ch := []) (Un.kept k1) (I.hok.kept k1) (by rw [g1]; exact I.bare) (fun _ z => nomatch z)
  have es1 : s1 = { s with heap := s1.heap, gens := s1.gens, drawn := s1.drawn, toks := s1.toks } := by
    cases s1; cases s; cases o1; rfl
  refine wpAny_bind (wpAny_newList ?_ (by rw [hvl, sizeLine_eq]; omega))
  have hoL : (s1.heap.push (seqObj "list" vs.toArray 0)).get? s1.heap.objs.size = some (seqObj "list" vs.toArray 0) := Heap.get?_push_size _ rfl
  refine wpAny_bind (wpAny_holding (wpAny_call_entry PyProof.Rows.slot_list_sort ⟨_, hoL, rfl⟩ PyProof.Rows.entry_list_sort
    (list_sort_treeK strKind_oneLt (s := { s1 with heap := s1.heap.push (seqObj "list" vs.toArray 0) }) hoL hS.keysOf (fun v₁ v₂ rest e => keyKind_strs (by rw [← e]; exact hS)) (by rw [hvl]; exact hes) fun st' hp hs => ⟨_, rfl, ?_⟩)
    (PyProof.Rows.args_list_sort _)))
  obtain ⟨ys, z1, z2, z3⟩ := sorted_out_str hS hp hs
  obtain ⟨e', he'⟩ := PyProof.Rows.sortedHeap_at (vs := vs) (out := (arrOf st').map (·.2)) hoL
  have py : ys.Perm (es.toList.map keyT) := z2.trans pk
  have hlen : (ys.map V.str).length ≤ sizeLine := by
    rw [List.length_map, py.length_eq, List.length_map, Array.length_toList]
    exact Nat.le_trans (Nat.le_of_lt hes) (by decide)
  have L := I1.laid (t' := s1.toks) (h' := sortedHeap (s1.heap.push (seqObj "list" vs.toArray 0)) s1.heap.objs.size vs ((arrOf st').map (·.2))) (fun b u e => by
    have hb : b < s1.heap.objs.size := Heap.lt_size e
    rw [PyProof.Rows.sortedHeap_old (Nat.ne_of_lt hb) (by rw [size_push']; exact Nat.lt_succ_of_lt hb)]
    exact Heap.get?_push_of_some _ e) (Nat.le_refl _)
    (show ObjOk X.prog X.w _ _ _ (.lst (ys.map V.str)) from ⟨hlen, ((arrOf st').map (·.2)).toList, e', vals_of_strs z1, by rw [Array.toArray_toList]; exact he'⟩)
  refine wpAny_pure ⟨_, rfl, .ref s1.heap.objs.size, upd H s1.heap.objs.size (.lst (ys.map V.str)), ?_, rfl, q ys _ (py.nodup_iff.mpr nd) (fun k => by rw [py.mem_iff, ← hm k]) z3 (I1.hok.fresh (Nat.le_refl _))⟩
  rw [es1] at L ⊢
  exact L
end
end Vs

set_option Elab.async false
set_option linter.all false
set_option maxRecDepth 100000
set_option maxHeartbeats 2000000
/-! Vs: sorted({e for t in it if ..}) of texts. -/
namespace Vs
open PySem PySem.Spec PyProof.Rows L2 PpSet
section
variable {X : Cx}
/-- {elt for target in iter if ..}, elt a text: D the new set -/
def tScT (w : World) (wi : TI) (g : TG) (tt : TT) (te : TE) (vs : List Nat) : TE := fun σ H Q => wi σ H fun J H1 => ∀ D, H1 D = none → ∃ W : Nat → Nat → Hp → Prop, (∃ m, W 0 m (upd H1 D (SetTO w D []))) ∧ ∀ i m H, W i m H →
  (J.stop i H ∧ Q (.ref D) H) ∨ (J.go i H ∧ ∃ Nx : Hp → Prop, (∀ H', Nx H' → ∃ m', m' < m ∧ W (i + 1) m' H') ∧ ∀ x H', J.yld i H x H' → g x (wipe σ vs) H' fun σ2 H2 => wipe σ2 vs = wipe σ vs ∧ tt σ2 H2 fun b H3 =>
    if b = true then te σ2 H3 fun y H4 => ∃ (c : Str) (l : List Str), y = .str c ∧ H4 D = some (SetTO w D l) ∧ l.length + 1 < scanBound ∧ Nx (upd H4 D (SetTO w D (l ++ [c]))) else Nx H3)
theorem sc_coreT {pins : List (Addr × Obj)} {s : Shared} {σ : L2.St} {H : Hp} {Q : VK} {elt tg iter : Expr} {ifs : List Expr} {scope : Scope} {own : List (PySem.Str × Nat)} {pos pos' : Pos} {wi : TI} {g : TG} {tt : TT} {te : TE} {use : Option (Value → Sem Unit)} {Qf : Value → Shared → Prop}
    (hc : X.calm = true) (hN : X.N.Nodup) (I : Inv X pins σ H s) (hi : PI X tg iter wi) (ok : BlkOk X.N X.env.scope scope own)
    (hg : ∀ (s : Shared) (H : Hp) (C : Addr) (cl : List (PySem.Str × Addr)) (fp : List Addr), PG (X.blk s H scope (compEnvC scope cl C X.env) fp) tg g) (ht : ∀ (s : Shared) (H : Hp) (C : Addr) (cl : List (PySem.Str × Addr)) (fp : List Addr), PTs (X.blk s H scope (compEnvC scope cl C X.env) fp) ifs tt)
    (he : ∀ (s : Shared) (H : Hp) (C : Addr) (cl : List (PySem.Str × Addr)) (fp : List Addr), PE (X.blk s H scope (compEnvC scope cl C X.env) fp) elt te) (hs : ∀ x, foldedSetIterable iter X.env x = pure x)
    (h : tScT X.w wi g tt te (own.map (·.2)) σ H Q)
    (hRR : ∀ D C s' m H', Inv X pins σ H' s' → Q (.ref D) H' → s'.heap.Ns C m → FpOk X pins H' C → compPost (model X.prog X.w) X.A X.xe use Qf (.ref D) C (.ok .next) s') :
    wpAny (model X.prog X.w) X.A (comprehension (.SetComp elt [⟨tg, iter, ifs, 0⟩] scope pos) scope X.env pos' (newSet (.type "set")) false (eval iter X.env) use) Qf X.xe s := by
  have hfree : ∀ y ∈ scope.names, y.2 = .free → ∃ c, X.env.cells.lookup y.1 = some c := fun y hy e => by
    rcases ok.free y hy e with k | k
    · exact I.ok.has _ (.inl k)
    · exact I.ok.has _ (.inr k)
  refine wpAny_comprehension_free (use := use) rfl hs (closure_ok hfree) ok.kind (fun y hy e => by rw [ok.uniq y hy, e])
    (thn (hi.run pins s σ H _ I h) fun xv s1 hx => thn hx fun itv s2 h2 => ?_)
  obtain ⟨it, fp, tn, J, H2, e, I2, T, st2, f2, q⟩ := h2
  subst e
  refine newSet_ok (newEnv_comp ?_)
  generalize hD : s2.heap.objs.size = D
  have hDn : H2 D = none := I2.hok.fresh (Nat.le_of_eq hD)
  obtain ⟨W, ⟨m0, w0⟩, turn⟩ := q D hDn
  generalize hs3 : ({ s2 with heap := s2.heap.push { cls := .type "set", dict := none, data := .set #[] 0 (.fresh 0 0 (!X.w.params.followText "set-order")) } } : Shared) = s3
  have I3 : Inv X pins σ (upd H2 D (SetTO X.w D [])) s3 := by
    rw [← hs3]
    refine I2.laid (t' := s2.toks) (fun b o e => Heap.get?_push_of_some _ e) (Nat.le_of_eq hD) ?_
    rw [← hD]
    exact setTO_new (setT_fresh X.w)
  have h3 : s3.heap = s2.heap.push { cls := .type "set", dict := none, data := .set #[] 0 (.fresh 0 0 (!X.w.params.followText "set-order")) } := by rw [← hs3]
  have sz : ∀ b ∈ fp, b < s2.heap.objs.size := fun b hb => by
    obtain ⟨o, e, _⟩ := T.obj _ _ st2 b hb
    exact Heap.lt_size e
  have f3 : ∀ b ∈ fp, FpOk X pins (upd H2 D (SetTO X.w D [])) b ∧ b < s3.heap.objs.size := fun b hb => by
    have hlt := sz b hb
    refine ⟨⟨?_, (f2 b hb).2⟩, by rw [h3, Heap.size_push]; exact Nat.lt_succ_of_lt hlt⟩
    rw [upd_ne (by rw [← hD]; exact Nat.ne_of_lt hlt)]
    exact (f2 b hb).1
  have st3 : tn 0 s3.heap := T.keep _ _ _ st2 fun b _ o e => by rw [h3]; exact Heap.get?_push_of_some _ e
  have I4 := block_start I3 ok hN f3
  have pg := hg s3 (upd H2 D (SetTO X.w D [])) s3.heap.objs.size (cellsFrom (s3.heap.objs.size + 1) scope.names (cloFrom X.env.cells scope.names [])) fp
  have pt := ht s3 (upd H2 D (SetTO X.w D [])) s3.heap.objs.size (cellsFrom (s3.heap.objs.size + 1) scope.names (cloFrom X.env.cells scope.names [])) fp
  have pe := he s3 (upd H2 D (SetTO X.w D [])) s3.heap.objs.size (cellsFrom (s3.heap.objs.size + 1) scope.names (cloFrom X.env.cells scope.names [])) fp
  show codeAny _ _ (.compStart (.SetComp elt [⟨tg, iter, ifs, 0⟩] scope pos) 0 (.ref it) (.ref D) (compEnvC scope (cellsFrom (s3.heap.objs.size + 1) scope.names (cloFrom X.env.cells scope.names [])) s3.heap.objs.size X.env)) (compPost (model X.prog X.w) X.A X.xe use Qf (.ref D) s3.heap.objs.size) { s3 with heap := pushCells (s3.heap.push { cls := .type "dict", data := .dict #[] }) scope.names }
  have nfp : ∀ b ∈ fp, (upd H2 D (SetTO X.w D [])) b = none := fun b hb => (f3 b hb).1.1
  generalize hce : compEnvC scope (cellsFrom (s3.heap.objs.size + 1) scope.names (cloFrom X.env.cells scope.names [])) s3.heap.objs.size X.env = ce at I4 pg pt pe ⊢
  have cL : ce.locals = s3.heap.objs.size := by subst hce; rfl
  generalize hH3 : upd H2 D (SetTO X.w D []) = H3 at I3 I4 pg pt pe w0 nfp f3
  generalize hs4 : ({ s3 with heap := pushCells (s3.heap.push { cls := .type "dict", data := .dict #[] }) scope.names } : Shared) = s4 at I4 ⊢
  have st4 : tn 0 s4.heap := T.keep _ _ _ st3 fun b _ o e => by rw [← hs4]; exact pushCells_keeps _ _ _ _ (Heap.get?_push_of_some _ e)
  have stat : ∀ {σ' : L2.St} {H' : Hp} {s' : Shared}, Inv (X.blk s3 H3 scope ce fp) [] σ' H' s' → (∀ b ∈ fp, H' b = none) → ∀ b ∈ fp, FpOk (X.blk s3 H3 scope ce fp) [] H' b := fun {σ' H' s'} I' hn b hb =>
    ⟨hn b hb, (I'.ok.exf b hb).1, I'.ok.exfs b hb, .inl hb, fun x c e => (I'.ok.exf b hb).2 x c e, fun p hp => absurd (show p ∈ ([] : List (Addr × Obj)) ++ [] from hp) (by simp)⟩
  have loop : codeAny (model X.prog X.w) X.A (.compLoop (.SetComp elt [⟨tg, iter, ifs, 0⟩] scope pos) 0 (.ref it) (.ref D) ce) (compPost (model X.prog X.w) X.A X.xe use Qf (.ref D) s3.heap.objs.size) s4 := by
    refine compLoopS_any (fun n s' => ∃ i H', Inv (X.blk s3 H3 scope ce fp) [] (wipe σ (own.map (·.2))) H' s' ∧ tn i s'.heap ∧ (∀ b ∈ fp, H' b = none) ∧ W i n H') ?_ m0 ⟨0, H3, I4, st4, nfp, w0⟩
    rintro n s5 ⟨i, H5, I5, st5, n5, w5⟩
    rcases turn i n H5 w5 with ⟨stop, qq⟩ | ⟨go, Nx, hNx, step⟩
    · have td := T.done (X.blk s3 H3 scope ce fp) rfl rfl rfl hc i [] s5 _ H5 (fun _ _ => False) I5 (stat I5 n5) st5 stop
      refine thnF td fun r s6 ⟨hr, I6⟩ => ?_
      subst hr
      have I7 : Inv X pins σ H5 s6 := I3.call' (ch := fp) I6.os I6.base I6.hok I6.bare fun b hb => ⟨(f3 b hb).1.2.2.2.1, (f3 b hb).1.2.1, (f3 b hb).1.2.2.2.2.1, (f3 b hb).1.2.2.2.2.2⟩
      have nC : H5 s3.heap.objs.size = none := by
        have z : H5 ce.locals = none := I6.free
        rw [cL] at z
        exact z
      obtain ⟨m, hn, _⟩ := I6.loc
      have hn : s6.heap.Ns ce.locals m := hn
      rw [cL] at hn
      exact hRR D s3.heap.objs.size s6 m H5 I7 qq hn (I3.fpOk (Nat.le_refl _) nC)
    · have ti := T.item (X.blk s3 H3 scope ce fp) rfl rfl rfl hc i [] s5 _ H5 (fun _ _ => False) I5 (stat I5 n5) st5 go
      refine thnF ti fun r s6 ⟨u, hr, h6⟩ => ?_
      subst hr
      refine thnF h6 fun _ s7 ⟨x, H7, I7, r7, y7, st7, n7⟩ => ?_
      have I7' := I7.pinned (stat I7 n7) (T.obj _ _ st7)
      refine thnF (pg.run _ s7 _ H7 x u _ I7' r7 (step x H7 y7)) fun _ s8 ⟨σ8, H8, I8, hw8, q8⟩ => ?_
      refine thnF (pt.run _ s8 σ8 H8 _ I8 q8) fun b s9 ⟨H9, I9, q9⟩ => ?_
      have fin : ∀ {s' : Shared} {H' : Hp}, Inv (X.blk s3 H3 scope ce fp) ([] ++ pinsAt fp s7.heap) σ8 H' s' → Nx H' → ∃ m, m < n ∧ ∃ i H', Inv (X.blk s3 H3 scope ce fp) [] (wipe σ (own.map (·.2))) H' s' ∧ tn i s'.heap ∧ (∀ b ∈ fp, H' b = none) ∧ W i m H' := fun {s' H'} I' nx => by
        obtain ⟨m', hm, w'⟩ := hNx H' nx
        have pin' : ∀ b ∈ fp, ∀ o, s7.heap.get? b = some o → s'.heap.get? b = some o ∧ H' b = none := fun b hb o e =>
          let z := I'.pin (b, o) (List.mem_append_right _ (List.mem_append_right _ (mem_pinsAt hb e)))
          ⟨z.1, z.2.1⟩
        have hl : (wipe σ (own.map (·.2))).length = σ8.length := by rw [← hw8, wipe_length]
        refine ⟨m', hm, i + 1, H', (I'.unpinned (pins := [])).weak hl (fun j v e => ?_), T.keep _ _ _ st7 fun b hb o e => (pin' b hb o e).1, fun b hb => ?_, w'⟩
        · rw [← hw8] at e
          exact (wipe_some e).1
        · obtain ⟨o, e, _⟩ := T.obj _ _ st7 b hb
          exact (pin' b hb o e).2
      cases b with
      | false =>
        simp only [Bool.false_eq_true, if_false] at q9 ⊢
        exact fin I9 q9
      | true =>
        simp only [if_true] at q9 ⊢
        refine thnF (pe.run _ s9 σ8 H9 _ I9 q9) fun z s10 ⟨yv, H10, I10, r10, cb, l0, ey, hD10, hz10, nx⟩ => ?_
        subst ey
        obtain ⟨tk, rfl⟩ := r10
        exact addT_ok (X := X.blk s3 H3 scope ce fp) I10 hD10 hz10 fun s11 I11 => fin I11 nx
  exact codeAny_compStart_set loop (T.self X.A 0 _ _ _ st4 loop)
theorem pe_scT {elt tg iter : Expr} {ifs : List Expr} {scope : Scope} {own : List (PySem.Str × Nat)} {pos : Pos} {wi : TI} {g : TG} {tt : TT} {te : TE} (hc : X.calm = true) (hN : X.N.Nodup) (hi : PI X tg iter wi) (ok : BlkOk X.N X.env.scope scope own)
    (hg : ∀ (s : Shared) (H : Hp) (C : Addr) (cl : List (PySem.Str × Addr)) (fp : List Addr), PG (X.blk s H scope (compEnvC scope cl C X.env) fp) tg g) (ht : ∀ (s : Shared) (H : Hp) (C : Addr) (cl : List (PySem.Str × Addr)) (fp : List Addr), PTs (X.blk s H scope (compEnvC scope cl C X.env) fp) ifs tt)
    (he : ∀ (s : Shared) (H : Hp) (C : Addr) (cl : List (PySem.Str × Addr)) (fp : List Addr), PE (X.blk s H scope (compEnvC scope cl C X.env) fp) elt te) (hs : ∀ x, foldedSetIterable iter X.env x = pure x := by intro _; rfl) :
    PE X (.SetComp elt [⟨tg, iter, ifs, 0⟩] scope pos) (tScT X.w wi g tt te (own.map (·.2))) := by
  refine ⟨fun pins s σ H Q I h => ?_⟩
  rw [eval_SetComp]
  refine sc_coreT hc hN I hi ok hg ht he hs h fun D C s' m H' I' q hn f => ⟨m, hn, fun h'' sb => ?_⟩
  obtain ⟨f0, f1, f2, f3, f4, f5⟩ := f
  exact ⟨.ref D, H', I'.turned (t' := s'.toks) (fun b o hb e => (sb.2 b hb).trans e) f0 f1 f3 f4 f5, rfl, q⟩
end
/-! ### a thing of the rest -/
def extR (c : Ctx) (D : Addr) (o : HO) : Ctx := { c with R := upd c.R D o }
section
variable {K : Fg} {c : Ctx} {S H : Hp} {σ : L2.St} {ρ : AEnv} {τ : List (V × A)} {D : Addr} {o o' : HO}
theorem Stt.extNew (s : Stt K c S H σ ρ τ) (hp : H D = none) : Stt K (extR c D o) S (upd H D o) σ ρ τ := by
  obtain ⟨f1, f2, f3⟩ := s.fresh hp
  obtain ⟨fp, r, nd, h3⟩ := s.own
  have nD := f3 fp r
  refine ⟨⟨fp, r.keep (Same.refl S) fun a ha => upd_ne (fun z => nD (z ▸ ha)), nd, fun a ha => ⟨(h3 a ha).1, ?_⟩⟩, s.env, s.loc, s.le.up f1, fun a u e => ?_, fun a ha => ?_, s.up, s.os⟩
  · show upd c.R D o a = none
    rw [upd_ne (show a ≠ D from fun z => nD (z ▸ ha))]
    exact (h3 a ha).2
  · have e' : upd c.R D o a = some u := e
    by_cases z : a = D
    · subst z
      rw [upd_same] at e' ⊢
      exact e'
    · rw [upd_ne z] at e' ⊢
      exact s.r a u e'
  · by_cases z : a = D
    · subst z
      rw [f1]
      exact (Same.none s.up f1).symm
    · have ha' : upd c.R D o a ≠ none := ha
      rw [upd_ne z] at ha'
      exact s.new a ha'
theorem Stt.extGet (s : Stt K (extR c D o) S H σ ρ τ) : H D = some o := s.r D o (show upd c.R D o D = some o from upd_same)
theorem Stt.extSet (s : Stt K (extR c D o) S H σ ρ τ) (h0 : c.S0 D = none) : Stt K (extR c D o') S (upd H D o') σ ρ τ := by
  have hD : (extR c D o).R D ≠ none := by
    show upd c.R D o D ≠ none
    rw [upd_same]
    exact fun z => nomatch z
  have f1 : S D = none := (s.new D hD).trans h0
  obtain ⟨fp, r, nd, h3⟩ := s.own
  have nD : D ∉ fp := fun z => hD (h3 D z).2
  have off : ∀ a, a ≠ D → (extR c D o').R a = (extR c D o).R a := fun a z => by
    show upd c.R D o' a = upd c.R D o a
    rw [upd_ne z, upd_ne z]
  refine ⟨⟨fp, r.keep (Same.refl S) fun a ha => upd_ne (fun z => nD (z ▸ ha)), nd, fun a ha => ⟨(h3 a ha).1, ?_⟩⟩, s.env, s.loc, s.le.up f1, fun a u e => ?_, fun a ha => ?_, s.up, s.os⟩
  · rw [off a (fun z => nD (z ▸ ha))]
    exact (h3 a ha).2
  · by_cases z : a = D
    · subst z
      have e' : upd c.R a o' a = some u := e
      rw [upd_same] at e' ⊢
      exact e'
    · rw [off a z] at e
      rw [upd_ne z]
      exact s.r a u e
  · by_cases z : a = D
    · subst z
      exact s.new a hD
    · rw [off a z] at ha
      exact s.new a ha
theorem Stt.extOff (s : Stt K (extR c D o) S H σ ρ τ) (h0 : c.R D = none) : Stt K c S H σ ρ τ := by
  have off : ∀ a, a ≠ D → (extR c D o).R a = c.R a := fun a z => by
    show upd c.R D o a = c.R a
    rw [upd_ne z]
  have hD : (extR c D o).R D ≠ none := by
    show upd c.R D o D ≠ none
    rw [upd_same]
    exact fun z => nomatch z
  obtain ⟨fp, r, nd, h3⟩ := s.own
  refine ⟨⟨fp, r, nd, fun a ha => ⟨(h3 a ha).1, ?_⟩⟩, s.env, s.loc, s.le, fun a u e => ?_, fun a ha => ?_, s.up, s.os⟩
  · have zz : a ≠ D := fun z => by subst z; exact hD (h3 a ha).2
    rw [← off a zz]
    exact (h3 a ha).2
  · have z : a ≠ D := ne_of_none e h0
    exact s.r a u (by rw [off a z]; exact e)
  · have z : a ≠ D := fun z => ha (z ▸ h0)
    exact s.new a (by rw [off a z]; exact ha)
end
/-! ### the meaning -/
def scA (ag : AG) (at_ : AT) (ae : AE) (vs : List Nat) : List D → List Str → AEnv → (List Str → AEnv → Prop) → Prop
  | [], acc, ρ, Q => Q acc ρ
  | x :: xs, acc, ρ, Q => ag x ρ fun ρ1 => at_ noX ρ1 fun b ρ2 => if b = true then ae noX ρ2 fun y ρ3 => ∃ k, y = .v (.str k) ∧ acc.length + 1 < 64 ∧ scA ag at_ ae vs xs (acc ++ [k]) (clearA vs ρ3) Q else scA ag at_ ae vs xs acc (clearA vs ρ2) Q
def aSortSc (ai : AE) (ag : AG) (at_ : AT) (ae : AE) (vs : List Nat) : AE := fun EA ρ Q => ai EA ρ fun x ρ1 => ∃ xs, x = .v (.tup xs) ∧ NoneAt vs ρ1 ∧ scA ag at_ ae vs xs [] ρ1 fun l ρ2 => l.length < 64 ∧
  ∀ ys : List Str, ys.Nodup → (∀ k, k ∈ ys ↔ k ∈ l) → sortedS ys = true → Q (.lst (ys.map D.str)) ρ2
section
variable {X : Cx} {P : Pm} {K : Fg} {pos : Pos}
theorem sim_scT {w : World} {ti : TE} {g : TG} {tt : TT} {te : TE} {ai : AE} {ag : AG} {at_ : AT} {ae : AE} {vs ws : List Nat} (hO : ∀ v ∈ vs, v ∉ P.O) (hws : ∀ i ∈ ws, i ∈ vs) (si : SimE K P ti ai) (sg : SimG K (Pn P) g ag ws) (st : SimT K (Pn P) tt at_) (se : SimE K (Pn P) te ae) :
    SimE K P (tCB (rSortT w) (tCons (tScT w (iSeq K ti) g tt te vs) tNil)) (aSortSc ai ag at_ ae vs) := by
  intro c EA ho hw τ S H σ ρ Q R s q k
  have hos : ∀ p ∈ c.os, p.1 ∉ vs := fun p m z => hO p.1 z (ho.1 p m)
  refine si c EA ho hw τ S H σ ρ _ _ s q fun v H1 ⟨S1, ρ1, x, s1, xs, ex, hn1, q1⟩ => ?_
  subst ex
  have rp := s1.data
  simp only [Rep] at rp
  obtain ⟨a, us, e, hq, hrl⟩ := rp
  subst e
  refine .inr (.inl ⟨a, rfl, ⟨us, SqT.le s1.le hq⟩, fun Dl hD => ?_⟩)
  obtain ⟨f1, f2, f3⟩ := s1.fresh hD
  have S0D : c.S0 Dl = none := Same.none s1.up f1
  have s1' : Stt K c S1 H1 (wipe σ vs) ρ1 ((.ref a, .v (.tup xs)) :: τ) := s1.but wipe_but hn1 hos
  have s2 := s1'.extNew (o := SetTO w Dl []) hD
  refine ⟨fun i m H => ∃ S ρ l, Stt K (extR c Dl (SetTO w Dl l)) S H (wipe σ vs) ρ ((.ref a, .v (.tup xs)) :: τ) ∧ NoneAt vs ρ ∧ i + m = xs.length ∧ scA ag at_ ae vs (xs.drop i) l ρ fun l ρ2 => l.length < 64 ∧
    ∀ ys : List Str, ys.Nodup → (∀ k, k ∈ ys ↔ k ∈ l) → sortedS ys = true → Q (.lst (ys.map D.str)) ρ2, ⟨xs.length, S1, ρ1, [], s2, hn1, by omega, by simpa using q1⟩, ?_⟩
  rintro i m H2 ⟨S2, ρ2, l, s3, hn2, hm, q2⟩
  have noloc : ∀ u j, (u, A.loc j) ∈ (V.ref a, A.v (.tup xs)) :: τ → j ∉ vs := fun u j mm z => by
    obtain ⟨_, y, hy⟩ := s3.loc u j mm
    rw [hn2 j z] at hy
    cases hy
  have rp3 := s3.data
  simp only [Rep] at rp3
  obtain ⟨a', us3, e3, hq3, hrl3⟩ := rp3
  cases e3
  have hq4 := SqT.le s3.le hq3
  have hlen3 : us3.length = xs.length := hrl3.len
  by_cases hlt : i < xs.length
  · have e : xs.drop i = xs[i] :: xs.drop (i + 1) := List.drop_eq_getElem_cons hlt
    rw [e] at q2
    obtain ⟨vi, hvi, rvi⟩ := hrl3.at0 (List.getElem?_eq_getElem hlt)
    refine .inr ⟨⟨us3, vi, hq4, hvi⟩, fun H' => ∃ S ρ l, Stt K (extR c Dl (SetTO w Dl l)) S H' (wipe σ vs) ρ ((.ref a, .v (.tup xs)) :: τ) ∧ NoneAt vs ρ ∧ scA ag at_ ae vs (xs.drop (i + 1)) l ρ fun l ρ2 => l.length < 64 ∧
      ∀ ys : List Str, ys.Nodup → (∀ k, k ∈ ys ↔ k ∈ l) → sortedS ys = true → Q (.lst (ys.map D.str)) ρ2, fun H' ⟨S', ρ', acc', a1, a2, a3⟩ => ⟨m - 1, by omega, S', ρ', acc', a1, a2, by omega, a3⟩, fun x H' hy => ?_⟩
    obtain ⟨eH, hy⟩ := hy
    subst eH
    have ex : x = vi := by
      have z := hy us3 hq4
      rw [hvi] at z
      exact (Option.some.inj z).symm
    subst ex
    have ho' : OsIn K (extR c Dl (SetTO w Dl l)) P.O := ⟨ho.1, ho.2.1, fun _ _ _ _ _ z => ho.2.2 _ _ _ _ _ (z.extOff f2)⟩
    have s4 := s3.hold rvi
    refine sg _ ho' _ S2 H' (wipe σ vs) ρ2 x xs[i] _ _ s4 (fun u j mm z => noloc u j mm (hws j z)) q2 fun σ' ρ' s5 bt q5 => ?_
    have btv : But vs (wipe σ vs) σ' := bt.mono hws
    have wip : wipe (wipe σ vs) vs = wipe σ vs := But.wipe (But.symm wipe_but).symm
    refine ⟨(But.wipe btv).trans wip, st _ noX ho' xok_no _ S2 H' σ' ρ' _ _ s5 q5 fun b H3 ⟨S4, ρ4, s6, q6⟩ => ?_⟩
    have back : ∀ {S H : Hp} {ρ : AEnv} {l : List Str}, Stt K (extR c Dl (SetTO w Dl l)) S H σ' ρ ((.ref a, .v (.tup xs)) :: τ) → Stt K (extR c Dl (SetTO w Dl l)) S H (wipe σ vs) (clearA vs ρ) ((.ref a, .v (.tup xs)) :: τ) ∧ NoneAt vs (clearA vs ρ) := fun {S H ρ l'} z => by
      have hlen : ∀ v ∈ vs, v < ρ.length := fun v hv => by
        have e1 := lt_of_get (hn2 v hv)
        have e2 := s3.env.len
        have e3 := z.env.len
        have e4 := btv.1
        omega
      have nn := clear_none (ρ := ρ) hlen
      exact ⟨(z.clears vs noloc).but (But.symm btv) nn hos, nn⟩
    cases b with
    | false =>
      rw [if_neg Bool.false_ne_true] at q6 ⊢
      obtain ⟨z1, z2⟩ := back s6
      exact ⟨S4, _, l, z1, z2, q6⟩
    | true =>
      rw [if_pos rfl] at q6 ⊢
      refine se _ noX ho' xok_no _ S4 H3 σ' ρ4 _ _ s6 q6 fun vy H4 ⟨S5, ρ5, y, s7, kk, ey, hz, q7⟩ => ?_
      subst ey
      have rd := s7.data
      simp only [Rep] at rd
      subst rd
      have s8 := s7.drop
      refine ⟨kk, l, rfl, s8.extGet, Nat.lt_trans hz (by decide), ?_⟩
      obtain ⟨z1, z2⟩ := back (s8.extSet (o' := SetTO w Dl (l ++ [kk])) S0D)
      exact ⟨S5, _, _, z1, z2, q7⟩
  · have e : xs.drop i = [] := List.drop_eq_nil_of_le (by omega)
    rw [e] at q2
    obtain ⟨h64, q2⟩ := q2
    refine .inl ⟨⟨us3, hq4, by omega⟩, ?_⟩
    refine ⟨Dl, l, rfl, s3.extGet, h64, fun ys p nd hm2 hs hp => ?_⟩
    have s9 : Stt K c S2 H2 (wipe σ vs) ρ2 ((.ref a, .v (.tup xs)) :: τ) := s3.extOff f2
    have s10 : Stt K c S2 H2 σ ρ2 τ := (s9.but (But.symm wipe_but) hn2 hos).drop
    exact k _ _ ⟨S2, ρ2, .lst (ys.map D.str), s10.newList hp (repL_strs ys), q2 ys nd hm2 hs⟩
theorem qe_sortSc {elt tg iter : Expr} {ifs : List Expr} {scope : Scope} {ai : AE} {ag : AG} {at_ : AT} {ae : AE} {ws : List Nat} {p cpos : Pos} (own : List (Str × Nat)) (hc : X.calm = true) (hN : X.N.Nodup) (hg0 : Gl X "sorted") (hm : X.mg "sorted" = none) (ok : BlkOk X.N X.env.scope scope own) (hi : QE X P iter ai)
    (hg : ∀ (s : Shared) (H : Hp) (C : Addr) (cl : List (Str × Addr)) (fp : List Addr), QG (X.blk s H scope (compEnvC scope cl C X.env) fp) (Pn P) tg ag ws) (ht : ∀ (s : Shared) (H : Hp) (C : Addr) (cl : List (Str × Addr)) (fp : List Addr), QTs (X.blk s H scope (compEnvC scope cl C X.env) fp) (Pn P) ifs at_)
    (he : ∀ (s : Shared) (H : Hp) (C : Addr) (cl : List (Str × Addr)) (fp : List Addr), QE (X.blk s H scope (compEnvC scope cl C X.env) fp) (Pn P) elt ae) (hO : ∀ v ∈ own.map (·.2), v ∉ P.O) (hws : ∀ i ∈ ws, i ∈ own.map (·.2)) (hs : ∀ x, foldedSetIterable iter X.env x = pure x := by intro _; rfl) :
    QE X P (.Call (.Name "sorted" p) [.SetComp elt [⟨tg, iter, ifs, 0⟩] scope pos] [] cpos) (aSortSc ai ag at_ ae (own.map (·.2))) := by
  obtain ⟨ti, pi, si⟩ := hi.ex
  exact ⟨_, pe_callB (cr_sortT hc) hg0 hm (by decide +kernel) (pa_cons (pe_scT hc hN (pi_seq pi) ok (fun s H C cl fp => can_G (hg s H C cl fp) rfl) (fun s H C cl fp => can_Ts (ht s H C cl fp) rfl) (fun s H C cl fp => can_E (he s H C cl fp) rfl) hs) pa_nil),
    sim_scT hO hws si sim_canG sim_canT sim_canE⟩
end
end Vs

set_option Elab.async false
set_option linter.all false
set_option maxRecDepth 100000
set_option maxHeartbeats 2000000
/-! Vs: xs.pop(), xs.pop(i). -/
namespace Vs
open PySem PySem.Spec PyProof.Rows L2
def popK (o : A) (ρ : AEnv) (Q : AK) : Prop := ∃ j xs z, o = .loc j ∧ ρ[j]? = some (some (.lst xs)) ∧ xs[xs.length - 1]? = some z ∧ Q (.v z) (ρ.set j (some (.lst xs.dropLast)))
def aPop0 (ao : AE) : AE := fun EA ρ Q => ao EA ρ fun o ρ1 => popK o ρ1 Q
def popI (o iv : A) (ρ : AEnv) (Q : AK) : Prop := ∃ j xs k z, o = .loc j ∧ ρ[j]? = some (some (.lst xs)) ∧ dat iv ρ = some (.int (k : Nat)) ∧ xs.length ≤ 100000 ∧ xs[k]? = some z ∧ Q (.v z) (ρ.set j (some (.lst (xs.eraseIdx k))))
def aPopI (ao ai : AE) : AE := fun EA ρ Q => ao EA ρ fun o ρ1 => (∃ xs, dat o ρ1 = some (.lst xs)) ∧ ai EA ρ1 fun iv ρ2 => popI o iv ρ2 Q
section
variable {X : Cx} {P : Pm} {K : Fg} {S : Hp}
theorem RepL.erase {xs : List D} {vs : List V} (n : Nat) (h : RepL K S xs vs) : RepL K S (xs.eraseIdx n) (vs.eraseIdx n) := by
  rw [List.eraseIdx_eq_take_drop_succ, List.eraseIdx_eq_take_drop_succ]
  exact (h.take n).app (h.drop (n + 1))
theorem RepL.dropLast {xs : List D} {vs : List V} (h : RepL K S xs vs) : RepL K S xs.dropLast vs.dropLast := by
  rw [List.dropLast_eq_take, List.dropLast_eq_take, h.len]
  exact h.take _
theorem qe_pop0 {o : Expr} {ao : AE} {apos cpos : Pos} (ho' : QE X P o ao) (hbase : attributeBase o "pop" X.env (eval o X.env) = eval o X.env := by rfl) (hline : (apos.endLine == cpos.line) = true := by rfl) :
    QE X P (.Call (.Attribute o "pop" apos) [] [] cpos) (aPop0 ao) := by
  obtain ⟨to, po, so⟩ := ho'.ex
  refine ⟨_, pe_bm0 PySem.F.plainAttrs_list PySem.F.slot_list_pop PySem.F.type_list_pop mt_pop po hbase hline, fun c EA ho hw τ S H σ ρ Q R st q k => so c EA ho hw τ S H σ ρ _ _ st q fun vo H1 ⟨S1, ρ1, xo, s1, j, xs, z, eo, hj, hz, q1⟩ => ?_⟩
  subst eo
  have hvo : σ[j]? = some (some vo) := (s1.loc _ j (by simp)).1
  obtain ⟨g, ra⟩ := s1.slotA hj hvo
  obtain ⟨p, ws, rfl, hp, rl, rfl⟩ := ra.lst_inv
  obtain ⟨v, hv, rv⟩ := rl.get hz
  refine ⟨.inl ⟨rfl, ws, .inl (.inl hp)⟩, p, ws, v, rfl, rfl, hp, by rw [rl.len]; exact hv, ?_⟩
  have s5 := s1.write (o := .lst ws.dropLast) (y' := .lst xs.dropLast) hj hvo (fun g' h => by obtain ⟨a', _, e, _, _, e2⟩ := h.lst_inv; cases e; exact e2) rfl (.mk_lst upd_same rl.dropLast)
  exact k _ _ ⟨S1, _, .v z, s5.drop.hold rv, q1⟩
theorem qe_popI {o e : Expr} {ao ae : AE} {apos cpos : Pos} (ho' : QE X P o ao) (he : QE X P e ae) (hbase : attributeBase o "pop" X.env (eval o X.env) = eval o X.env := by rfl)
    (hfew : ((backTo cpos (starEach (e :: []) X.env)).all (fun x => !x.1) && (backToKw cpos (keywordEach [] X.env)).all (fun x => x.1.isSome)
      && decide ((e :: []).length + ([] : List Keyword).length + (if ([] : List Keyword).isEmpty then 0 else 1) < 30)) = true := by rfl)
    (hline : (apos.endLine == cpos.line) = true := by rfl) (hs : starEach [e] X.env = (false, eval e X.env) :: starEach [] X.env := by rfl) (hplain : (backTo cpos (starEach [] X.env)).any (·.1) = false := by rfl) :
    QE X P (.Call (.Attribute o "pop" apos) [e] [] cpos) (aPopI ao ae) := by
  obtain ⟨to, po, so⟩ := ho'.ex
  obtain ⟨te, pe, se⟩ := he.ex
  refine ⟨_, pe_bm PySem.F.plainAttrs_list PySem.F.slot_list_pop PySem.F.type_list_pop mt_popAt po (pa_cons pe pa_nil hs) hbase hfew hline hs hplain, fun c EA ho hw τ S H σ ρ Q R st q k => so c EA ho hw τ S H σ ρ _ _ st q fun vo H1 ⟨S1, ρ1, xo, s1, ⟨xs0, h0⟩, q1⟩ => ?_⟩
  obtain ⟨y0, g0, r0, e0⟩ := s1.thing (List.mem_cons_self ..) h0
  obtain ⟨p, vs, rfl, h3, h4⟩ := repA_lst r0 e0 s1.le
  refine ⟨.inl ⟨rfl, vs, h3⟩, se c EA ho hw _ S1 H1 σ ρ1 _ _ s1 q1 fun v H2 ⟨S2, ρ2, x, s2, j, xs, kk, z, eo, hj, hk, hl, hz, q2⟩ => ?_⟩
  subst eo
  have hvo : σ[j]? = some (some (.ref p)) := (s2.loc _ j (by simp)).1
  obtain ⟨g, ra⟩ := s2.slotA hj hvo
  obtain ⟨p', ws, e1, hp, rl, rfl⟩ := ra.lst_inv
  cases e1
  have rk := s2.dat (List.mem_cons_self ..) hk
  simp only [Rep] at rk
  subst rk
  obtain ⟨v, hv, rv⟩ := rl.get hz
  have hlt : kk < xs.length := (List.getElem?_eq_some_iff.mp hz).1
  refine ⟨p, ws, kk, kk, v, rfl, rfl, hp, by omega, by omega, ?_, hv, ?_⟩
  · unfold seqIndex?
    have hlt' : kk < ws.length := by rw [rl.len]; exact hlt
    have h0 : ¬ ((kk : Int) < 0) := by omega
    have h1 : ((kk : Int) < (ws.length : Int)) := by omega
    simp only [if_neg h0]
    simp [h1]
  have s5 := s2.write (o := .lst (ws.eraseIdx kk)) (y' := .lst (xs.eraseIdx kk)) hj hvo (fun g' h => by obtain ⟨a', _, e, _, _, e2⟩ := h.lst_inv; cases e; exact e2) rfl (.mk_lst upd_same (rl.erase kk))
  exact k _ _ ⟨S2, _, .v z, s5.drop.drop.hold rv, q2⟩
end
section
variable {EA : AX} {ρ : AEnv} {Q : AK}
theorem i_pop0 {ao : AE} (k : ao EA ρ fun o ρ1 => popK o ρ1 Q) : aPop0 ao EA ρ Q := k
theorem i_popK {j : Nat} {xs : List D} {z : D} (h1 : ρ[j]? = some (some (.lst xs))) (h2 : xs[xs.length - 1]? = some z) (k : Q (.v z) (ρ.set j (some (.lst xs.dropLast)))) : popK (.loc j) ρ Q := ⟨j, xs, z, rfl, h1, h2, k⟩
theorem i_popI {ao ai : AE} (k : ao EA ρ fun o ρ1 => isL o ρ1 (ai EA ρ1 fun iv ρ2 => popI o iv ρ2 Q)) : aPopI ao ai EA ρ Q := k
theorem i_popIK {j : Nat} {xs : List D} {z : D} {iv : A} {kk : Nat} (h1 : ρ[j]? = some (some (.lst xs))) (h3 : dat iv ρ = some (.int (kk : Nat))) (h4 : xs.length ≤ 100000) (h2 : xs[kk]? = some z) (k : Q (.v z) (ρ.set j (some (.lst (xs.eraseIdx kk))))) : popI (.loc j) iv ρ Q := ⟨j, xs, kk, z, rfl, h1, h3, h4, h2, k⟩
theorem i_sortSc {ai : AE} {ag : AG} {at_ : AT} {ae : AE} {vs : List Nat} (k : ai EA ρ fun x ρ1 => ∃ xs, x = .v (.tup xs) ∧ NoneAt vs ρ1 ∧ scA ag at_ ae vs xs [] ρ1 fun l ρ2 => l.length < 64 ∧ ∀ ys : List Str, ys.Nodup → (∀ k, k ∈ ys ↔ k ∈ l) → sortedS ys = true → Q (.lst (ys.map D.str)) ρ2) : aSortSc ai ag at_ ae vs EA ρ Q := k
end
end Vs

set_option Elab.async false
set_option linter.all false
set_option maxRecDepth 100000
set_option maxHeartbeats 1000000
/-! Vs: readings are closed under meets: of all that a def is shown to keep, it keeps the whole. -/
namespace Vs
open PySem PySem.Spec PyProof.Rows L2
def CE (ae : AE) : Prop := ∀ {ι : Type} [Nonempty ι] {EA : ι → AX} {EA' : AX} {ρ : AEnv} {Q : ι → AK} {Q' : AK}, (∀ i, ae (EA i) ρ (Q i)) → (∀ C fs ρ, (∀ i, EA i C fs ρ) → EA' C fs ρ) → (∀ x ρ, (∀ i, Q i x ρ) → Q' x ρ) → ae EA' ρ Q'
def CT (at_ : AT) : Prop := ∀ {ι : Type} [Nonempty ι] {EA : ι → AX} {EA' : AX} {ρ : AEnv} {Q : ι → Bool → AEnv → Prop} {Q' : Bool → AEnv → Prop}, (∀ i, at_ (EA i) ρ (Q i)) → (∀ C fs ρ, (∀ i, EA i C fs ρ) → EA' C fs ρ) → (∀ x ρ, (∀ i, Q i x ρ) → Q' x ρ) → at_ EA' ρ Q'
def CA (aa : AA) : Prop := ∀ {ι : Type} [Nonempty ι] {EA : ι → AX} {EA' : AX} {ρ : AEnv} {Q : ι → List A → AEnv → Prop} {Q' : List A → AEnv → Prop}, (∀ i, aa (EA i) ρ (Q i)) → (∀ C fs ρ, (∀ i, EA i C fs ρ) → EA' C fs ρ) → (∀ x ρ, (∀ i, Q i x ρ) → Q' x ρ) → aa EA' ρ Q'
def CO (ao : AO) : Prop := ∀ {ι : Type} [Nonempty ι] {EA : ι → AX} {EA' : AX} {ρ : AEnv} {Q : ι → Option Int → AEnv → Prop} {Q' : Option Int → AEnv → Prop}, (∀ i, ao (EA i) ρ (Q i)) → (∀ C fs ρ, (∀ i, EA i C fs ρ) → EA' C fs ρ) → (∀ x ρ, (∀ i, Q i x ρ) → Q' x ρ) → ao EA' ρ Q'
def CI (ai : AI) : Prop := ∀ {ι : Type} [Nonempty ι] {EA : ι → AX} {EA' : AX} {ρ : AEnv} {Q : ι → List D → (AEnv → Prop) → AEnv → Prop} {Q' : List D → (AEnv → Prop) → AEnv → Prop}, (∀ i, ai (EA i) ρ (Q i)) → (∀ C fs ρ, (∀ i, EA i C fs ρ) → EA' C fs ρ) → (∀ x G ρ, (∀ i, Q i x G ρ) → Q' x G ρ) → ai EA' ρ Q'
def CG (ag : AG) : Prop := ∀ {ι : Type} [Nonempty ι] {d : D} {ρ : AEnv} {Q : ι → AEnv → Prop} {Q' : AEnv → Prop}, (∀ i, ag d ρ (Q i)) → (∀ ρ, (∀ i, Q i ρ) → Q' ρ) → ag d ρ Q'
def CGs (ag : AGs) : Prop := ∀ {ι : Type} [Nonempty ι] {d : List D} {ρ : AEnv} {Q : ι → AEnv → Prop} {Q' : AEnv → Prop}, (∀ i, ag d ρ (Q i)) → (∀ ρ, (∀ i, Q i ρ) → Q' ρ) → ag d ρ Q'
def C2 (ra : AR2) : Prop := ∀ {ι : Type} [Nonempty ι] {x y : A} {ρ : AEnv} {Q : ι → AK} {Q' : AK}, (∀ i, ra x y ρ (Q i)) → (∀ x ρ, (∀ i, Q i x ρ) → Q' x ρ) → ra x y ρ Q'
def C1 (ra : AR1) : Prop := ∀ {ι : Type} [Nonempty ι] {x : A} {ρ : AEnv} {Q : ι → AK} {Q' : AK}, (∀ i, ra x ρ (Q i)) → (∀ x ρ, (∀ i, Q i x ρ) → Q' x ρ) → ra x ρ Q'
def Cs (ra : ARs) : Prop := ∀ {ι : Type} [Nonempty ι] {x : List A} {ρ : AEnv} {Q : ι → AK} {Q' : AK}, (∀ i, ra x ρ (Q i)) → (∀ x ρ, (∀ i, Q i x ρ) → Q' x ρ) → ra x ρ Q'
structure Cov {ι : Type} (DA : ι → AEnds) (D' : AEnds) : Prop where
  nx : ∀ ρ, (∀ i, (DA i).nx ρ) → D'.nx ρ
  rt : ∀ x ρ, (∀ i, (DA i).rt x ρ) → D'.rt x ρ
  bk : ∀ ρ, (∀ i, (DA i).bk ρ) → D'.bk ρ
  ct : ∀ ρ, (∀ i, (DA i).ct ρ) → D'.ct ρ
  ex : ∀ C fs ρ, (∀ i, (DA i).ex C fs ρ) → D'.ex C fs ρ
def CS (a : AS) : Prop := ∀ {ι : Type} [Nonempty ι] {DA : ι → AEnds} {D' : AEnds} {ρ : AEnv}, (∀ i, a (DA i) ρ) → Cov DA D' → a D' ρ
theorem i0 {ι : Type} [h : Nonempty ι] : ∃ _ : ι, True := let ⟨i⟩ := h; ⟨i, trivial⟩
section
variable {ι : Type} [Nonempty ι]
theorem c_use {x : A} {ρ : AEnv} {Q : ι → D → AEnv → Prop} {Q' : D → AEnv → Prop} (h : ∀ i, useA x ρ (Q i)) (k : ∀ d ρ, (∀ i, Q i d ρ) → Q' d ρ) : useA x ρ Q' := by
  cases x with
  | loc j =>
    obtain ⟨i, _⟩ := i0 (ι := ι)
    obtain ⟨y, hy, _⟩ := h i
    refine ⟨y, hy, k _ _ fun i => ?_⟩
    obtain ⟨z, hz, q⟩ := h i
    rw [hy] at hz
    cases hz
    exact q
  | _ => exact k _ _ h
theorem c_uses : ∀ {xs : List A} {ρ : AEnv} {Q : ι → List D → AEnv → Prop} {Q' : List D → AEnv → Prop}, (∀ i, usesA xs ρ (Q i)) → (∀ d ρ, (∀ i, Q i d ρ) → Q' d ρ) → usesA xs ρ Q'
  | [], _, _, _, h, k => k _ _ h
  | x :: xs, _, _, _, h, k => c_use h fun d ρ h1 => c_uses h1 fun ds ρ h2 => k _ _ h2
theorem c_ret {x : A} {ρ : AEnv} {Q : ι → A → AEnv → Prop} {Q' : A → AEnv → Prop} (h : ∀ i, retA x ρ (Q i)) (k : ∀ d ρ, (∀ i, Q i d ρ) → Q' d ρ) : retA x ρ Q' := by
  cases x with
  | loc j =>
    obtain ⟨i, _⟩ := i0 (ι := ι)
    obtain ⟨y, hy, _⟩ := h i
    refine ⟨y, hy, k _ _ fun i => ?_⟩
    obtain ⟨z, hz, q⟩ := h i
    rw [hy] at hz
    cases hz
    exact q
  | _ => exact k _ _ h
theorem c_set {x : A} {ρ : AEnv} {j : Nat} {Q : ι → AEnv → Prop} {Q' : AEnv → Prop} (h : ∀ i, setA x ρ j (Q i)) (k : ∀ ρ, (∀ i, Q i ρ) → Q' ρ) : setA x ρ j Q' := by
  cases x with
  | loc j =>
    obtain ⟨i, _⟩ := i0 (ι := ι)
    obtain ⟨y, hy, _⟩ := h i
    refine ⟨y, hy, k _ fun i => ?_⟩
    obtain ⟨z, hz, q⟩ := h i
    rw [hy] at hz
    cases hz
    exact q
  | _ => exact k _ h
/-- a truth value -/
theorem c_isB {x : A} {ρ : AEnv} {Q : ι → Bool → Prop} {Q' : Bool → Prop} (h : ∀ i, ∃ b, dat x ρ = some (.bl b) ∧ Q i b) (k : ∀ b, (∀ i, Q i b) → Q' b) : ∃ b, dat x ρ = some (.bl b) ∧ Q' b := by
  obtain ⟨i, _⟩ := i0 (ι := ι)
  obtain ⟨b, hb, _⟩ := h i
  refine ⟨b, hb, k _ fun i => ?_⟩
  obtain ⟨c, hc, q⟩ := h i
  rw [hb] at hc
  cases hc
  exact q
theorem c_ite {b : Bool} {p q : ι → Prop} {p' q' : Prop} (h : ∀ i, if b = true then p i else q i) (k1 : (∀ i, p i) → p') (k2 : (∀ i, q i) → q') : if b = true then p' else q' := by
  cases b with
  | true => exact k1 h
  | false => exact k2 h
theorem c_and {p : Prop} {q : ι → Prop} {q' : Prop} (h : ∀ i, p ∧ q i) (k : (∀ i, q i) → q') : p ∧ q' := by
  obtain ⟨i, _⟩ := i0 (ι := ι)
  exact ⟨(h i).1, k fun i => (h i).2⟩
/-- one witness -/
theorem c_ex {α : Type} {P : α → Prop} {q : ι → α → Prop} {q' : α → Prop} (u : ∀ a b, P a → P b → a = b) (h : ∀ i, ∃ a, P a ∧ q i a) (k : ∀ a, (∀ i, q i a) → q' a) : ∃ a, P a ∧ q' a := by
  obtain ⟨i, _⟩ := i0 (ι := ι)
  obtain ⟨a, ha, _⟩ := h i
  refine ⟨a, ha, k a fun i => ?_⟩
  obtain ⟨b, hb, q⟩ := h i
  rw [u a b ha hb]
  exact q
theorem c_call {sp : ASp} {xs : List A} : CE (callA sp xs) := fun {ι} _ EA EA' ρ Q Q' h hx hq => by
  obtain ⟨i, _⟩ := i0 (ι := ι)
  obtain ⟨ys, ρ', e, hp, _, _⟩ := h i
  refine ⟨ys, ρ', e, hp, fun r ys' p l => hq _ _ fun i => ?_, fun C fs ys' p l => hx _ _ _ fun i => ?_⟩
  all_goals
    obtain ⟨zs, ρ2, e2, _, q1, q2⟩ := h i
    rw [e] at e2
    cases e2
  · exact q1 r ys' p l
  · exact q2 C fs ys' p l
theorem c_mk {C : Addr} {sp : ASp} {xs : List A} : CE (mkSp C sp xs) := fun {ι} _ EA EA' ρ Q Q' h hx hq => by
  obtain ⟨i, _⟩ := i0 (ι := ι)
  obtain ⟨ys, ρ', e, hp, h0, _⟩ := h i
  refine ⟨ys, ρ', e, hp, fun r y ys' p l => ⟨(h0 r y ys' p l).1, hq _ _ fun i => ?_⟩, fun C fs y ys' p l => hx _ _ _ fun i => ?_⟩
  all_goals
    obtain ⟨zs, ρ2, e2, _, q1, q2⟩ := h i
    rw [e] at e2
    cases e2
  · exact (q1 r y ys' p l).2
  · exact q2 C fs y ys' p l
end
/-! ### operations -/
theorem c2_I0 {g : Int → Int → D} : C2 (aI0 g) := fun {ι} _ x y ρ Q Q' h k => by
  obtain ⟨i, _⟩ := i0 (ι := ι)
  obtain ⟨a, b, h1, h2, _⟩ := h i
  refine ⟨a, b, h1, h2, k _ _ fun i => ?_⟩
  obtain ⟨c, d, g1, g2, q⟩ := h i
  rw [h1] at g1; rw [h2] at g2
  cases g1; cases g2
  exact q
theorem c2_I {C : Int → Int → Prop} {g : Int → Int → D} : C2 (aI C g) := fun {ι} _ x y ρ Q Q' h k => by
  obtain ⟨i, _⟩ := i0 (ι := ι)
  obtain ⟨a, b, h1, h2, hc, _⟩ := h i
  refine ⟨a, b, h1, h2, hc, k _ _ fun i => ?_⟩
  obtain ⟨c, d, g1, g2, _, q⟩ := h i
  rw [h1] at g1; rw [h2] at g2
  cases g1; cases g2
  exact q
theorem c_sub : C2 aSub := c2_I0
theorem c_lt : C2 aLt := c2_I0
theorem c_le : C2 aLe := c2_I0
theorem c_gt : C2 aGt := c2_I0
theorem c_ge : C2 aGe := c2_I0
theorem c_mul : C2 aMul := c2_I
theorem c_mod : C2 aMod := c2_I
theorem c_pow : C2 aPow := c2_I
theorem c_divW : C2 aDivW := c2_I
theorem c_ix : C2 aIx := fun {ι} _ x y ρ Q Q' h k => by
  obtain ⟨i, _⟩ := i0 (ι := ι)
  obtain ⟨a, b, z, h1, h2, h3, _⟩ := h i
  refine ⟨a, b, z, h1, h2, h3, k _ _ fun i => ?_⟩
  obtain ⟨c, d, z', g1, g2, g3, q⟩ := h i
  rw [h1] at g1; rw [h2] at g2
  cases g1; cases g2
  rw [h3] at g3
  cases g3
  exact q
theorem c_plus : C2 aPlus := fun {ι} _ x y ρ Q Q' h k => by
  obtain ⟨i, _⟩ := i0 (ι := ι)
  obtain ⟨d, e, h1, h2, h3⟩ := h i
  refine ⟨d, e, h1, h2, ?_⟩
  have h' : ∀ i, addA d e fun z => Q i z ρ := fun i => by
    obtain ⟨d', e', g1, g2, g3⟩ := h i
    rw [h1] at g1; rw [h2] at g2
    cases g1; cases g2
    exact g3
  clear h h3
  unfold addA at h' ⊢
  split at h' <;> first | exact k _ _ h' | exact c_and h' fun q => k _ _ q | exact (h' i).elim
theorem c_eq : C2 aEq := fun {ι} _ x y ρ Q Q' h k => by
  obtain ⟨i, _⟩ := i0 (ι := ι)
  obtain ⟨a, b, h1, h2, h3, h4, _⟩ := h i
  refine ⟨a, b, h1, h2, h3, h4, k _ _ fun i => ?_⟩
  obtain ⟨c, d, g1, g2, _, _, q⟩ := h i
  rw [h1] at g1; rw [h2] at g2
  cases g1; cases g2
  exact q
theorem c_ne : C2 aNe := fun {ι} _ x y ρ Q Q' h k => by
  obtain ⟨i, _⟩ := i0 (ι := ι)
  obtain ⟨a, b, h1, h2, h3, h4, _⟩ := h i
  refine ⟨a, b, h1, h2, h3, h4, k _ _ fun i => ?_⟩
  obtain ⟨c, d, g1, g2, _, _, q⟩ := h i
  rw [h1] at g1; rw [h2] at g2
  cases g1; cases g2
  exact q
theorem c_is : C2 aIs := fun {ι} _ x y ρ Q Q' h k => by
  obtain ⟨i, _⟩ := i0 (ι := ι)
  obtain ⟨a, h1, h2, _⟩ := h i
  refine ⟨a, h1, h2, k _ _ fun i => ?_⟩
  obtain ⟨c, g1, _, q⟩ := h i
  rw [h1] at g1
  cases g1
  exact q
theorem c_isNot : C2 aIsNot := fun {ι} _ x y ρ Q Q' h k => by
  obtain ⟨i, _⟩ := i0 (ι := ι)
  obtain ⟨a, h1, h2, _⟩ := h i
  refine ⟨a, h1, h2, k _ _ fun i => ?_⟩
  obtain ⟨c, g1, _, q⟩ := h i
  rw [h1] at g1
  cases g1
  exact q
theorem inD_fun {d e : D} {b c : Bool} (h : InD d e b) (h' : InD d e c) : b = c := by
  unfold InD at h h'
  cases e with
  | lst xs => exact h.2.2.trans h'.2.2.symm
  | tup xs => exact h.2.2.trans h'.2.2.symm
  | dic kvs =>
    obtain ⟨k, h1, h2⟩ := h
    obtain ⟨k', h1', h2'⟩ := h'
    rw [h1] at h1'
    cases h1'
    exact h2.trans h2'.symm
  | str z =>
    obtain ⟨k, h1, h2⟩ := h
    obtain ⟨k', h1', h2'⟩ := h'
    rw [h1] at h1'
    cases h1'
    exact h2.trans h2'.symm
  | _ => exact h.elim
theorem c_in {n : Bool} : C2 (aIn n) := fun {ι} _ x y ρ Q Q' h k => by
  obtain ⟨i, _⟩ := i0 (ι := ι)
  obtain ⟨a, b, c, h1, h2, h3, _⟩ := h i
  refine ⟨a, b, c, h1, h2, h3, k _ _ fun i => ?_⟩
  obtain ⟨a', b', c', g1, g2, g3, q⟩ := h i
  rw [h1] at g1; rw [h2] at g2
  cases g1; cases g2
  rw [inD_fun h3 g3]
  exact q
theorem c_eqDic : C2 aEqDic := fun {ι} _ x y ρ Q Q' h k => by
  obtain ⟨i, _⟩ := i0 (ι := ι)
  obtain ⟨a, b, h1, h2, h3, h4, h5, _⟩ := h i
  refine ⟨a, b, h1, h2, h3, h4, h5, k _ _ fun i => ?_⟩
  obtain ⟨c, d, g1, g2, _, _, _, q⟩ := h i
  rw [h1] at g1; rw [h2] at g2
  cases g1; cases g2
  exact q
theorem c_own {C : Addr} {sp : ASp} {g : Bool → Bool} : C2 (aOwn C sp g) := fun {ι} _ x y ρ Q Q' h k => by
  obtain ⟨i, _⟩ := i0 (ι := ι)
  refine ⟨(h i).1, (h i).2.1, c_call (fun i => (h i).2.2) (fun _ _ _ z => z i) fun r ρ' z => ?_⟩
  exact c_ex (P := fun t => r = .v (.bl t)) (fun a b h1 h2 => by rw [h1] at h2; cases h2; rfl) z fun a q => k _ _ q
theorem c_neg : C1 aNeg := fun {ι} _ x ρ Q Q' h k => by
  refine c_ex (P := fun i => dat x ρ = some (.int i)) (fun a b h1 h2 => ?_) h fun a q => k _ _ q
  rw [h1] at h2; cases h2; rfl
theorem c_fld {C : Addr} {f : Str} : C1 (aFld C f) := fun {ι} _ x ρ Q Q' h k => by
  obtain ⟨i, _⟩ := i0 (ι := ι)
  obtain ⟨a, b, h1, h2, _⟩ := h i
  refine ⟨a, b, h1, h2, k _ _ fun i => ?_⟩
  obtain ⟨c, d, g1, g2, q⟩ := h i
  rw [h1] at g1
  cases g1
  rw [h2] at g2
  cases g2
  exact q
theorem isi_fun {K : Fg} {d : D} {us : List Value} {b c : Bool} (h : isiR K d us b) (h' : isiR K d us c) : b = c := by
  obtain ⟨t, h1, _, h3⟩ := h
  obtain ⟨t', g1, _, g3⟩ := h'
  rw [h1] at g1
  cases g1
  rw [h3] at g3
  cases g3
  rfl
theorem c_isi {K : Fg} {us : List Value} : C1 (aIsi K us) := fun {ι} _ x ρ Q Q' h k => by
  obtain ⟨i, _⟩ := i0 (ι := ι)
  obtain ⟨a, b, h1, h2, _⟩ := h i
  refine ⟨a, b, h1, h2, k _ _ fun i => ?_⟩
  obtain ⟨c, d, g1, g2, q⟩ := h i
  rw [h1] at g1
  cases g1
  rw [isi_fun h2 g2]
  exact q
/-! ### calls of built-ins -/
theorem c_len : Cs aLen := fun {ι} _ x ρ Q Q' h k => by
  obtain ⟨i, _⟩ := i0 (ι := ι)
  obtain ⟨a, d, n, rfl, h1, h2, _⟩ := h i
  refine ⟨a, d, n, rfl, h1, h2, k _ _ fun i => ?_⟩
  obtain ⟨b, e, m, g0, g1, g2, q⟩ := h i
  cases g0
  rw [h1] at g1
  cases g1
  rw [h2] at g2
  cases g2
  exact q
theorem c_int : Cs aInt := fun {ι} _ x ρ Q Q' h k => by
  obtain ⟨i, _⟩ := i0 (ι := ι)
  obtain ⟨a, rfl, h1⟩ := h i
  refine ⟨a, rfl, ?_⟩
  rcases h1 with ⟨n, h1, _⟩ | ⟨n, h1, _⟩
  · refine .inl ⟨n, h1, k _ _ fun i => ?_⟩
    obtain ⟨b, g0, g1⟩ := h i
    cases g0
    rcases g1 with ⟨m, g1, q⟩ | ⟨m, g1, q⟩ <;> rw [h1] at g1 <;> cases g1
    exact q
  · refine .inr ⟨n, h1, k _ _ fun i => ?_⟩
    obtain ⟨b, g0, g1⟩ := h i
    cases g0
    rcases g1 with ⟨m, g1, q⟩ | ⟨m, g1, q⟩ <;> rw [h1] at g1 <;> cases g1
    exact q
theorem c_abs : Cs aAbs := fun {ι} _ x ρ Q Q' h k => by
  obtain ⟨i, _⟩ := i0 (ι := ι)
  obtain ⟨a, d, rfl, h1, _⟩ := h i
  refine ⟨a, d, rfl, h1, k _ _ fun i => ?_⟩
  obtain ⟨b, e, g0, g1, q⟩ := h i
  cases g0
  rw [h1] at g1
  cases g1
  exact q
theorem c_max2 : Cs aMax2 := fun {ι} _ x ρ Q Q' h k => by
  obtain ⟨i, _⟩ := i0 (ι := ι)
  obtain ⟨a, b, c, d, rfl, h1, h2, _⟩ := h i
  refine ⟨a, b, c, d, rfl, h1, h2, k _ _ fun i => ?_⟩
  obtain ⟨a', b', c', d', g0, g1, g2, q⟩ := h i
  cases g0
  rw [h1] at g1
  cases g1
  rw [h2] at g2
  cases g2
  exact q
theorem c_min2 : Cs aMin2 := fun {ι} _ x ρ Q Q' h k => by
  obtain ⟨i, _⟩ := i0 (ι := ι)
  obtain ⟨a, b, c, d, rfl, h1, h2, _⟩ := h i
  refine ⟨a, b, c, d, rfl, h1, h2, k _ _ fun i => ?_⟩
  obtain ⟨a', b', c', d', g0, g1, g2, q⟩ := h i
  cases g0
  rw [h1] at g1
  cases g1
  rw [h2] at g2
  cases g2
  exact q
theorem c_list : Cs aList := fun {ι} _ x ρ Q Q' h k => by
  obtain ⟨i, _⟩ := i0 (ι := ι)
  obtain ⟨a, d, n, rfl, h1, h2, _⟩ := h i
  refine ⟨a, d, n, rfl, h1, h2, k _ _ fun i => ?_⟩
  obtain ⟨b, e, m, g0, g1, g2, q⟩ := h i
  cases g0
  rw [h1] at g1
  cases g1
  rw [h2] at g2
  cases g2
  exact q
theorem c_tuple : Cs aTuple := fun {ι} _ x ρ Q Q' h k => by
  obtain ⟨i, _⟩ := i0 (ι := ι)
  obtain ⟨a, d, n, rfl, h1, h2, _⟩ := h i
  refine ⟨a, d, n, rfl, h1, h2, k _ _ fun i => ?_⟩
  obtain ⟨b, e, m, g0, g1, g2, q⟩ := h i
  cases g0
  rw [h1] at g1
  cases g1
  rcases h2 with rfl | rfl <;> rcases g2 with g2 | g2 <;> cases g2 <;> exact q
theorem bl_inj : ∀ {a b : List Bool}, a.map D.bl = b.map D.bl → a = b
  | [], [], _ => rfl
  | [], _ :: _, h => by cases h
  | _ :: _, [], h => by cases h
  | x :: xs, y :: ys, h => by
    simp only [List.map_cons, List.cons.injEq, D.bl.injEq] at h
    rw [h.1, bl_inj h.2]
theorem int_inj : ∀ {a b : List Int}, a.map D.int = b.map D.int → a = b
  | [], [], _ => rfl
  | [], _ :: _, h => by cases h
  | _ :: _, [], h => by cases h
  | x :: xs, y :: ys, h => by
    simp only [List.map_cons, List.cons.injEq, D.int.injEq] at h
    rw [h.1, int_inj h.2]
theorem c_all : Cs aAll := fun {ι} _ x ρ Q Q' h k => by
  obtain ⟨i, _⟩ := i0 (ι := ι)
  obtain ⟨a, bs, rfl, h1, _⟩ := h i
  refine ⟨a, bs, rfl, h1, k _ _ fun i => ?_⟩
  obtain ⟨b, cs, g0, g1, q⟩ := h i
  cases g0
  rw [h1] at g1
  simp only [Option.some.injEq, D.lst.injEq] at g1
  rw [bl_inj g1]
  exact q
theorem inr_inj : ∀ {a b : List Str}, a.map (Sum.inr : Str → Key) = b.map Sum.inr → a = b
  | [], [], _ => rfl
  | [], _ :: _, h => by cases h
  | _ :: _, [], h => by cases h
  | x :: xs, y :: ys, h => by
    simp only [List.map_cons, List.cons.injEq, Sum.inr.injEq] at h
    rw [h.1, inr_inj h.2]
theorem c_sort : Cs aSort := fun {ι} _ x ρ Q Q' h k => by
  obtain ⟨i, _⟩ := i0 (ι := ι)
  obtain ⟨a, d, rfl, h1, h2⟩ := h i
  refine ⟨a, d, rfl, h1, ?_⟩
  cases d with
  | lst ds =>
    refine ⟨h2.1, h2.2.1, h2.2.2.1, k _ _ fun i => ?_⟩
    obtain ⟨b, e, g0, g1, q⟩ := h i
    cases g0
    rw [h1] at g1
    cases g1
    exact q.2.2.2
  | dic kvs =>
    obtain ⟨ks, g1, g2, _⟩ := h2
    refine ⟨ks, g1, g2, fun ys p s => k _ _ fun i => ?_⟩
    obtain ⟨b, e, f0, f1, q⟩ := h i
    cases f0
    rw [h1] at f1
    cases f1
    obtain ⟨ls, f1, _, q⟩ := q
    rw [g1] at f1
    exact q ys (by rw [← inr_inj f1]; exact p) s
  | _ => exact h2.elim
theorem c_lenO {C : Addr} {sp : ASp} : Cs (aLenO C sp) := fun {ι} _ x ρ Q Q' h k => by
  obtain ⟨i, _⟩ := i0 (ι := ι)
  obtain ⟨a, rfl, h1, _⟩ := h i
  refine ⟨a, rfl, h1, c_call (EA := fun _ => noX) (Q := fun i r ρ' => ∃ n : Int, r = .v (.int n) ∧ 0 ≤ n ∧ n < 2 ^ 63 ∧ Q i (.v (.int n)) ρ') (fun i => ?_) (fun _ _ _ z => z i) fun r ρ' z => ?_⟩
  · obtain ⟨b, g0, _, q⟩ := h i
    cases g0
    exact q
  · obtain ⟨n, rfl, n0, n1, _⟩ := z i
    refine ⟨n, rfl, n0, n1, k _ _ fun i => ?_⟩
    obtain ⟨m, e, _, _, q⟩ := z i
    cases e
    exact q
theorem c_maxL : Cs aMaxL := fun {ι} _ x ρ Q Q' h k => by
  obtain ⟨i, _⟩ := i0 (ι := ι)
  obtain ⟨a, ns, rfl, h1, h2, _⟩ := h i
  refine ⟨a, ns, rfl, h1, h2, fun m hm hy => k _ _ fun i => ?_⟩
  obtain ⟨b, cs, g0, g1, _, q⟩ := h i
  cases g0
  rw [h1] at g1
  simp only [Option.some.injEq, D.lst.injEq] at g1
  have e := int_inj g1
  subst e
  exact q m hm hy
theorem c_minL : Cs aMinL := fun {ι} _ x ρ Q Q' h k => by
  obtain ⟨i, _⟩ := i0 (ι := ι)
  obtain ⟨a, ns, rfl, h1, h2, _⟩ := h i
  refine ⟨a, ns, rfl, h1, h2, fun m hm hy => k _ _ fun i => ?_⟩
  obtain ⟨b, cs, g0, g1, _, q⟩ := h i
  cases g0
  rw [h1] at g1
  simp only [Option.some.injEq, D.lst.injEq] at g1
  have e := int_inj g1
  subst e
  exact q m hm hy
end Vs

set_option Elab.async false
set_option linter.all false
set_option maxRecDepth 100000
set_option maxHeartbeats 1000000
/-! Vs: meets, expressions and statements. -/
namespace Vs
open PySem PySem.Spec PyProof.Rows L2
section
variable {aa ab ac ao ae ak av : AE} {ra rb : AR2} {at_ t u : AT} {al : AA} {ai : AI} {ag : AG} {sp : ASp}
theorem ce_c {d : D} : CE (aC d) := fun h _ hq => hq _ _ h
theorem ce_val {j : Nat} : CE (aVal j) := fun {ι} _ EA EA' ρ Q Q' h hx hq => by
  refine c_ex (P := fun d => ρ[j]? = some (some (.v d))) (fun a b h1 h2 => ?_) h fun a q => hq _ _ q
  rw [h1] at h2; cases h2; rfl
theorem ce_ref {j : Nat} : CE (aRef j) := fun h hx hq => c_and h fun q => hq _ _ q
theorem ce_op (hr : C2 ra) (ha : CE aa) (hb : CE ab) : CE (aOp ra aa ab) := fun h hx hq => ha h hx fun x ρ1 h1 => hb h1 hx fun y ρ2 h2 => hr h2 hq
theorem ce_un {ra : AR1} (hr : C1 ra) (ha : CE aa) : CE (aUn ra aa) := fun h hx hq => ha h hx fun x ρ1 h1 => hr h1 hq
theorem ct_test (ha : CE aa) : CT (aTest aa) := fun h hx hq => ha h hx fun x ρ1 h1 => c_isB h1 fun b q => hq _ _ q
theorem ce_chain (hr : C2 ra) (hr2 : C2 rb) (ha : CE aa) (hb : CE ab) (hc : CE ac) : CE (aChain ra rb aa ab ac) := fun h hx hq => ha h hx fun x ρ1 h1 => hb h1 hx fun y ρ2 h2 =>
  c_ex (P := fun dy => y = .v dy) (fun a b h1 h2 => by rw [h1] at h2; cases h2; rfl) h2 fun d h3 => hr h3 fun z ρ3 h4 => c_isB h4 fun b h5 => c_ite h5 (fun h6 => hc h6 hx fun w ρ4 h7 => hr2 h7 hq) fun q => hq _ _ q
theorem ct_and (ha : CT t) (hb : CT u) : CT (atAnd t u) := fun h hx hq => ha h hx fun x ρ1 h1 => c_ite h1 (fun h2 => hb h2 hx hq) fun h2 => hq _ _ h2
theorem ct_or (ha : CT t) (hb : CT u) : CT (atOr t u) := fun h hx hq => ha h hx fun x ρ1 h1 => c_ite h1 (fun h2 => hq _ _ h2) fun h2 => hb h2 hx hq
theorem ct_not (ha : CT t) : CT (atNot t) := fun h hx hq => ha h hx fun x ρ1 h1 => hq _ _ h1
theorem ct_yes : CT atYes := fun h hx hq => hq _ _ h
theorem ce_and (ha : CE aa) (hb : CE ab) : CE (aAnd aa ab) := fun h hx hq => ha h hx fun x ρ1 h1 => c_isB h1 fun b h2 => c_ite h2 (fun h3 => hb h3 hx hq) fun h3 => hq _ _ h3
theorem ce_or (ha : CE aa) (hb : CE ab) : CE (aOr aa ab) := fun h hx hq => ha h hx fun x ρ1 h1 => c_isB h1 fun b h2 => c_ite h2 (fun h3 => hq _ _ h3) fun h3 => hb h3 hx hq
theorem ce_not (ha : CE aa) : CE (aNot aa) := fun h hx hq => ha h hx fun x ρ1 h1 => c_isB h1 fun b h2 => hq _ _ h2
theorem ce_if (ht : CT t) (ha : CE aa) (hb : CE ab) : CE (aIf t aa ab) := fun h hx hq => ht h hx fun x ρ1 h1 => c_ite h1 (fun h2 => ha h2 hx hq) fun h2 => hb h2 hx hq
theorem ca_nil : CA aNil := fun h hx hq => hq _ _ h
theorem ca_cons (ha : CE aa) (hl : CA al) : CA (aCons aa al) := fun h hx hq => ha h hx fun x ρ1 h1 => hl h1 hx fun xs ρ2 h2 => hq _ _ h2
theorem ce_tup (hl : CA al) : CE (aTup al) := fun h hx hq => hl h hx fun xs ρ1 h1 => c_and h1 fun h2 => c_uses h2 fun ds ρ2 h3 => hq _ _ h3
theorem ce_lst (hl : CA al) : CE (aLst al) := fun h hx hq => hl h hx fun xs ρ1 h1 => c_and h1 fun h2 => c_uses h2 fun ds ρ2 h3 => hq _ _ h3
theorem ce_dict0 : CE aDict0 := fun h hx hq => hq _ _ h
theorem ce_cb {ra : ARs} (hr : Cs ra) (hl : CA al) : CE (aCB ra al) := fun h hx hq => hl h hx fun xs ρ1 h1 => hr h1 hq
theorem ce_frz (ha : CE aa) : CE (aFrz aa) := fun h hx hq => ha h hx fun x ρ1 h1 => c_use h1 fun d ρ2 h2 => hq _ _ h2
theorem ce_get1 (ha : CE aa) (hb : CE ab) : CE (aGet1 aa ab) := fun {ι} _ EA EA' ρ Q Q' h hx hq => ha h hx fun x ρ1 h1 => c_and h1 fun h2 => hb h2 hx fun y ρ2 h3 => by
  obtain ⟨i, _⟩ := i0 (ι := ι)
  obtain ⟨kvs, d, k, e1, e2, e3, _⟩ := h3 i
  refine ⟨kvs, d, k, e1, e2, e3, hq _ _ fun i => ?_⟩
  obtain ⟨kvs', d', k', f1, f2, f3, q⟩ := h3 i
  rw [e1] at f1; cases f1
  rw [e2] at f2; cases f2
  rw [e3] at f3; cases f3
  exact q
theorem co_none : CO aoNone := fun h hx hq => hq _ _ h
theorem co_some (ha : CE aa) : CO (aoSome aa) := fun {ι} _ EA EA' ρ Q Q' h hx hq => ha h hx fun x ρ1 h1 =>
  c_ex (P := fun i => dat x ρ1 = some (.int i)) (fun a b h1 h2 => by rw [h1] at h2; cases h2; rfl) h1 fun a q => hq _ _ q
theorem ce_slice {lo hi : AO} (ha : CE aa) (hl : CO lo) (hh : CO hi) : CE (aSlice aa lo hi) := fun {ι} _ EA EA' ρ Q Q' h hx hq => ha h hx fun x ρ1 h1 => hl h1 hx fun l ρ2 h2 => hh h2 hx fun u ρ3 h3 => by
  refine c_ex (P := fun d => dat x ρ3 = some d) (fun a b h1 h2 => by rw [h1] at h2; cases h2; rfl) h3 fun d q => ?_
  cases d with
  | lst xs => exact hq _ _ q
  | tup xs => exact hq _ _ q
  | _ =>
    obtain ⟨i, _⟩ := i0 (ι := ι)
    exact (q i).elim
theorem ce_append (ha : CE ao) (hb : CE ae) : CE (aAppend ao ae) := fun {ι} _ EA EA' ρ Q Q' h hx hq => ha h hx fun o ρ1 h1 => c_and h1 fun h2 => hb h2 hx fun x ρ2 h3 => c_use h3 fun d ρ3 h4 => by
  obtain ⟨i, _⟩ := i0 (ι := ι)
  obtain ⟨j, xs, rfl, e1, e2, _⟩ := h4 i
  refine ⟨j, xs, rfl, e1, e2, hq _ _ fun i => ?_⟩
  obtain ⟨j', xs', f0, f1, _, q⟩ := h4 i
  cases f0
  rw [e1] at f1; cases f1
  exact q
theorem ce_callC {dd : List D} (hl : CA al) : CE (aCall sp dd al) := fun h hx hq => hl h hx fun xs ρ1 h1 => c_call h1 hx hq
theorem ce_meth {C : Addr} {m : Str} {dd : List D} (ho : CE ao) (hl : CA al) : CE (aMeth C m sp dd ao al) := fun h hx hq => ho h hx fun o ρ1 h1 => c_and h1 fun h2 => hl h2 hx fun xs ρ2 h3 => c_call h3 hx hq
theorem ce_make {C : Addr} {dd : List D} (hl : CA al) : CE (aMake C sp dd al) := fun h hx hq => hl h hx fun xs ρ1 h1 => c_mk h1 hx hq
theorem ce_lv (ha : CE aa) : CE (aLV aa) := fun h hx hq => ha h hx fun x ρ1 h1 =>
  c_ex (P := fun kvs => dat x ρ1 = some (.dic kvs)) (fun a b h1 h2 => by rw [h1] at h2; cases h2; rfl) h1 fun a q => hq _ _ q
theorem ce_prop {C : Addr} (ha : CE ao) : CE (aProp C sp ao) := fun {ι} _ EA EA' ρ Q Q' h hx hq => ha h hx fun o ρ1 h1 => c_and h1 fun h2 => c_call (EA := fun _ => noX) h2 (fun _ _ _ z => by
  obtain ⟨i, _⟩ := i0 (ι := ι)
  exact z i) hq
theorem ce_pop0 (ha : CE ao) : CE (aPop0 ao) := fun {ι} _ EA EA' ρ Q Q' h hx hq => ha h hx fun o ρ1 h1 => by
  obtain ⟨i, _⟩ := i0 (ι := ι)
  obtain ⟨j, xs, z, rfl, e1, e2, _⟩ := h1 i
  refine ⟨j, xs, z, rfl, e1, e2, hq _ _ fun i => ?_⟩
  obtain ⟨j', xs', z', f0, f1, f2, q⟩ := h1 i
  cases f0
  rw [e1] at f1; cases f1
  rw [e2] at f2; cases f2
  exact q
theorem ce_popI (ha : CE ao) (hb : CE ab) : CE (aPopI ao ab) := fun {ι} _ EA EA' ρ Q Q' h hx hq => ha h hx fun o ρ1 h1 => c_and h1 fun h2 => hb h2 hx fun iv ρ2 h3 => by
  obtain ⟨i, _⟩ := i0 (ι := ι)
  obtain ⟨j, xs, k, z, rfl, e1, e2, e3, e4, _⟩ := h3 i
  refine ⟨j, xs, k, z, rfl, e1, e2, e3, e4, hq _ _ fun i => ?_⟩
  obtain ⟨j', xs', k', z', f0, f1, f2, _, f4, q⟩ := h3 i
  cases f0
  rw [e1] at f1; cases f1
  rw [e2] at f2
  simp only [Option.some.injEq, D.int.injEq] at f2
  have : k = k' := by omega
  subst this
  rw [e4] at f4; cases f4
  exact q
/-! targets -/
theorem cg_name {j : Nat} : CG (agName j) := fun h hq => hq _ h
theorem cgs_nil : CGs agNil := fun h hq => c_and h fun q => hq _ q
theorem cgs_cons {bs : AGs} (ha : CG ag) (hb : CGs bs) : CGs (agCons ag bs) := fun {ι} _ d ρ Q Q' h hq => by
  obtain ⟨i, _⟩ := i0 (ι := ι)
  obtain ⟨x, r, rfl, _⟩ := h i
  refine ⟨x, r, rfl, ha (Q := fun i ρ' => bs r ρ' (Q i)) (fun i => ?_) fun ρ' z => hb z hq⟩
  obtain ⟨x', r', e, q⟩ := h i
  cases e
  exact q
theorem cg_tup {n : Nat} {bs : AGs} (hb : CGs bs) : CG (agTup n bs) := fun {ι} _ d ρ Q Q' h hq => by
  obtain ⟨i, _⟩ := i0 (ι := ι)
  obtain ⟨ds, rfl, hl, _⟩ := h i
  refine ⟨ds, rfl, hl, hb (Q := Q) (fun i => ?_) hq⟩
  obtain ⟨ds', e, _, q⟩ := h i
  cases e
  exact q
/-! iterables -/
theorem ci_seq (ha : CE aa) : CI (aiSeq aa) := fun h hx hq => ha h hx fun x ρ1 h1 => c_use h1 fun d ρ2 h2 =>
  c_ex (P := fun xs => seqD d = some xs) (fun a b h1 h2 => by rw [h1] at h2; cases h2; rfl) h2 fun a q => hq _ _ _ q
theorem ci_ref {j : Nat} : CI (aiRef j) := fun {ι} _ EA EA' ρ Q Q' h hx hq => by
  obtain ⟨i, _⟩ := i0 (ι := ι)
  obtain ⟨d, xs, h1, h2, _⟩ := h i
  refine ⟨d, xs, h1, h2, hq _ _ _ fun i => ?_⟩
  obtain ⟨d', xs', g1, g2, q⟩ := h i
  rw [h1] at g1; cases g1
  rw [h2] at g2; cases g2
  exact q
theorem ci_rng1 (hl : CA al) : CI (aiRng1 al) := fun {ι} _ EA EA' ρ Q Q' h hx hq => hl h hx fun xs ρ1 h1 => by
  obtain ⟨i, _⟩ := i0 (ι := ι)
  obtain ⟨x, j, rfl, e1, e2, e3, _⟩ := h1 i
  refine ⟨x, j, rfl, e1, e2, e3, hq _ _ _ fun i => ?_⟩
  obtain ⟨x', j', f0, f1, _, _, q⟩ := h1 i
  cases f0
  rw [e1] at f1; cases f1
  exact q
theorem ci_rng2 (hl : CA al) : CI (aiRng2 al) := fun {ι} _ EA EA' ρ Q Q' h hx hq => hl h hx fun xs ρ1 h1 => by
  obtain ⟨i, _⟩ := i0 (ι := ι)
  obtain ⟨x, y, j, k, rfl, e1, e2, e3, _⟩ := h1 i
  refine ⟨x, y, j, k, rfl, e1, e2, e3, hq _ _ _ fun i => ?_⟩
  obtain ⟨x', y', j', k', f0, f1, f2, _, q⟩ := h1 i
  cases f0
  rw [e1] at f1; cases f1
  rw [e2] at f2; cases f2
  exact q
theorem ci_itemsT (ha : CE aa) : CI (aiItemsT aa) := fun h hx hq => ha h hx fun x ρ1 h1 =>
  c_ex (P := fun kvs => x = .dic kvs) (fun a b h1 h2 => by rw [h1] at h2; cases h2; rfl) h1 fun a q => hq _ _ _ q
theorem ci_enumR {j : Nat} : CI (aiEnumR j) := fun {ι} _ EA EA' ρ Q Q' h hx hq => by
  obtain ⟨i, _⟩ := i0 (ι := ι)
  obtain ⟨d, xs, h1, h2, _⟩ := h i
  refine ⟨d, xs, h1, h2, hq _ _ _ fun i => ?_⟩
  obtain ⟨d', xs', g1, g2, q⟩ := h i
  rw [h1] at g1; cases g1
  rcases h2 with rfl | rfl <;> rcases g2 with g2 | g2 <;> cases g2 <;> exact q
/-! comprehensions -/
theorem c_lcA {ι : Type} [Nonempty ι] {G : AEnv → Prop} {vs : List Nat} (hg : CG ag) (ht : CT at_) (he : CE ae) : ∀ {xs acc : List D} {ρ : AEnv} {Q : ι → AK} {Q' : AK}, (∀ i, lcA G ag at_ ae vs xs acc ρ (Q i)) → (∀ x ρ, (∀ i, Q i x ρ) → Q' x ρ) → lcA G ag at_ ae vs xs acc ρ Q'
  | [], _, _, _, _, h, k => c_and h fun q => k _ _ q
  | x :: xs, acc, _, _, _, h, k => c_and h fun q => hg q fun ρ1 h1 => ht (EA := fun _ => noX) h1 (fun _ _ _ z => by
      obtain ⟨i, _⟩ := i0 (ι := ι)
      exact z i) fun b ρ2 h2 => c_ite h2 (fun h3 => he (EA := fun _ => noX) h3 (fun _ _ _ z => by
      obtain ⟨i, _⟩ := i0 (ι := ι)
      exact z i) fun y ρ3 h4 => c_use h4 fun d ρ4 h5 => c_and h5 fun h6 => c_lcA hg ht he h6 k) fun h3 => c_lcA hg ht he h3 k
theorem ce_lc {vs : List Nat} (hi : CI ai) (hg : CG ag) (ht : CT at_) (he : CE ae) : CE (aLc ai ag at_ ae vs) := fun h hx hq => hi h hx fun xs G ρ1 h1 => c_and h1 fun h2 => c_lcA hg ht he h2 hq
theorem c_dcA {ι : Type} [Nonempty ι] {G : AEnv → Prop} {vs : List Nat} (hg : CG ag) (ht : CT at_) (hk : CE ak) (he : CE ae) : ∀ {xs : List D} {acc : List (Key × D)} {ρ : AEnv} {Q : ι → AK} {Q' : AK}, (∀ i, dcA G ag at_ ak ae vs xs acc ρ (Q i)) → (∀ x ρ, (∀ i, Q i x ρ) → Q' x ρ) → dcA G ag at_ ak ae vs xs acc ρ Q'
  | [], _, _, _, _, h, k => c_and h fun q => k _ _ q
  | x :: xs, acc, _, Q, Q', h, k => c_and h fun q => hg q fun ρ1 h1 => ht (EA := fun _ => noX) h1 (fun _ _ _ z => by
      obtain ⟨i, _⟩ := i0 (ι := ι)
      exact z i) fun b ρ2 h2 => c_ite h2 (fun h3 => hk (EA := fun _ => noX) h3 (fun _ _ _ z => by
      obtain ⟨i, _⟩ := i0 (ι := ι)
      exact z i) fun ky ρ3 h4 => he (EA := fun _ => noX) h4 (fun _ _ _ z => by
      obtain ⟨i, _⟩ := i0 (ι := ι)
      exact z i) fun y ρ4 h5 => c_use h5 fun d ρ5 h6 => by
        obtain ⟨i, _⟩ := i0 (ι := ι)
        obtain ⟨kd, kk, e1, e2, e3, _⟩ := h6 i
        refine ⟨kd, kk, e1, e2, e3, c_dcA hg ht hk he (Q := Q) (fun i => ?_) k⟩
        obtain ⟨kd', kk', f1, f2, _, q⟩ := h6 i
        rw [e1] at f1; cases f1
        rw [e2] at f2; cases f2
        exact q) fun h3 => c_dcA hg ht hk he h3 k
theorem ce_dc {vs : List Nat} (hi : CI ai) (hg : CG ag) (ht : CT at_) (hk : CE ak) (he : CE ae) : CE (aDc ai ag at_ ak ae vs) := fun h hx hq => hi h hx fun xs G ρ1 h1 => c_and h1 fun h2 => c_dcA hg ht hk he h2 hq
theorem c_scA {ι : Type} [Nonempty ι] {vs : List Nat} (hg : CG ag) (ht : CT at_) (he : CE ae) : ∀ {xs : List D} {acc : List Str} {ρ : AEnv} {Q : ι → List Str → AEnv → Prop} {Q' : List Str → AEnv → Prop}, (∀ i, scA ag at_ ae vs xs acc ρ (Q i)) → (∀ x ρ, (∀ i, Q i x ρ) → Q' x ρ) → scA ag at_ ae vs xs acc ρ Q'
  | [], _, _, _, _, h, k => k _ _ h
  | x :: xs, acc, _, Q, Q', h, k => hg h fun ρ1 h1 => ht (EA := fun _ => noX) h1 (fun _ _ _ z => by
      obtain ⟨i, _⟩ := i0 (ι := ι)
      exact z i) fun b ρ2 h2 => c_ite h2 (fun h3 => he (EA := fun _ => noX) h3 (fun _ _ _ z => by
      obtain ⟨i, _⟩ := i0 (ι := ι)
      exact z i) fun y ρ3 h4 => c_ex (P := fun k => y = .v (.str k)) (fun a b h1 h2 => by rw [h1] at h2; cases h2; rfl) h4 fun d h5 => c_and h5 fun h6 => c_scA hg ht he h6 k) fun h3 => c_scA hg ht he h3 k
theorem ce_sortSc {vs : List Nat} (hi : CE ao) (hg : CG ag) (ht : CT at_) (he : CE ae) : CE (aSortSc ao ag at_ ae vs) := fun h hx hq => hi h hx fun x ρ1 h1 =>
  c_ex (P := fun xs => x = .v (.tup xs)) (fun a b h1 h2 => by rw [h1] at h2; cases h2; rfl) h1 fun xs h2 => c_and h2 fun h3 => c_scA hg ht he h3 fun l ρ2 h4 => c_and h4 fun h5 ys y1 y2 y3 => hq _ _ fun i => h5 i ys y1 y2 y3
end
/-! ### statements -/
section
variable {a b : AS} {ae av ao aiv : AE} {t : AT} {ai : AI} {ag : AG}
theorem cs_next : CS asNext := fun h c => c.nx _ h
theorem cs_seq (ha : CS a) (hb : CS b) : CS (asSeq a b) := fun h c => ha h ⟨fun ρ h1 => hb h1 c, c.rt, c.bk, c.ct, c.ex⟩
theorem cs_expr (he : CE ae) : CS (asExpr ae) := fun h c => he h c.ex fun _ ρ h1 => c.nx _ h1
theorem cs_ret (he : CE ae) : CS (asRet ae) := fun h c => he h c.ex fun x ρ h1 => c_ret h1 c.rt
theorem cs_retN : CS asRetN := fun h c => c.rt _ _ h
theorem cs_if (ht : CT t) (ha : CS a) (hb : CS b) : CS (asIf t a b) := fun h c => ht h c.ex fun x ρ h1 => c_ite h1 (fun h2 => ha h2 c) fun h2 => hb h2 c
theorem cs_break : CS asBreak := fun h c => c.bk _ h
theorem cs_cont : CS asCont := fun h c => c.ct _ h
theorem cs_set {j : Nat} (he : CE ae) : CS (asSet j ae) := fun h c => he h c.ex fun x ρ h1 => c_set h1 c.nx
theorem cs_put (hv : CE av) (ho : CE ao) (hi : CE aiv) : CS (asPut av ao aiv) := fun {ι} _ DA D' ρ h c => hv h c.ex fun x ρ1 h1 => c_use h1 fun d ρ2 h2 => ho h2 c.ex fun o ρ3 h3 => hi h3 c.ex fun iv ρ4 h4 => by
  obtain ⟨i, _⟩ := i0 (ι := ι)
  obtain ⟨j, y, k, y', rfl, e1, e2, e3, e4, _⟩ := h4 i
  refine ⟨j, y, k, y', rfl, e1, e2, e3, e4, c.nx _ fun i => ?_⟩
  obtain ⟨j', z, k', z', f0, f1, f2, f3, _, q⟩ := h4 i
  cases f0
  rw [e1] at f1; cases f1
  rw [e2] at f2; cases f2
  rw [e3] at f3; cases f3
  exact q
theorem c_forA {ι : Type} [Nonempty ι] {G : AEnv → Prop} (hg : CG ag) (hb : CS b) : ∀ {xs : List D} {ρ : AEnv} {DA : ι → AEnds} {D' : AEnds}, (∀ i, forA G ag b (DA i) xs ρ) → Cov DA D' → forA G ag b D' xs ρ
  | [], _, _, _, h, c => c_and h fun q => c.nx _ q
  | x :: xs, _, _, _, h, c => c_and h fun q => hg q fun ρ1 h1 => hb h1 ⟨fun ρ h2 => c_forA hg hb h2 c, c.rt, fun ρ h2 => c.nx ρ h2, fun ρ h2 => c_forA hg hb h2 c, c.ex⟩
theorem cs_for (hi : CI ai) (hg : CG ag) (hb : CS b) : CS (asFor ai ag b) := fun h c => hi h c.ex fun xs G ρ h1 => c_forA hg hb h1 c
theorem cs_forItems {j : Nat} (hg : CG ag) (hb : CS b) : CS (asForItems j ag b) := fun {ι} _ DA D' ρ h c => by
  refine c_ex (P := fun kvs => ρ[j]? = some (some (.v (.dic kvs)))) (fun a b h1 h2 => by rw [h1] at h2; cases h2; rfl) h fun kvs h1 => c_forA hg hb h1 ⟨c.nx, c.rt, c.bk, c.ct, fun _ _ _ z => ?_⟩
  obtain ⟨i, _⟩ := i0 (ι := ι)
  exact z i
theorem cs_fld {C : Addr} {f : Str} (hv : CE av) (ho : CE ao) : CS (asFld C f av ao) := fun {ι} _ DA D' ρ h c => hv h c.ex fun x ρ1 h1 => c_use h1 fun d ρ2 h2 => ho h2 c.ex fun o ρ3 h3 => by
  obtain ⟨i, _⟩ := i0 (ι := ι)
  obtain ⟨j, fs, rfl, e1, e2, e3, _⟩ := h3 i
  refine ⟨j, fs, rfl, e1, e2, e3, c.nx _ fun i => ?_⟩
  obtain ⟨j', fs', f0, f1, _, _, q⟩ := h3 i
  cases f0
  rw [e1] at f1; cases f1
  exact q
theorem cs_raise {C : Addr} {f : Str} (he : CE ae) : CS (asRaise C f ae) := fun h c => he h c.ex fun x ρ1 h1 => c_use h1 fun d ρ2 h2 => c.ex _ _ _ h2
theorem cs_forget {vs : List Nat} (ha : CS a) : CS (asForget vs a) := fun h c => ha h c
theorem cs_try {K : Fg} {C : Addr} {j : Nat} {u : List (Str × D) → Option D} (ha : CS a) : CS (asTry K C j a u) := fun {ι} _ DA D' ρ h c => ha h ⟨c.nx, c.rt, c.bk, c.ct, fun C' fs ρ' z => by
  obtain ⟨i, _⟩ := i0 (ι := ι)
  obtain ⟨b, e, h1, h2⟩ := z i
  have hz : ∀ i, (b = true → C' = C ∧ fs ≠ [] ∧ j < ρ'.length ∧ ∃ d, u fs = some d ∧ (DA i).rt (.v d) (ρ'.set j none)) ∧ (b = false → (DA i).ex C' fs ρ') := fun i => by
    obtain ⟨b', e', g⟩ := z i
    rw [e] at e'
    cases e'
    exact g
  refine ⟨b, e, fun hb => ?_, fun hb => c.ex _ _ _ fun i => (hz i).2 hb⟩
  obtain ⟨q1, q2, q3, d, q4, _⟩ := h1 hb
  refine ⟨q1, q2, q3, d, q4, c.rt _ _ fun i => ?_⟩
  obtain ⟨_, _, _, d', q4', q⟩ := (hz i).1 hb
  rw [q4] at q4'
  cases q4'
  exact q⟩
end
/-! ### all that a def keeps -/
def spS (a : AS) (O : List Nat) (n m : Nat) : ASp where
  pre := fun xs => xs.length = m ∧ ∃ po xc, a (endsR O xs po xc) (startA n xs)
  post := fun xs r xs' => ∀ po xc, a (endsR O xs po xc) (startA n xs) → po r xs'
  exc := fun xs C fs xs' => (∃ po xc, a (endsR O xs po xc) (startA n xs)) ∧ ∀ po xc, a (endsR O xs po xc) (startA n xs) → xc C fs xs'
theorem rd_S {a : AS} {O : List Nat} {n m : Nat} (c : CS a) : ∀ xs, (spS a O n m).pre xs → a (endsOf O (spS a O n m) xs) (startA n xs) := by
  rintro xs ⟨_, po, xc, h⟩
  haveI : Nonempty {p : (A → List A → Prop) × (Addr → List (Str × D) → List A → Prop) // a (endsR O xs p.1 p.2) (startA n xs)} := ⟨⟨(po, xc), h⟩⟩
  refine c (ι := {p : (A → List A → Prop) × (Addr → List (Str × D) → List A → Prop) // a (endsR O xs p.1 p.2) (startA n xs)}) (DA := fun i => endsR O xs i.1.1 i.1.2) (fun i => i.2) ?_
  have i1 : {p : (A → List A → Prop) × (Addr → List (Str × D) → List A → Prop) // a (endsR O xs p.1 p.2) (startA n xs)} := ⟨(po, xc), h⟩
  constructor
  · intro ρ z
    obtain ⟨xs', e, _⟩ := z i1
    refine ⟨xs', e, fun po xc hh => ?_⟩
    obtain ⟨ys, e', q⟩ := z ⟨(po, xc), hh⟩
    rw [e] at e'
    cases e'
    exact q
  · intro r ρ z
    obtain ⟨xs', e, _⟩ := z i1
    refine ⟨xs', e, fun po xc hh => ?_⟩
    obtain ⟨ys, e', q⟩ := z ⟨(po, xc), hh⟩
    rw [e] at e'
    cases e'
    exact q
  · intro ρ z
    exact z i1
  · intro ρ z
    exact z i1
  · intro C fs ρ z
    obtain ⟨xs', e, _⟩ := z i1
    refine ⟨xs', e, ⟨_, _, h⟩, fun po xc hh => ?_⟩
    obtain ⟨ys, e', q⟩ := z ⟨(po, xc), hh⟩
    rw [e] at e'
    cases e'
    exact q
theorem len_S {a : AS} {O : List Nat} {n m : Nat} : ∀ xs, (spS a O n m).pre xs → xs.length = m := fun _ h => h.1
/-- what is known of a def at some arguments -/
structure Sat (S : ASp) (xs : List A) (P : A → List A → Prop) (X : Addr → List (Str × D) → List A → Prop) : Prop where
  pre : S.pre xs
  po : ∀ r o, S.post xs r o → P r o
  ex : ∀ C fs o, S.exc xs C fs o → X C fs o
theorem Sat.mk' {a : AS} {O : List Nat} {n m : Nat} {xs : List A} {P : A → List A → Prop} {X : Addr → List (Str × D) → List A → Prop} (hl : xs.length = m) (h : a (endsR O xs P X) (startA n xs)) : Sat (spS a O n m) xs P X :=
  ⟨⟨hl, P, X, h⟩, fun _ _ p => p _ _ h, fun _ _ _ p => p.2 _ _ h⟩
def noO : Addr → List (Str × D) → List A → Prop := fun _ _ _ => False
/-- the arguments stay, and there is no exception -/
abbrev Val (S : ASp) (xs : List A) (P : A → Prop) : Prop := Sat S xs (fun r o => o = xs ∧ P r) noO
abbrev Ev (S : ASp) (xs : List A) (r : A) : Prop := Val S xs (· = r)
abbrev Rz (S : ASp) (xs : List A) (C : Addr) (fs : List (Str × D)) : Prop := Sat S xs (fun _ _ => False) fun C' fs' o => C' = C ∧ fs' = fs ∧ o = xs
section
variable {S : ASp} {xs ys : List A} {P : A → List A → Prop} {X : Addr → List (Str × D) → List A → Prop} {EA : AX} {ρ ρ' : AEnv} {Q : AK}
theorem kSat (hp : pass xs ρ = some (ys, ρ')) (h : Sat S ys P X) (hq : ∀ r o, P r o → Q r (give xs o ρ')) (hx : ∀ C fs o, X C fs o → EA C fs (give xs o ρ')) : callA S xs EA ρ Q :=
  ⟨ys, ρ', hp, h.pre, fun r o p _ => hq r o (h.po r o p), fun C fs o p _ => hx C fs o (h.ex C fs o p)⟩
theorem give_back : ∀ {xs : List A} {ρ ρ' : AEnv} {ys : List A}, pass xs ρ = some (ys, ρ') → give xs ys ρ' = ρ
  | [], ρ, ρ', ys, h => by
    simp only [pass, Option.some.injEq, Prod.mk.injEq] at h
    obtain ⟨rfl, rfl⟩ := h
    rfl
  | x :: xs, ρ, ρ', ys, h => by
    cases x with
    | loc i =>
      simp only [pass] at h
      split at h
      · rename_i y hy
        split at h
        · rename_i zs ρ2 hz
          cases h
          have e := give_back hz
          simp only [give]
          have hn := (pass_keep hz).2.1 i (by
            have : i < ρ.length := by
              rcases Nat.lt_or_ge i ρ.length with q | q
              · exact q
              · rw [List.getElem?_eq_none q] at hy; cases hy
            simp [this])
          have hni := pass_nodup hz i (by
            have : i < ρ.length := by
              rcases Nat.lt_or_ge i ρ.length with q | q
              · exact q
              · rw [List.getElem?_eq_none q] at hy; cases hy
            simp [this])
          have hc : ∀ (xs zs : List A) (ρ : AEnv) (o : Option A), A.loc i ∉ xs → give xs zs (ρ.set i o) = (give xs zs ρ).set i o := by
            intro xs
            induction xs with
            | nil => intro zs ρ o _; cases zs <;> rfl
            | cons x xs ih =>
              intro zs ρ o hn
              have h1 : A.loc i ∉ xs := fun z => hn (List.mem_cons_of_mem _ z)
              cases zs with
              | nil => cases x <;> rfl
              | cons z zs =>
                cases x with
                | loc j =>
                  have hij : j ≠ i := fun z => hn (by rw [z]; exact List.mem_cons_self ..)
                  simp only [give]
                  rw [List.set_comm _ _ hij.symm, ih _ _ _ h1]
                | _ => exact ih _ _ _ h1
          rw [hc _ _ _ _ hni, e, List.set_set]
          refine List.ext_getElem? fun j => ?_
          rcases Nat.decEq i j with q | q
          · rw [List.getElem?_set_ne q]
          · subst q
            have : i < ρ.length := by
              rcases Nat.lt_or_ge i ρ.length with q | q
              · exact q
              · rw [List.getElem?_eq_none q] at hy; cases hy
            rw [List.getElem?_set_self this, hy]
        · cases h
      · cases h
    | _ =>
      simp only [pass] at h
      split at h
      · rename_i zs ρ2 hz
        cases h
        simpa only [give] using give_back hz
      · cases h
theorem kVal {P : A → Prop} (hp : pass xs ρ = some (ys, ρ')) (h : Val S ys P) (hq : ∀ r, P r → Q r ρ) : callA S xs EA ρ Q := kSat hp h (fun r o ⟨e, p⟩ => by rw [e, give_back hp]; exact hq r p) fun _ _ _ z => z.elim
theorem kEv {r : A} (hp : pass xs ρ = some (ys, ρ')) (h : Ev S ys r) (hq : Q r ρ) : callA S xs EA ρ Q := kVal hp h fun _ e => by rw [e]; exact hq
theorem kRz {C : Addr} {fs : List (Str × D)} (hp : pass xs ρ = some (ys, ρ')) (h : Rz S ys C fs) (hx : EA C fs ρ) : callA S xs EA ρ Q := kSat hp h (fun _ _ z => z.elim) fun C' fs' o ⟨e1, e2, e3⟩ => by rw [e1, e2, e3, give_back hp]; exact hx
theorem kMk {C : Addr} (hp : pass xs ρ = some (ys, ρ')) (h : Sat S (.obj C [] :: ys) P X) (hq : ∀ r y o, P r (y :: o) → r = .v .non ∧ Q y (give xs o ρ')) (hx : ∀ Ce fs y o, X Ce fs (y :: o) → EA Ce fs (give xs o ρ')) : mkSp C S xs EA ρ Q :=
  ⟨ys, ρ', hp, h.pre, fun r y o p _ => hq r y o (h.po r _ p), fun Ce fs y o p _ => hx Ce fs y o (h.ex Ce fs _ p)⟩
/-- an __init__ that gives this instance, its other arguments stay -/
abbrev Mks (S : ASp) (C : Addr) (ys : List A) (y : A) : Prop := Sat S (.obj C [] :: ys) (fun r o => r = .v .non ∧ o = y :: ys) noO
theorem kMks {C : Addr} {y : A} (hp : pass xs ρ = some (ys, ρ')) (h : Mks S C ys y) (hq : Q y ρ) : mkSp C S xs EA ρ Q := kMk hp h (fun r z o ⟨h1, h2⟩ => by
  cases h2
  exact ⟨h1, by rw [give_back hp]; exact hq⟩) fun _ _ _ _ z => z.elim
abbrev MkX (S : ASp) (C : Addr) (ys : List A) (Ce : Addr) (fs : List (Str × D)) : Prop := Sat S (.obj C [] :: ys) (fun _ _ => False) fun C' fs' o => C' = Ce ∧ fs' = fs ∧ ∃ y, o = y :: ys
theorem kMkX {C Ce : Addr} {fs : List (Str × D)} (hp : pass xs ρ = some (ys, ρ')) (h : MkX S C ys Ce fs) (hx : EA Ce fs ρ) : mkSp C S xs EA ρ Q := kMk hp h (fun _ _ _ z => z.elim) fun C' fs' y o ⟨e1, e2, z, e3⟩ => by
  cases e3
  rw [e1, e2, give_back hp]
  exact hx
end
end Vs

set_option Elab.async false
set_option linter.all false
set_option maxRecDepth 100000
set_option maxHeartbeats 1000000
/-! Vs: names that are not read any more are forgotten behind a body. -/
namespace Vs
open PySem PySem.Spec PyProof.Rows L2
def asAfter (vs : List Nat) (a : AS) : AS := fun DA ρ => a { DA with nx := fun ρ => DA.nx (clearA vs ρ) } ρ
section
variable {X : Cx} {P : Pm} {DA : AEnds} {ρ ρ' : AEnv} {a : AS} {vs : List Nat}
theorem qss_after (vs : List Nat) {st : List Stmt} (h : QSs X P st a) : QSs X P st (asAfter vs a) :=
  let ⟨t, p, s⟩ := h.ex; ⟨t, p, fun c D DA ho hw l S H σ ρ st q => s c D { DA with nx := fun ρ => DA.nx (clearA vs ρ) } ho hw ⟨fun S H σ ρ st q => l.nx S H σ _ (st.clears vs fun _ _ m => by simp at m) q, l.rt, l.bk, l.ct⟩ S H σ _ st q⟩
theorem cs_after (h : CS a) : CS (asAfter vs a) := fun h1 c => h h1 ⟨fun ρ h2 => c.nx _ h2, c.rt, c.bk, c.ct, c.ex⟩
theorem i_after (k : a { DA with nx := fun ρ => DA.nx (clearA vs ρ) } ρ) : asAfter vs a DA ρ := k
theorem i_forgetN (h : clearA vs ρ = ρ') (k : a DA ρ') : asForget vs a DA ρ := by
  subst h
  exact k
theorem i_useN {x : A} {d : D} {k : D → AEnv → Prop} (hx : isLoc x = false) (hd : x.toD = d) (h : k d ρ) : useA x ρ k := by
  cases x with
  | loc i => cases hx
  | _ => subst hd; exact h
/-- the ends of a def -/
theorem e_rt {O : List Nat} {xs : List A} {P : A → List A → Prop} {X : Addr → List (Str × D) → List A → Prop} {r : A} {o : List A} (h : fin O 0 xs ρ = some o) (k : P r o) : (endsR O xs P X).rt r ρ := ⟨o, h, k⟩
theorem e_nx {O : List Nat} {xs : List A} {P : A → List A → Prop} {X : Addr → List (Str × D) → List A → Prop} {o : List A} (h : fin O 0 xs ρ = some o) (k : P (.v .non) o) : (endsR O xs P X).nx ρ := ⟨o, h, k⟩
theorem e_ex {O : List Nat} {xs : List A} {P : A → List A → Prop} {X : Addr → List (Str × D) → List A → Prop} {C : Addr} {fs : List (Str × D)} {o : List A} (h : fin O 0 xs ρ = some o) (k : X C fs o) : (endsR O xs P X).ex C fs ρ := ⟨o, h, k⟩
theorem i_seqM {a b : AS} (M : AEnv → Prop) (h1 : ∀ k : AEnv → Prop, (∀ ρ, M ρ → k ρ) → a { DA with nx := k } ρ) (h2 : ∀ ρ, M ρ → b DA ρ) : asSeq a b DA ρ := h1 (b DA) h2
/-- a result or an exception, and what the arguments are then -/
abbrev Fn (S : ASp) (xs : List A) (R : RX) (out : List A) : Prop := Sat S xs (fun r o => R = .rt r ∧ o = out) fun C fs o => R = .xc C fs ∧ o = out
section
variable {O : List Nat} {n m : Nat} {xs ys out : List A} {R : RX} {S : ASp} {EA : AX} {Q : AK} {P : A → List A → Prop} {Z : Addr → List (Str × D) → List A → Prop}
theorem Sat.mkN {ρ : AEnv} (hl : xs.length = m) (hs : startA n xs = ρ) (h : a (endsR O xs P Z) ρ) : Sat (spS a O n m) xs P Z := Sat.mk' hl (by rw [hs]; exact h)
theorem fnI (hl : xs.length = m) (h : ∀ DA : AEnds, (∀ r ρ, fin O 0 xs ρ = some out → R = .rt r → DA.rt r ρ) → (∀ ρ, fin O 0 xs ρ = some out → R = .rt (.v .non) → DA.nx ρ) → (∀ C fs ρ, fin O 0 xs ρ = some out → R = .xc C fs → DA.ex C fs ρ) → a DA (startA n xs)) : Fn (spS a O n m) xs R out :=
  Sat.mk' hl (h _ (fun r ρ h1 h2 => ⟨_, h1, h2, rfl⟩) (fun ρ h1 h2 => ⟨_, h1, h2, rfl⟩) fun C fs ρ h1 h2 => ⟨_, h1, h2, rfl⟩)
theorem fnP (hl : xs.length = m) (h : ∀ DA : AEnds, (∀ r ρ o, fin O 0 xs ρ = some o → P r o → DA.rt r ρ) → (∀ ρ o, fin O 0 xs ρ = some o → P (.v .non) o → DA.nx ρ) → (∀ C fs ρ o, fin O 0 xs ρ = some o → Z C fs o → DA.ex C fs ρ) → a DA (startA n xs)) : Sat (spS a O n m) xs P Z :=
  Sat.mk' hl (h _ (fun r ρ o h1 h2 => ⟨o, h1, h2⟩) (fun ρ o h1 h2 => ⟨o, h1, h2⟩) fun C fs ρ o h1 h2 => ⟨o, h1, h2⟩)
theorem kR (h : Sat S ys P Z) (hp : pass xs ρ = some (ys, ρ')) (hq : ∀ r o, P r o → o.length = ys.length → Q r (give xs o ρ')) (hx : ∀ C fs o, Z C fs o → o.length = ys.length → EA C fs (give xs o ρ')) : callA S xs EA ρ Q :=
  ⟨ys, ρ', hp, h.pre, fun r o p l => hq r o (h.po r o p) l, fun C fs o p l => hx C fs o (h.ex C fs o p) l⟩
theorem kMkR {C : Addr} (h : Sat S (.obj C [] :: ys) P Z) (hp : pass xs ρ = some (ys, ρ')) (hq : ∀ r y o, P r (y :: o) → o.length = ys.length → r = .v .non ∧ Q y (give xs o ρ')) (hx : ∀ Ce fs y o, Z Ce fs (y :: o) → o.length = ys.length → EA Ce fs (give xs o ρ')) : mkSp C S xs EA ρ Q :=
  ⟨ys, ρ', hp, h.pre, fun r y o p l => hq r y o (h.po r _ p) l, fun Ce fs y o p l => hx Ce fs y o (h.ex Ce fs _ p) l⟩
theorem kFnR {r : A} (h : Fn S ys R out) (hp : pass xs ρ = some (ys, ρ')) (e : R = .rt r) (k : Q r (give xs out ρ')) : callA S xs EA ρ Q := kSat hp h (fun r' o ⟨h1, h2⟩ => by
  rw [e] at h1
  cases h1
  rw [h2]
  exact k) fun C fs o ⟨h1, _⟩ => by
    rw [e] at h1
    cases h1
theorem kFnX {C : Addr} {fs : List (Str × D)} (h : Fn S ys R out) (hp : pass xs ρ = some (ys, ρ')) (e : R = .xc C fs) (k : EA C fs (give xs out ρ')) : callA S xs EA ρ Q := kSat hp h (fun r' o ⟨h1, h2⟩ => by
  rw [e] at h1
  cases h1) fun C fs o ⟨h1, h2⟩ => by
    rw [e] at h1
    cases h1
    rw [h2]
    exact k
theorem kMkI {C : Addr} {y : A} {o : List A} (h : Fn S (.obj C [] :: ys) R out) (hp : pass xs ρ = some (ys, ρ')) (e : R = .rt (.v .non)) (ho : out = y :: o) (k : Q y (give xs o ρ')) : mkSp C S xs EA ρ Q := kMk hp h (fun r z o' ⟨h1, h2⟩ => by
  rw [e] at h1
  cases h1
  rw [ho] at h2
  cases h2
  exact ⟨rfl, k⟩) fun Ce fs z o' ⟨h1, _⟩ => by
    rw [e] at h1
    cases h1
end
theorem len_h {xs : List D} {n : Nat} (h : xs.length ≤ n) : xs.length ≤ n := h
/-- a loop over data of one kind -/
theorem for_map {α : Type} {G : AEnv → Prop} {ag : AG} {ab : AS} (f : α → D) (W : List α → AEnv → Prop) (h0 : ∀ ρ, W [] ρ → G ρ ∧ DA.nx ρ)
    (h1 : ∀ x xs ρ, W (x :: xs) ρ → (∀ ρ, W xs ρ → forA G ag ab DA (xs.map f) ρ) → G ρ ∧ ag (f x) ρ fun ρ' => ab { DA with nx := forA G ag ab DA (xs.map f), ct := forA G ag ab DA (xs.map f), bk := DA.nx } ρ') : ∀ (xs : List α) (ρ : AEnv), W xs ρ → forA G ag ab DA (xs.map f) ρ
  | [], ρ, w => h0 ρ w
  | x :: xs, ρ, w => h1 x xs ρ w fun ρ' w' => for_map f W h0 h1 xs ρ' w'
/-- what holds of each round: the names are the same at each round's begin -/
theorem for_each {α : Type} {G : AEnv → Prop} {ag : AG} {ab : AS} (f : α → D) {ρ : AEnv} (hG : G ρ) : ∀ (xs : List α), (∀ x ∈ xs, ∀ D' : AEnds, D'.rt = DA.rt → D'.ex = DA.ex → D'.nx ρ → D'.ct ρ → ag (f x) ρ fun ρ' => ab D' ρ') → DA.nx ρ → forA G ag ab DA (xs.map f) ρ
  | [], _, k => ⟨hG, k⟩
  | x :: xs, h, k => ⟨hG, h x (List.mem_cons_self ..) _ rfl rfl (for_each f hG xs (fun y hy => h y (List.mem_cons_of_mem _ hy)) k) (for_each f hG xs (fun y hy => h y (List.mem_cons_of_mem _ hy)) k)⟩
/-- a comprehension over data of one kind, each round with the same names -/
theorem lc_typedA {α : Type} {G : AEnv → Prop} {ag : AG} {at_ : AT} {ae : AE} {vs : List Nat} {Q : AK} (f : α → D) (t : α → Bool) (e : α → D) (hG : G ρ) : ∀ (xs : List α) (acc : List D), acc.length + xs.length ≤ 100000 →
    (∀ x ∈ xs, ∀ (R : D → AEnv → Prop) (N : AEnv → Prop), (∀ ρ4, clearA vs ρ4 = ρ → t x = true → R (e x) ρ4) → (∀ ρ2, clearA vs ρ2 = ρ → t x = false → N ρ2) → ag (f x) ρ fun ρ1 => at_ noX ρ1 fun b ρ2 => if b = true then ae noX ρ2 fun y ρ3 => useA y ρ3 R else N ρ2) →
    Q (.lst (acc ++ (xs.filter t).map e)) ρ → lcA G ag at_ ae vs (xs.map f) acc ρ Q
  | [], acc, _, _, hq => ⟨hG, by simpa using hq⟩
  | x :: xs, acc, hl, h, hq => by
    simp only [List.length_cons] at hl
    refine ⟨hG, h x (List.mem_cons_self ..) (fun d ρ4 => acc.length ≤ 100000 ∧ lcA G ag at_ ae vs (xs.map f) (acc ++ [d]) (clearA vs ρ4) Q) (fun ρ2 => lcA G ag at_ ae vs (xs.map f) acc (clearA vs ρ2) Q) (fun ρ4 e1 ht => ?_) (fun ρ2 e1 ht => ?_)⟩
    · refine ⟨by omega, ?_⟩
      rw [e1]
      refine lc_typedA f t e hG xs _ (by simp; omega) (fun y hy => h y (List.mem_cons_of_mem _ hy)) ?_
      simpa [List.filter_cons, ht] using hq
    · rw [e1]
      refine lc_typedA f t e hG xs _ (by omega) (fun y hy => h y (List.mem_cons_of_mem _ hy)) ?_
      simpa [List.filter_cons, ht] using hq
theorem lc_typed {α : Type} {G : AEnv → Prop} {ag : AG} {at_ : AT} {ae : AE} {vs : List Nat} {Q : AK} (f : α → D) (t : α → Bool) (e : α → D) {xs : List α} (hG : G ρ) (hl : xs.length ≤ 100000)
    (h : ∀ x ∈ xs, ∀ (R : D → AEnv → Prop) (N : AEnv → Prop), (∀ ρ4, clearA vs ρ4 = ρ → t x = true → R (e x) ρ4) → (∀ ρ2, clearA vs ρ2 = ρ → t x = false → N ρ2) → ag (f x) ρ fun ρ1 => at_ noX ρ1 fun b ρ2 => if b = true then ae noX ρ2 fun y ρ3 => useA y ρ3 R else N ρ2)
    (hq : Q (.lst ((xs.filter t).map e)) ρ) : lcA G ag at_ ae vs (xs.map f) [] ρ Q := lc_typedA f t e hG xs [] (by simpa using hl) h (by simpa using hq)
theorem at_mem {xs : List D} {z : Int} (h0 : 0 ≤ z) (h1 : z < xs.length) : ∃ x ∈ xs, itD (.lst xs) (.int z) = some x := by
  refine ⟨xs[z.toNat]'(by omega), List.getElem_mem _, ?_⟩
  have e : z = ((z.toNat : Nat) : Int) := by omega
  have h := at_nat (xs := xs) (k := z.toNat) (by omega)
  rw [← e] at h
  show atI _ z = _
  rw [h, List.getElem?_eq_getElem (by omega)]
theorem sub_len {α : Type} [DecidableEq α] : ∀ (xs ys : List α), xs.Nodup → (∀ x ∈ xs, x ∈ ys) → xs.length ≤ ys.length
  | [], _, _, _ => Nat.zero_le _
  | x :: xs, ys, nd, h => by
    rw [List.nodup_cons] at nd
    have hx := h x (List.mem_cons_self ..)
    have h1 := sub_len xs (ys.erase x) nd.2 fun y hy => (List.mem_erase_of_ne fun (e : y = x) => nd.1 (e ▸ hy)).mpr (h y (List.mem_cons_of_mem _ hy))
    have h2 := List.length_erase_of_mem hx
    have h3 := List.length_pos_of_mem hx
    simp only [List.length_cons]
    omega
theorem deqL_len : ∀ {xs ys : List D}, deqL xs ys = true → xs.length = ys.length
  | [], [], _ => rfl
  | [], _ :: _, h => by simp [deqL] at h
  | _ :: _, [], h => by simp [deqL] at h
  | x :: xs, y :: ys, h => by
    simp only [deqL, Bool.and_eq_true] at h
    simp [deqL_len h.2]
/-- tuples of plain data and empty dicts -/
def Gk0 (d : D) : Prop := PlD 20 d ∨ d = .dic []
theorem gk0_ok {Pr : Program} {w : World} {K : Fg} {mg : Str → Option Value} {base : Heap} : ∀ d, Gk0 d → GOk Pr w K mg base 1 d := fun d h => by
  rcases h with h | h
  · exact .inl h
  · exact .inr (.inl h)
theorem c_neX {G : D → Prop} : C2 (aNeX G) := fun {ι} _ x y ρ Q Q' h k => by
  obtain ⟨i, _⟩ := i0 (ι := ι)
  rcases h i with h1 | h1
  · obtain ⟨d, e, h1, h2, h3, h4, _⟩ := h1
    refine .inl ⟨d, e, h1, h2, h3, h4, k _ _ fun i => ?_⟩
    rcases h i with g | g
    · obtain ⟨d', e', g1, g2, _, _, q⟩ := g
      rw [h1] at g1; cases g1
      rw [h2] at g2; cases g2
      exact q
    · obtain ⟨ds, g1, g2, _, q⟩ := g
      rw [h1] at g1; cases g1
      rw [h2] at g2; cases g2
      rw [deq_refl _ _ h3]
      exact q
  · obtain ⟨ds, h1, h2, h3, _⟩ := h1
    refine .inr ⟨ds, h1, h2, h3, k _ _ fun i => ?_⟩
    rcases h i with g | g
    · obtain ⟨d', e', g1, g2, g3, _, q⟩ := g
      rw [h1] at g1; cases g1
      rw [h2] at g2; cases g2
      rw [deq_refl _ _ g3] at q
      exact q
    · obtain ⟨ds, g1, g2, _, q⟩ := g
      rw [h1] at g1; cases g1
      exact q
end
end Vs

set_option Elab.async false
set_option linter.all false
set_option maxRecDepth 100000
set_option maxHeartbeats 1000000
/-! Vs: x += e of numbers, while, insert, times, a displayed dict. -/
namespace Vs
open PySem PySem.Spec PyProof.Rows L2
/-- x += e, numbers -/
def asAug (i : Nat) (ae : AE) : AS := fun DA ρ => ∃ x, ρ[i]? = some (some (.v (.int x))) ∧ ae DA.ex ρ fun y ρ1 => ∃ j, dat y ρ1 = some (.int j) ∧ DA.nx (ρ1.set i (some (.v (.int (x + j)))))
section
variable {X : Cx} {P : Pm} {K : Fg} {pos : Pos}
theorem qs_aug {i : Nat} {x : Str} {e : Expr} {ae : AE} {pos' : Pos} (hN : X.N.Nodup) (hi : X.N[i]? = some x) (hx : Loc X.env.scope x) (h : QE X P e ae) (hO : i ∉ P.O)
    (hf : X.fn x = true ∨ X.env.scope.names.lookup x = some .local := by first | exact .inl rfl | exact .inr rfl | assumption) : QS X P (.AugAssign (.Name x pos') .Add e pos) (asAug i ae) := by
  obtain ⟨t, p, s⟩ := h.ex
  refine ⟨_, ps_aug hN hi hx p iop_add hf, fun c D DA ho hw l S H σ ρ st ⟨x, hx, q⟩ => ?_⟩
  obtain ⟨v, hv, rv⟩ := st.slot hx
  simp only [Rep] at rv
  subst rv
  refine ⟨_, hv, s c DA.ex ho hw [] S H σ ρ _ _ st q fun u H1 ⟨S1, ρ1, y, s1, j, hj, q1⟩ => ?_⟩
  have ru := s1.dat (List.mem_cons_self ..) hj
  simp only [Rep] at ru
  subst ru
  refine ⟨x, j, rfl, rfl, ?_⟩
  refine l.nx S1 H1 _ _ ((s1.drop.hold (d := .int (x + j)) (v := .int (x + j)) (by simp only [Rep])).store rfl (ho.ne hO) (by simp)) q1
/-- while -/
def asWhile (at_ : AT) (ab : AS) : AS := fun DA ρ => ∃ W : Nat → AEnv → Prop, (∃ m, W m ρ) ∧ ∀ m ρ, W m ρ → at_ DA.ex ρ fun b ρ1 => if b = true then ab { DA with nx := fun ρ' => ∃ m', m' < m ∧ W m' ρ', ct := fun ρ' => ∃ m', m' < m ∧ W m' ρ', bk := DA.nx } ρ1 else DA.nx ρ1
theorem qs_while {e : Expr} {body : List Stmt} {at_ : AT} {ab : AS} (hp : PassesOwn (model X.prog X.w) X.A X.env X.xe) (ht : QT X P e at_) (hb : QSs X P body ab) : QS X P (.While e body [] pos) (asWhile at_ ab) := by
  obtain ⟨tt, pt, st⟩ := ht.ex
  obtain ⟨tb, pb, sb⟩ := hb.ex
  refine ⟨_, ps_while hp pt pb, fun c D DA ho hw l S H σ ρ s0 ⟨W, ⟨m0, w0⟩, hW⟩ => ?_⟩
  refine ⟨fun m σ H => ∃ S ρ, Stt X.K c S H σ ρ [] ∧ W m ρ, ⟨m0, S, ρ, s0, w0⟩, ?_⟩
  rintro m σ H ⟨S, ρ, s1, w1⟩
  refine st c DA.ex ho hw [] S H σ ρ _ _ s1 (hW m ρ w1) fun b H1 ⟨S1, ρ1, s2, q⟩ => ?_
  cases b with
  | false => exact l.nx S1 H1 σ ρ1 s2 q
  | true =>
    refine ⟨fun σ' H' => ∃ m', m' < m ∧ ∃ S ρ, Stt X.K c S H' σ' ρ [] ∧ W m' ρ, fun σ' H' h => h, ?_⟩
    refine sb c { D with nx := fun σ' H' => ∃ m', m' < m ∧ ∃ S ρ, Stt X.K c S H' σ' ρ [] ∧ W m' ρ, ct := fun σ' H' => ∃ m', m' < m ∧ ∃ S ρ, Stt X.K c S H' σ' ρ [] ∧ W m' ρ, bk := D.nx } { DA with nx := fun ρ' => ∃ m', m' < m ∧ W m' ρ', ct := fun ρ' => ∃ m', m' < m ∧ W m' ρ', bk := DA.nx } ho hw ⟨fun S H σ ρ st ⟨m', h1, h2⟩ => ⟨m', h1, S, ρ, st, h2⟩, l.rt, l.nx, fun S H σ ρ st ⟨m', h1, h2⟩ => ⟨m', h1, S, ρ, st, h2⟩⟩ S1 H1 σ ρ1 s2 q
/-- o.insert(i, x) -/
def insK (o iv : A) (d : D) (ρ : AEnv) (Q : AK) : Prop := ∃ j xs k, o = .loc j ∧ ρ[j]? = some (some (.lst xs)) ∧ dat iv ρ = some (.int k) ∧ 0 ≤ k ∧ k < 2 ^ 63 ∧ xs.length ≤ 100000 ∧ Q (.v .non) (ρ.set j (some (.lst (xs.take k.toNat ++ [d] ++ xs.drop k.toNat))))
def aInsert (ao ai ae : AE) : AE := fun EA ρ Q => ao EA ρ fun o ρ1 => (∃ xs, dat o ρ1 = some (.lst xs)) ∧ ai EA ρ1 fun iv ρ2 => ae EA ρ2 fun x ρ3 => useA x ρ3 fun d ρ4 => insK o iv d ρ4 Q
theorem qe_insert {o e f : Expr} {ao ai ae : AE} {apos cpos : Pos} (ho' : QE X P o ao) (hi : QE X P e ai) (he : QE X P f ae) (hbase : attributeBase o "insert" X.env (eval o X.env) = eval o X.env := by rfl)
    (h1 : ((backTo cpos (starEach [e, f] X.env)).all (fun x => !x.1) && (backToKw cpos (keywordEach [] X.env)).all (fun x => x.1.isSome) && decide ([e, f].length + ([] : List Keyword).length + (if ([] : List Keyword).isEmpty then 0 else 1) < 30)) = true := by rfl)
    (h2 : (apos.endLine == cpos.line) = true := by rfl) (h3 : starEach [e, f] X.env = (false, eval e X.env) :: starEach [f] X.env := by rfl) (h4 : (backTo cpos (starEach [f] X.env)).any (·.1) = false := by rfl) (h5 : starEach [f] X.env = (false, eval f X.env) :: starEach [] X.env := by rfl) :
    QE X P (.Call (.Attribute o "insert" apos) [e, f] [] cpos) (aInsert ao ai ae) := by
  obtain ⟨to, po, so⟩ := ho'.ex
  obtain ⟨ti, pi, si⟩ := hi.ex
  obtain ⟨te, pe, se⟩ := he.ex
  refine ⟨_, pe_bm PySem.F.plainAttrs_list PySem.F.slot_list_insert PySem.F.type_list_insert mt_insert po (pa_cons pi (pa_cons pe pa_nil h5) h3) hbase h1 h2 h3 h4, fun c EA ho hw τ S H σ ρ Q R st q k => so c EA ho hw τ S H σ ρ _ _ st q fun vo H1 ⟨S1, ρ1, xo, s1, ⟨xs0, h0⟩, q1⟩ => ?_⟩
  obtain ⟨y0, g0, r0, e0⟩ := s1.thing (List.mem_cons_self ..) h0
  obtain ⟨p, vs, rfl, h3', h4'⟩ := repA_lst r0 e0 s1.le
  refine ⟨.inl ⟨rfl, vs, h3'⟩, si c EA ho hw _ S1 H1 σ ρ1 _ _ s1 q1 fun v H2 ⟨S2, ρ2, x, s2, q2⟩ => se c EA ho hw _ S2 H2 σ ρ2 _ _ s2 q2 fun u H3 ⟨S3, ρ3, z, s3, q3⟩ => ?_⟩
  obtain ⟨S4, d, ρ4, sm, s4, j, xs, kk, eo, hj, hk, hk0, hk1, hl, q4⟩ := use_sim s3 q3
  subst eo
  have hvo : σ[j]? = some (some (.ref p)) := (s4.loc _ j (by simp)).1
  obtain ⟨g, ra⟩ := s4.slotA hj hvo
  obtain ⟨p', ws, e1, hp, rl, rfl⟩ := ra.lst_inv
  cases e1
  have rk := s4.dat (List.mem_cons_of_mem _ (List.mem_cons_self ..)) hk
  simp only [Rep] at rk
  subst rk
  have rd := s4.data
  refine ⟨p, ws, kk, u, rfl, rfl, hp, by rw [rl.len]; exact Nat.lt_of_le_of_lt hl (by decide), hk0, hk1, ?_⟩
  have rn : RepL X.K S4 (xs.take kk.toNat ++ [d] ++ xs.drop kk.toNat) (ws.take kk.toNat ++ [u] ++ ws.drop kk.toNat) := ((rl.take _).app (by simp only [RepL]; exact ⟨u, [], rfl, rd, rfl⟩)).app (rl.drop _)
  have s5 := s4.write (o := .lst (ws.take kk.toNat ++ [u] ++ ws.drop kk.toNat)) (y' := .lst (xs.take kk.toNat ++ [d] ++ xs.drop kk.toNat)) hj hvo (fun g' h => by obtain ⟨a', _, e, _, _, e2⟩ := h.lst_inv; cases e; exact e2) rfl (.mk_lst upd_same rn)
  exact k _ _ ⟨S4, _, .v .non, s5.drop.drop.drop.hold (by simp only [Rep]), q4⟩
/-- a new list times a number -/
def aRepL : AR2 := fun x y ρ Q => ∃ xs k, x = .lst xs ∧ dat y ρ = some (.int k) ∧ 0 ≤ k ∧ xs.length * k.toNat ≤ 100000 ∧ k ≤ 100000 ∧ Q (.lst (List.replicate k.toNat xs).flatten) ρ
theorem RepL.rep {S : Hp} {xs : List D} {vs : List V} (h : RepL K S xs vs) : ∀ n, RepL K S (List.replicate n xs).flatten (List.replicate n vs).flatten
  | 0 => by simp only [List.replicate, List.flatten, RepL]
  | n + 1 => by
    simp only [List.replicate, List.flatten]
    exact h.app (RepL.rep h n)
theorem s_repL : Sim2 K rRep aRepL := by
  intro c τ S H σ ρ vx vy x y Q R s q k
  obtain ⟨xs, n, rfl, h2, h0, hz, hb, q⟩ := q
  have rn := s.dat (List.mem_cons_self ..) h2
  simp only [Rep] at rn
  subst rn
  have s1 := s.swap (List.Perm.swap ..)
  obtain ⟨f, g, r1, _⟩ := s1.top rfl
  obtain ⟨p, ws, rfl, hp, rl, _⟩ := RepA.lst_inv r1
  refine ⟨p, n, ws, rfl, rfl, hp, by omega, by omega, by rw [rl.len]; exact Nat.le_trans hz (by decide), fun pn hn => ?_⟩
  exact k _ _ ⟨S, ρ, _, s.drop.drop.newList hn (rl.rep _), q⟩
end
end Vs

set_option Elab.async false
set_option linter.all false
set_option maxRecDepth 100000
set_option maxHeartbeats 1000000
/-! Vs: a tuple backwards, a tuple times a number, a displayed dict. -/
namespace Vs
open PySem PySem.Spec PyProof.Rows L2
section
variable {prog : Program} {w : World} {A : Around} {E : Value → Shared → Prop} {s : Shared}
theorem back_places (n : Nat) : Builtin.Slice.slicePlaces ((n : Int) - 1) (-1) (-1) = n := by
  unfold Builtin.Slice.slicePlaces
  rw [if_neg (by decide)]
  by_cases h : (n : Int) - 1 > -1
  · rw [if_pos h]
    have : ((n : Int) - 1 - -1 - 1) / (- -1) + 1 = n := by
      rw [show (- -1 : Int) = 1 by decide, Int.ediv_one]
      omega
    rw [this]
    rfl
  · rw [if_neg h]
    simp
    omega
theorem fm_congr {α β : Type} {f h : α → Option β} : ∀ (l : List α), (∀ k ∈ l, f k = h k) → l.filterMap f = l.filterMap h
  | [], _ => rfl
  | x :: l, e => by
    rw [List.filterMap_cons, List.filterMap_cons, e x (List.mem_cons_self ..), fm_congr l fun k hk => e k (List.mem_cons_of_mem _ hk)]
theorem back_pick (xs : Array Value) : ((List.range xs.size).filterMap fun (k : Nat) => xs[(((xs.size : Nat) : Int) - 1 + (k : Int) * (-1)).toNat]?).toArray = xs.toList.reverse.toArray := by
  congr 1
  have h1 : ∀ k ∈ List.range xs.size, xs[(((xs.size : Nat) : Int) - 1 + (k : Int) * (-1)).toNat]? = xs.toList.reverse[k]? := fun k hk => by
    have hk' := List.mem_range.mp hk
    rw [List.getElem?_reverse (by simpa using hk')]
    have : (((xs.size : Nat) : Int) - 1 + (k : Int) * (-1)).toNat = xs.toList.length - 1 - k := by
      rw [Array.length_toList]
      omega
    rw [this]
    simp
  rw [fm_congr _ h1]
  have h2 : ∀ (l : List Value), (List.range l.length).filterMap (fun k => l[k]?) = l := fun l => by
    induction l with
    | nil => rfl
    | cons x l ih =>
      rw [List.length_cons, List.range_succ_eq_map, List.filterMap_cons]
      simp only [List.getElem?_cons_zero, List.filterMap_map]
      congr 1
  have h3 := h2 xs.toList.reverse
  rw [List.length_reverse, Array.length_toList] at h3
  exact h3
theorem back_item {t sl : Addr} {items : Array Value} {u : Tok} {Q : Value → Shared → Prop} (ht : IsTup s.heap t items) (hs : s.heap.IsSliceOf sl .none .none (.int (-1) u)) (hsz : items.size ≤ sizeLine)
    (h : Q (.ref s.heap.objs.size) { s with heap := s.heap.push { cls := .type "tuple", data := .seq items.toList.reverse.toArray } }) : wpAny (model prog w) A (getItem (.ref t) (.ref sl)) Q E s := by
  have hz : sizeOk (.seq items.toList.reverse.toArray) := by
    show items.toList.reverse.toArray.size ≤ sizeLine
    rw [List.size_toArray, List.length_reverse, Array.length_toList]
    exact hsz
  obtain ⟨os, hos, hcs, hds⟩ := id hs
  have hT : s.TypeIs (.ref sl) "slice" := ⟨os, hos, hcs⟩
  have hap : ∀ {A : Around} {R : Int × Int × Nat → Shared → Prop}, R (((items.size : Nat) : Int) - 1, -1, items.size) s → wpAny (model prog w) A (Builtin.Slice.sliceApplied (.ref sl) (pure ((items.size : Nat) : Int))) R E s := fun {A R} hR => by
    unfold Builtin.Slice.sliceApplied Builtin.Slice.sliceFields
    refine wpAny_bind (wpAny_bind (wpAny_field hos hds (x := .none) rfl (wpAny_bind (wpAny_field hos hds (x := .none) rfl (wpAny_bind (wpAny_field hos hds (x := .int (-1) u) rfl (wpAny_pure ?_)))))))
    refine wpAny_bind (slicePart_int ?_)
    show wpAny _ _ (if ((-1 : Int) == 0) = true then _ else _) _ _ s
    rw [if_neg (by decide)]
    refine wpAny_bind (slicePart_none (wpAny_bind (slicePart_none (wpAny_bind (wpAny_pure ?_)))))
    show wpAny _ _ (pure (((items.size : Nat) : Int) - 1, (-1 : Int), Builtin.Slice.slicePlaces (((items.size : Nat) : Int) - 1) (-1) (-1))) _ _ s
    rw [back_places]
    exact wpAny_pure hR
  unfold getItem
  try with_reducible refine wpAny_holding ?_
  first | refine wpAny_bind (wpAny_pure ?_) | skip
  refine wpAny_bind (wpAny_sequenceKey ht.typeIs (by decide) ?_)
  refine wpAny_bind (wpAny_callSpecial?_slot (name := Str.ofString "__getitem__") ht.typeIs PyProof.Rows.slot_tuple_getitem (wpAny_call_entry PyProof.Rows.slot_tuple_getitem ht.typeIs entry_tuple_getitem ?_ (args_tuple_getitem _ _)))
  show wpAny _ _ (Builtin.Tuple.tupleItemsOf (.ref t) >>= _) _ _ s
  refine wpAny_bind (tupleItemsOf_ ht ?_)
  refine wpAny_bind (wpAny_typeOf hT ?_)
  rw [if_pos (by decide)]
  refine wpAny_bind (hap ?_)
  have hno : ¬(((((items.size : Nat) : Int) - 1) == 0 && (-1 : Int) == 1 && items.size == items.size) = true) := by simp
  show wpAny _ _ (if ((((items.size : Nat) : Int) - 1) == 0 && (-1 : Int) == 1 && items.size == items.size) = true then _ else _) _ _ s
  rw [if_neg hno, back_pick]
  first
    | exact wpAny_bind (m := Builtin.Tuple.tupleExact _) (wpAny_newObj_type (wpAny_pure ⟨_, rfl, wpAny_pure h⟩) hz)
    | exact wpAny_bind (wpAny_bind (m := Builtin.Tuple.tupleExact _) (wpAny_newObj_type (wpAny_pure ⟨_, rfl, wpAny_pure h⟩) hz))
    | exact wpAny_bind (wpAny_bind (m := Builtin.Tuple.tupleExact _) (wpAny_newObj_type (wpAny_pure (wpAny_pure ⟨_, rfl, wpAny_pure h⟩)) hz))
    | exact wpAny_bind (m := Builtin.Tuple.tupleExact _) (wpAny_newObj_type (wpAny_bind (wpAny_pure (wpAny_pure ⟨_, rfl, wpAny_pure h⟩))) hz)
end
section
variable {X : Cx} {P : Pm} {K : Fg} {pos : Pos}
def tRevT (K : Fg) (te : TE) : TE := fun σ H Q => te σ H fun x H1 => ∃ a xs, x = .ref a ∧ SqT K H1 a xs ∧ ∀ p, H1 p = none → Q (.ref p) (upd H1 p (.tup xs.reverse))
theorem pe_revT {e : Expr} {te : TE} {k : Nat} {p1 p2 p3 : Pos} (he : PE X e te) : PE X (.Subscript e (.Slice none none (some (.UnaryOp .USub (.Constant (.int 1) k p1) p2)) p3) pos) (tRevT X.K te) := by
  refine ⟨fun pins s σ H Q I h => Subscript_ (thn (he.run pins s σ H _ I h) fun v s1 ⟨x, H1, I1, r1, q1⟩ => ?_)⟩
  obtain ⟨a, xs, ex, hx, q⟩ := q1
  subst ex
  cases r1
  have hst : PO X (some (.UnaryOp .USub (.Constant (.int 1) k p1) p2)) (tPart (tUn (rU fun i => .int (-i)) (tC (.int 1)))) := po_some (pe_un un_neg pe_int)
  refine wpAny_Slice (thn (po_none.run pins s1 σ H1 (fun o H2 => o = none ∧ H2 = H1) I1 ⟨rfl, rfl⟩) fun vl s2 ⟨l, H2, I2, pl, el, e2⟩ => ?_)
  subst el e2
  cases pl
  refine thn (po_none.run pins s2 σ H2 (fun o H3 => o = none ∧ H3 = H2) I2 ⟨rfl, rfl⟩) fun vu s3 ⟨u, H3, I3, pu, eu, e3⟩ => ?_
  subst eu e3
  cases pu
  refine thn (hst.run pins s3 σ H3 (fun o H4 => o = some (-1) ∧ H4 = H3) I3 ⟨1, rfl, -1, rfl, rfl, rfl⟩) fun vs s4 ⟨o, H4, I4, ps, eo, e4⟩ => ?_
  subst eo e4
  obtain ⟨u, rfl⟩ : ∃ u, vs = .int (-1) u := by
    cases ps
    exact ⟨_, rfl⟩
  have I5 : Inv X pins σ H4 { s4 with heap := s4.heap.push { cls := .type "slice", data := .fields #[.none, .none, .int (-1) u] } } := I4.kept (t' := s4.toks) fun b ob q => Heap.get?_push_of_some _ q
  obtain ⟨its, r, ht, hz⟩ := I5.tuple hx
  have hlen := r.length
  show wpAny (model X.prog X.w) X.A (subscriptTail e (.Slice none none (some (.UnaryOp .USub (.Constant (.int 1) k p1) p2)) p3) (.ref a) (.ref s4.heap.objs.size)) (EP X pins σ Q) X.xe { s4 with heap := s4.heap.push { cls := .type "slice", data := .fields #[.none, .none, .int (-1) u] } }
  refine tail_any (ops := [.ref a, .ref s4.heap.objs.size]) ht.typeIs PyProof.Rows.slot_tuple_getitem.lookup ?_ (by with_unfolding_all rfl)
  refine back_item ht (Heap.IsSliceOf.new _ .none .none (.int (-1) u)) (by rw [List.size_toArray]; omega) ?_
  refine ⟨.ref _, _, I5.laid (t' := s4.toks) (o := .tup xs.reverse) (fun b ob q => Heap.get?_push_of_some _ q) (Nat.le_refl _) ?_, rfl, q _ (I5.hok.fresh (Nat.le_refl _))⟩
  exact ⟨by rw [List.length_reverse]; omega, _, r.reverse, IsTup.new _ _⟩
/-- t[::-1] -/
def aRevT (ae : AE) : AE := fun EA ρ Q => ae EA ρ fun x ρ1 => ∃ xs, dat x ρ1 = some (.tup xs) ∧ Q (.v (.tup xs.reverse)) ρ1
theorem RepL.rev {S : Hp} : ∀ {xs : List D} {vs : List V}, RepL K S xs vs → RepL K S xs.reverse vs.reverse
  | [], vs, h => by
    simp only [RepL] at h
    subst h
    simp only [List.reverse_nil, RepL]
  | x :: xs, vs, h => by
    simp only [RepL] at h
    obtain ⟨v, r, rfl, h1, h2⟩ := h
    rw [List.reverse_cons, List.reverse_cons]
    exact (RepL.rev h2).app (by simp only [RepL]; exact ⟨v, [], rfl, h1, rfl⟩)
theorem qe_revT {e : Expr} {ae : AE} {k : Nat} {p1 p2 p3 : Pos} (h : QE X P e ae) : QE X P (.Subscript e (.Slice none none (some (.UnaryOp .USub (.Constant (.int 1) k p1) p2)) p3) pos) (aRevT ae) := by
  obtain ⟨te, pe, se⟩ := h.ex
  refine ⟨_, pe_revT pe, fun c EA ho hw τ S H σ ρ Q R st q k => se c EA ho hw τ S H σ ρ _ _ st q fun v H1 ⟨S1, ρ1, x, s1, xs, hx, q1⟩ => ?_⟩
  obtain ⟨y0, g, r0, e0⟩ := s1.thing (List.mem_cons_self ..) hx
  obtain ⟨p, vs, rfl, a1, a2, a3⟩ := repA_tup r0 e0 s1.le
  refine ⟨p, vs, rfl, a2, fun pn hp => ?_⟩
  have f1 := (s1.fresh hp).1
  refine k _ _ ⟨_, ρ1, .v (.tup xs.reverse), s1.drop.share (o := .tup vs.reverse) hp ?_, q1⟩
  simp only [Rep]
  exact ⟨pn, _, rfl, SqT.of upd_same, RepL.le (Le.of_same (Same.up f1)) _ _ a3.rev⟩
/-- a tuple times one -/
theorem tup_mul1 (l : Addr) (items : Array Value) (n : Nat) (dd : Option Addr) (sl : Array (Option Value)) (u : Tok) :
    Meets (Builtin.«tuple.__mul__» ⟨[.ref l, .int 1 u], []⟩) (fun _ R s => s.heap.get? l = some { cls := .type "tuple", dict := dd, data := .seq items n, slots := sl } ∧ R (.ok (.ret (Value.ref l))) s) :=
  .of_wp fun prog w A R s h => by
    obtain ⟨hp, g, d, tk, os⟩ := s
    obtain ⟨hl, h⟩ := h
    have f1 := AutoSeq1.idx_int
    wp_walk using wpAny_loadPart' hl
    repeat (first
      | (refine wpAny_ite_true (decide_eq_true (by simp)) ?_; wp_walk using wpAny_loadPart' hl)
      | (refine wpAny_ite_false (decide_eq_false (by simp)) ?_; wp_walk using wpAny_loadPart' hl))
    exact ⟨_, rfl, h⟩
def rRep1 (K : Fg) : R2 := fun x y H Q => ∃ l xs, x = .ref l ∧ y = .int 1 ∧ SqT K H l xs ∧ Q (.ref l) H
theorem op_rep1 : OpR X (binaryOp .Mult) (rRep1 X.K) := by
  intro pins s σ H x y v u Q I rx ry h
  obtain ⟨l, xs, rfl, rfl, hT, q⟩ := h
  cases rx
  obtain ⟨t, rfl⟩ := ry
  obtain ⟨its, r, ⟨⟨cls, dd, data, sl⟩, ho, hc, n, hd⟩, hs⟩ := I.tuple hT
  simp only at hc hd
  subst hc hd
  refine wpAny_binaryOp_repeat_ref (T := "tuple") (U := "int") (by decide) ⟨_, ho, rfl⟩ (fun s' => typeIs_int s' 1 t) noFill_tuple_mul F.fills_int_mul F.slot_int_rmul repeat_tuple F.slot_int_index.lookup (call_meets F.slot_int_rmul (typeIs_int s 1 t) F.entry_int_rmul (F.args_int_rmul_2 _ _) (int_rmul_tuple 1 t l its.toArray n dd sl) ⟨ho, rfl, ⟨_, ho, rfl⟩, call_meets F.slot_tuple_mul ⟨_, ho, rfl⟩ F.entry_tuple_mul (F.args_tuple_mul_2 _ _) (tup_mul1 l its.toArray n dd sl t) ⟨ho, ?_⟩⟩)
  exact ⟨.ref l, H, I, rfl, q⟩
def aRepT : AR2 := fun x y ρ Q => ∃ xs k, dat x ρ = some (.tup xs) ∧ dat y ρ = some (.int k) ∧ xs ≠ [] ∧ 1 ≤ k ∧ k ≤ 1000 ∧ xs.length ≤ 1000 ∧ Q (.v (.tup (List.replicate k.toNat xs).flatten)) ρ
theorem s_repT : Sim2 K (fun x y H Q => rRepT K x y H Q ∨ rRep1 K x y H Q) aRepT := by
  intro c τ S H σ ρ vx vy x y Q R s q k
  obtain ⟨xs, n, h1, h2, hne, hn1, hn2, hz, q⟩ := q
  have rn := s.dat (List.mem_cons_self ..) h2
  simp only [Rep] at rn
  subst rn
  obtain ⟨y0, g, r0, e0⟩ := s.thing (List.mem_cons_of_mem _ (List.mem_cons_self ..)) h1
  obtain ⟨p, vs, rfl, a1, a2, a3⟩ := repA_tup r0 e0 s.le
  have hl := a3.len
  rcases Int.lt_or_eq_of_le hn1 with h | h
  · refine .inl ⟨p, n, vs, rfl, rfl, a2, fun e => hne (List.eq_nil_of_length_eq_zero (by rw [← hl, e]; rfl)), by omega, hn2, by omega, fun pn hp => ?_⟩
    have f1 := (s.fresh hp).1
    refine k _ _ ⟨_, ρ, .v (.tup (List.replicate n.toNat xs).flatten), s.drop.drop.share (o := .tup (List.replicate n.toNat vs).flatten) hp ?_, q⟩
    simp only [Rep]
    exact ⟨pn, _, rfl, SqT.of upd_same, RepL.le (Le.of_same (Same.up f1)) _ _ (a3.rep _)⟩
  · subst h
    refine .inr ⟨p, vs, rfl, rfl, a2, k _ _ ⟨S, ρ, .v (.tup xs), s.drop.drop.hold ?_, by simpa using q⟩⟩
    simp only [Rep]
    exact ⟨p, vs, rfl, a1, a3⟩
/-! ### a displayed dict -/
def dspA : List (AE × AE) → AX → AEnv → (List (Key × D) → AEnv → Prop) → Prop
  | [], _, ρ, Q => Q [] ρ
  | (ak, av) :: r, EA, ρ, Q => ak EA ρ fun x ρ1 => ∃ kd k, x = .v kd ∧ keyD kd = some k ∧ av EA ρ1 fun y ρ2 => useA y ρ2 fun d ρ3 => dspA r EA ρ3 fun kvs ρ4 => Q ((k, d) :: kvs) ρ4
def mrgD (kvs : List (Key × D)) : List (Key × D) := kvs.foldl (fun acc p => putD acc p.1 p.2) []
def aDisp (ps : List (AE × AE)) : AE := fun EA ρ Q => dspA ps EA ρ fun kvs ρ1 => kvs.length ≤ 15 ∧ Q (.dic (mrgD kvs)) ρ1
structure QPs (X : Cx) (P : Pm) (pos : Pos) (ks : List (Option Expr)) (vs : List Expr) (ps : List (AE × AE)) : Prop where
  ex : ∃ trs, PPs X pos ks vs trs ∧ ∀ c EA, OsIn X.K c P.O → XOk X.K c P.W EA → ∀ τ S H σ ρ Q (R : List (V × V) → Hp → Prop), Stt X.K c S H σ ρ τ → dspA ps EA ρ Q →
    (∀ (ws : List (Key × V)) H', (∃ S' ρ' kvs, Stt X.K c S' H' σ ρ' τ ∧ RepK X.K S' kvs ws ∧ Q kvs ρ') → R (ws.map fun p => (kV p.1, p.2)) H') → tPairs trs σ H R
theorem qps_nil : QPs X P pos [] [] [] := ⟨[], pps_nil, fun c EA _ _ τ S H σ ρ Q R st q k => k [] H ⟨S, ρ, [], st, by simp only [RepK], q⟩⟩
theorem qps_cons {a b : Expr} {ak av : AE} {ks : List (Option Expr)} {vs : List Expr} {ps : List (AE × AE)} (ha : QE X P a ak) (hb : QE X P b av) (h : QPs X P pos ks vs ps) : QPs X P pos (some a :: ks) (b :: vs) ((ak, av) :: ps) := by
  obtain ⟨tk, pk, sk⟩ := ha.ex
  obtain ⟨tv, pv, sv⟩ := hb.ex
  obtain ⟨trs, pr, sr⟩ := h.ex
  refine ⟨_, pps_cons pk pv pr, fun c EA ho hw τ S H σ ρ Q R st q k => sk c EA ho hw τ S H σ ρ _ _ st q fun v H1 ⟨S1, ρ1, x, s1, kd, ky, ex, hk, q1⟩ => ?_⟩
  subst ex
  have rk := key_rep hk s1.data
  subst rk
  refine sv c EA ho hw τ S1 H1 σ ρ1 _ _ s1.drop q1 fun u H2 ⟨S2, ρ2, y, s2, q2⟩ => ?_
  obtain ⟨S3, d, ρ3, _, s3, q3⟩ := use_sim s2 q2
  refine sr c EA ho hw _ S3 H2 σ ρ3 _ _ s3 q3 fun ws H3 ⟨S4, ρ4, kvs, s4, rk, q4⟩ => ?_
  exact k ((ky, u) :: ws) H3 ⟨S4, ρ4, (ky, d) :: kvs, s4.drop, by simp only [RepK]; exact ⟨u, ws, rfl, s4.data, rk⟩, q4⟩
theorem RepK.mrg {S : Hp} : ∀ {kvs : List (Key × D)} {ws : List (Key × V)} {acc : List (Key × D)} {wa : List (Key × V)}, RepK K S kvs ws → RepK K S acc wa → RepK K S (kvs.foldl (fun acc p => putD acc p.1 p.2) acc) (ws.foldl (fun acc kv => putK acc kv.1 kv.2) wa)
  | [], ws, acc, wa, h, h2 => by
    simp only [RepK] at h
    subst h
    exact h2
  | (k, d) :: kvs, ws, acc, wa, h, h2 => by
    simp only [RepK] at h
    obtain ⟨v, r, rfl, h1, h3⟩ := h
    have := RepK.mrg h3 (h2.put k h1)
    exact this
theorem qe_disp {ks : List (Option Expr)} {vs : List Expr} {ps : List (AE × AE)} (h : QPs X P pos ks vs ps) (h1 : ks.all (·.isSome) = true) (h2 : ks.length = vs.length) (h3 : ks ≠ []) (h4 : ks.length ≤ 15) : QE X P (.Dict ks vs pos) (aDisp ps) := by
  obtain ⟨trs, pr, sr⟩ := h.ex
  refine ⟨_, pe_disp pr h1 h2 h3 h4, fun c EA ho hw τ S H σ ρ Q R st q k p hp => ?_⟩
  have s1 := st.alloc (x := .dic []) (o := .dK []) hp rfl (by
    simp only [RepA]
    exact ⟨p, [], rfl, upd_same, by simp only [RepK], rfl⟩)
  refine sr c EA ho hw _ S _ σ ρ _ _ s1 q fun ws H2 ⟨S2, ρ2, kvs, s2, rk, hl, q2⟩ => ?_
  obtain ⟨g, f, a1, a2, a3, a4⟩ := s2.top rfl
  obtain ⟨p', w0, e1, hp2, r0, rfl⟩ := RepA.dic_inv a1
  cases e1
  have hw0 : w0 = [] := by simpa only [RepK] using r0
  subst hw0
  refine ⟨hp2, ws, rfl, by rw [rk.len]; exact hl, k _ _ ⟨S2, ρ2, .dic (mrgD kvs), ?_, q2⟩⟩
  have np : p ∉ f := fun z => (List.nodup_append.mp a3).2.2 p (List.mem_cons_self ..) p z rfl
  have hS : S2 p = none ∧ c.R p = none := a4 p (by simp)
  refine Stt.push (g := [p]) (h := f) rfl ?_ (a2.keep (fun _ _ e => e) fun a ha => upd_ne fun e => np (e ▸ ha)) a3 a4 s2.drop.env s2.drop.loc (s2.le.up hS.1) (fun a o e => by
    have : a ≠ p := fun z => by rw [z, hS.2] at e; cases e
    rw [upd_ne this]
    exact s2.r a o e) s2.new s2.up s2.os
  simp only [RepA]
  exact ⟨p, _, rfl, upd_same, RepK.mrg rk (by simp only [RepK]), rfl⟩
end
end Vs

set_option Elab.async false
set_option linter.all false
set_option maxRecDepth 100000
set_option maxHeartbeats 1000000
/-! Vs: meets and steps of Vs38, Vs39. -/
namespace Vs
open PySem PySem.Spec PyProof.Rows L2
section
variable {aa ab ac ao ae av : AE} {at_ : AT} {a b : AS}
theorem cs_aug {j : Nat} (he : CE ae) : CS (asAug j ae) := fun {ι} _ DA D' ρ h c => by
  refine c_ex (P := fun x => ρ[j]? = some (some (.v (.int x)))) (fun a b h1 h2 => by rw [h1] at h2; cases h2; rfl) h fun x h1 => he h1 c.ex fun y ρ1 h2 => ?_
  exact c_ex (P := fun k => dat y ρ1 = some (.int k)) (fun a b h1 h2 => by rw [h1] at h2; cases h2; rfl) h2 fun k h3 => c.nx _ h3
theorem cs_while (ht : CT at_) (hb : CS b) : CS (asWhile at_ b) := fun {ι} _ DA D' ρ h c => by
  obtain ⟨i1, _⟩ := i0 (ι := ι)
  obtain ⟨W, ⟨m1, w1⟩, hW⟩ := h i1
  let V : ι → Nat → AEnv → Prop := fun i => Classical.choose (h i)
  have hV : ∀ i, (∃ m, V i m ρ) ∧ ∀ m ρ, V i m ρ → at_ (DA i).ex ρ fun b' ρ1 => if b' = true then b { DA i with nx := fun ρ' => ∃ m', m' < m ∧ V i m' ρ', ct := fun ρ' => ∃ m', m' < m ∧ V i m' ρ', bk := (DA i).nx } ρ1 else (DA i).nx ρ1 := fun i => Classical.choose_spec (h i)
  refine ⟨fun m ρ => W m ρ ∧ ∀ i, ∃ m', V i m' ρ, ⟨m1, w1, fun i => (hV i).1⟩, ?_⟩
  rintro m ρ ⟨hw, hv⟩
  let mm : ι → Nat := fun i => Classical.choose (hv i)
  have hm : ∀ i, V i (mm i) ρ := fun i => Classical.choose_spec (hv i)
  let FA : Option ι → AEnds := fun o => match o with
    | none => { DA i1 with nx := fun ρ' => ∃ m', m' < m ∧ W m' ρ', ct := fun ρ' => ∃ m', m' < m ∧ W m' ρ', bk := (DA i1).nx }
    | some i => { DA i with nx := fun ρ' => ∃ m', m' < mm i ∧ V i m' ρ', ct := fun ρ' => ∃ m', m' < mm i ∧ V i m' ρ', bk := (DA i).nx }
  let nxA : Option ι → AEnv → Prop := fun o => match o with
    | none => (DA i1).nx
    | some i => (DA i).nx
  have step : ∀ o : Option ι, at_ (FA o).ex ρ fun b' ρ1 => if b' = true then b (FA o) ρ1 else nxA o ρ1 := fun o => match o with
    | none => hW m ρ hw
    | some i => (hV i).2 (mm i) ρ (hm i)
  refine ht step (fun C fs ρ z => c.ex _ _ _ fun i => z (some i)) fun b' ρ1 h1 => c_ite h1 (fun h2 => hb h2 ⟨fun ρ' z => ?_, fun x ρ' z => c.rt _ _ fun i => z (some i), fun ρ' z => c.nx _ fun i => z (some i), fun ρ' z => ?_, fun C fs ρ' z => c.ex _ _ _ fun i => z (some i)⟩) fun h2 => c.nx _ fun i => h2 (some i)
  · obtain ⟨m', h3, h4⟩ := z none
    exact ⟨m', h3, h4, fun i => let ⟨m2, _, h5⟩ := z (some i); ⟨m2, h5⟩⟩
  · obtain ⟨m', h3, h4⟩ := z none
    exact ⟨m', h3, h4, fun i => let ⟨m2, _, h5⟩ := z (some i); ⟨m2, h5⟩⟩
theorem ce_insert (ho : CE ao) (hi : CE ab) (he : CE ae) : CE (aInsert ao ab ae) := fun {ι} _ EA EA' ρ Q Q' h hx hq => ho h hx fun o ρ1 h1 => c_and h1 fun h2 => hi h2 hx fun iv ρ2 h3 => he h3 hx fun x ρ3 h4 => c_use h4 fun d ρ4 h5 => by
  obtain ⟨i, _⟩ := i0 (ι := ι)
  obtain ⟨j, xs, k, rfl, e1, e2, e3, e4, e5, _⟩ := h5 i
  refine ⟨j, xs, k, rfl, e1, e2, e3, e4, e5, hq _ _ fun i => ?_⟩
  obtain ⟨j', xs', k', f0, f1, f2, _, _, _, q⟩ := h5 i
  cases f0
  rw [e1] at f1; cases f1
  rw [e2] at f2; cases f2
  exact q
theorem c_repL : C2 aRepL := fun {ι} _ x y ρ Q Q' h k => by
  obtain ⟨i, _⟩ := i0 (ι := ι)
  obtain ⟨xs, n, h1, h2, h3, h4, h5, _⟩ := h i
  refine ⟨xs, n, h1, h2, h3, h4, h5, k _ _ fun i => ?_⟩
  obtain ⟨xs', n', g1, g2, _, _, _, q⟩ := h i
  rw [h1] at g1; cases g1
  rw [h2] at g2; cases g2
  exact q
theorem c_repT : C2 aRepT := fun {ι} _ x y ρ Q Q' h k => by
  obtain ⟨i, _⟩ := i0 (ι := ι)
  obtain ⟨xs, n, h1, h2, h3, h4, h5, h6, _⟩ := h i
  refine ⟨xs, n, h1, h2, h3, h4, h5, h6, k _ _ fun i => ?_⟩
  obtain ⟨xs', n', g1, g2, _, _, _, _, q⟩ := h i
  rw [h1] at g1; cases g1
  rw [h2] at g2; cases g2
  exact q
theorem ce_revT (h1 : CE ae) : CE (aRevT ae) := fun h hx hq => h1 h hx fun x ρ1 h2 =>
  c_ex (P := fun xs => dat x ρ1 = some (.tup xs)) (fun a b h1 h2 => by rw [h1] at h2; cases h2; rfl) h2 fun a q => hq _ _ q
def CPs (ps : List (AE × AE)) : Prop := ∀ p ∈ ps, CE p.1 ∧ CE p.2
theorem cps_nil : CPs [] := fun _ h => nomatch h
theorem cps_cons {ps : List (AE × AE)} (h1 : CE aa) (h2 : CE ab) (h : CPs ps) : CPs ((aa, ab) :: ps) := fun p hp => by
  rcases List.mem_cons.mp hp with rfl | hp
  · exact ⟨h1, h2⟩
  · exact h p hp
theorem c_dsp {ι : Type} [Nonempty ι] : ∀ {ps : List (AE × AE)}, CPs ps → ∀ {EA : ι → AX} {EA' : AX} {ρ : AEnv} {Q : ι → List (Key × D) → AEnv → Prop} {Q' : List (Key × D) → AEnv → Prop}, (∀ i, dspA ps (EA i) ρ (Q i)) → (∀ C fs ρ, (∀ i, EA i C fs ρ) → EA' C fs ρ) → (∀ x ρ, (∀ i, Q i x ρ) → Q' x ρ) → dspA ps EA' ρ Q'
  | [], _, _, _, _, _, _, h, _, hq => hq _ _ h
  | (ak, av) :: ps, hc, EA, EA', ρ, Q, Q', h, hx, hq => (hc _ (List.mem_cons_self ..)).1 h hx fun x ρ1 h1 => by
    obtain ⟨i, _⟩ := i0 (ι := ι)
    obtain ⟨kd, k, e1, e2, _⟩ := h1 i
    refine ⟨kd, k, e1, e2, (hc _ (List.mem_cons_self ..)).2 (EA := EA) (Q := fun i y ρ2 => useA y ρ2 fun d ρ3 => dspA ps (EA i) ρ3 fun kvs ρ4 => Q i ((k, d) :: kvs) ρ4) (fun i => ?_) hx fun y ρ2 h2 => c_use h2 fun d ρ3 h3 => c_dsp (fun p hp => hc p (List.mem_cons_of_mem _ hp)) h3 hx fun kvs ρ4 h4 => hq _ _ h4⟩
    obtain ⟨kd', k', f1, f2, q⟩ := h1 i
    rw [e1] at f1; cases f1
    rw [e2] at f2; cases f2
    exact q
theorem ce_disp {ps : List (AE × AE)} (h : CPs ps) : CE (aDisp ps) := fun h1 hx hq => c_dsp h h1 hx fun kvs ρ1 h2 => c_and h2 fun h3 => hq _ _ h3
end
/-! a call without arguments -/
section
variable {X : Cx} {P : Pm} {k : Nat} {ps : List Str} {x : Str} {p pos : Pos}
theorem qe_callC0 {sp : ASp} (F : Cal X.prog X.w X.K X.mg X.base x k ps sp) (hr : Room k X.A) (hg : Gl X x) (hx : ∀ σ, PassesAt (L2.CX X.prog X.w) X σ (fun cls d H => P.W cls d σ H)) (hdb : (x == ("__debug__" : Str)) = false := by decide) :
    QE X P (.Call (.Name x p) [] [] pos) (aCall sp [] aNil) := by
  obtain ⟨f, fd, hm, hk, hb, F⟩ := F.ex
  refine ⟨tCallSD (lift X.K sp) [] (fun σ cls d H => P.W cls d σ H) tNil, ⟨fun pins s σ H Q I h => wpAny_Call_Name_kw (ld_glob I hg hm ?_ hdb)⟩, sim_call dfl_nil sim_nil⟩
  exact PySem.W.callWith_K0 I.kIn hk (run_fnSD (E := fun σ cls d H => P.W cls d σ H) (us := []) F hr hb .nil (hx σ) I .nil h)
end
/-! steps -/
section
variable {EA : AX} {ρ : AEnv} {Q : AK} {DA : AEnds} {x y : A} {ae ao ai ak av : AE} {at_ : AT} {ab : AS} {j : Nat}
def augK (j : Nat) (x : Int) (y : A) (ρ : AEnv) (nx : AEnv → Prop) : Prop := ∃ k, dat y ρ = some (.int k) ∧ nx (ρ.set j (some (.v (.int (x + k)))))
theorem i_aug {x : Int} (h : ρ[j]? = some (some (.v (.int x)))) (k : ae DA.ex ρ fun y ρ1 => augK j x y ρ1 DA.nx) : asAug j ae DA ρ := ⟨x, h, k⟩
theorem i_augK {x k : Int} {nx : AEnv → Prop} (h : dat y ρ = some (.int k)) (q : nx (ρ.set j (some (.v (.int (x + k)))))) : augK j x y ρ nx := ⟨k, h, q⟩
theorem i_while (W : Nat → AEnv → Prop) (m : Nat) (h : W m ρ) (k : ∀ m ρ, W m ρ → at_ DA.ex ρ fun b ρ1 => if b = true then ab { DA with nx := fun ρ' => ∃ m', m' < m ∧ W m' ρ', ct := fun ρ' => ∃ m', m' < m ∧ W m' ρ', bk := DA.nx } ρ1 else DA.nx ρ1) : asWhile at_ ab DA ρ := ⟨W, ⟨m, h⟩, k⟩
theorem i_insert (k : ao EA ρ fun o ρ1 => isL o ρ1 (ai EA ρ1 fun iv ρ2 => ae EA ρ2 fun x ρ3 => useA x ρ3 fun d ρ4 => insK o iv d ρ4 Q)) : aInsert ao ai ae EA ρ Q := k
theorem i_insK {xs : List D} {iv : A} {d : D} {k : Int} (h1 : ρ[j]? = some (some (.lst xs))) (h2 : dat iv ρ = some (.int k)) (h3 : 0 ≤ k ∧ k < 2 ^ 63 ∧ xs.length ≤ 100000) (q : Q (.v .non) (ρ.set j (some (.lst (xs.take k.toNat ++ [d] ++ xs.drop k.toNat))))) : insK (.loc j) iv d ρ Q := ⟨j, xs, k, rfl, h1, h2, h3.1, h3.2.1, h3.2.2, q⟩
theorem i_repL {xs : List D} {k : Int} (h2 : dat y ρ = some (.int k)) (h3 : 0 ≤ k ∧ xs.length * k.toNat ≤ 100000 ∧ k ≤ 100000) (q : Q (.lst (List.replicate k.toNat xs).flatten) ρ) : aRepL (.lst xs) y ρ Q := ⟨xs, k, rfl, h2, h3.1, h3.2.1, h3.2.2, q⟩
theorem i_repT {xs : List D} {k : Int} (h1 : dat x ρ = some (.tup xs)) (h2 : dat y ρ = some (.int k)) (h3 : xs ≠ [] ∧ 1 ≤ k ∧ k ≤ 1000 ∧ xs.length ≤ 1000) (q : Q (.v (.tup (List.replicate k.toNat xs).flatten)) ρ) : aRepT x y ρ Q := ⟨xs, k, h1, h2, h3.1, h3.2.1, h3.2.2.1, h3.2.2.2, q⟩
def revK (x : A) (ρ : AEnv) (Q : AK) : Prop := ∃ xs, dat x ρ = some (.tup xs) ∧ Q (.v (.tup xs.reverse)) ρ
theorem i_revT (k : ae EA ρ fun x ρ1 => revK x ρ1 Q) : aRevT ae EA ρ Q := k
theorem i_revK {xs : List D} (h : dat x ρ = some (.tup xs)) (k : Q (.v (.tup xs.reverse)) ρ) : revK x ρ Q := ⟨xs, h, k⟩
def dspK (x : A) (k : Key → Prop) : Prop := ∃ kd ky, x = .v kd ∧ keyD kd = some ky ∧ k ky
theorem i_disp {ps : List (AE × AE)} (k : dspA ps EA ρ fun kvs ρ1 => kvs.length ≤ 15 ∧ Q (.dic (mrgD kvs)) ρ1) : aDisp ps EA ρ Q := k
theorem i_dspN {q : List (Key × D) → AEnv → Prop} (k : q [] ρ) : dspA [] EA ρ q := k
theorem i_dspC {ps : List (AE × AE)} {q : List (Key × D) → AEnv → Prop} (k : ak EA ρ fun x ρ1 => dspK x fun ky => av EA ρ1 fun y ρ2 => useA y ρ2 fun d ρ3 => dspA ps EA ρ3 fun kvs ρ4 => q ((ky, d) :: kvs) ρ4) : dspA ((ak, av) :: ps) EA ρ q := by
  simp only [dspA]
  unfold dspK at k
  simp only [← exists_and_left, ← and_assoc] at k ⊢
  exact k
theorem i_dspK {kd : D} {ky : Key} {q : Key → Prop} (h : keyD kd = some ky) (k : q ky) : dspK (.v kd) q := ⟨kd, ky, rfl, h, k⟩
theorem evI {a : AS} {O : List Nat} {n m : Nat} {xs : List A} {R : A} (hl : xs.length = m) (h : ∀ DA : AEnds, (∀ r ρ, fin O 0 xs ρ = some xs → r = R → DA.rt r ρ) → (∀ ρ, fin O 0 xs ρ = some xs → R = .v .non → DA.nx ρ) → a DA (startA n xs)) : Ev (spS a O n m) xs R :=
  Sat.mk' hl (h _ (fun r ρ h1 h2 => ⟨_, h1, rfl, h2⟩) fun ρ h1 h2 => ⟨_, h1, rfl, h2.symm⟩)
end
end Vs

set_option Elab.async false
set_option linter.all false
set_option maxRecDepth 100000
set_option maxHeartbeats 1000000
/-! Vs: loops over numbered things and over numbers. -/
namespace Vs
open PySem PySem.Spec PyProof.Rows L2
section
variable {DA : AEnds} {ρ : AEnv} {G : AEnv → Prop} {ag : AG} {ab : AS}
theorem enum_map {α : Type} (f : α → D) (xs : List α) : enumD (xs.map f) = (xs.zipIdx 0).map fun q => .tup [.int (q.2 : Nat), f q.1] := by
  unfold enumD
  rw [List.zipIdx_map, List.map_map]
  rfl
theorem for_enum {α : Type} (f : α → D) (W : Nat → List α → AEnv → Prop) (h0 : ∀ p ρ, W p [] ρ → G ρ ∧ DA.nx ρ)
    (h1 : ∀ p x xs ρ, W p (x :: xs) ρ → ∀ K : AEnv → Prop, (∀ ρ, W (p + 1) xs ρ → K ρ) → G ρ ∧ ag (.tup [.int (p : Nat), f x]) ρ fun ρ' => ab { DA with nx := K, ct := K, bk := DA.nx } ρ') : ∀ (xs : List α) (p : Nat) (ρ : AEnv), W p xs ρ → forA G ag ab DA ((xs.zipIdx p).map fun q => .tup [.int (q.2 : Nat), f q.1]) ρ
  | [], p, ρ, w => h0 p ρ w
  | x :: xs, p, ρ, w => h1 p x xs ρ w _ fun ρ' w' => for_enum f W h0 h1 xs (p + 1) ρ' w'
theorem ints_cons {lo : Int} {n : Nat} : intsD lo (n + 1) = .int lo :: intsD (lo + 1) n := by
  unfold intsD
  rw [List.range_succ_eq_map, List.map_cons, List.map_map]
  simp only [Int.natCast_zero, Int.add_zero, List.cons.injEq, true_and]
  refine List.map_congr_left fun i _ => ?_
  simp only [Function.comp]
  congr 1
  push_cast
  omega
/-- for k in range(n) -/
theorem for_rng {n : Nat} (W : Nat → AEnv → Prop) (h0 : ∀ ρ, W n ρ → G ρ ∧ DA.nx ρ)
    (h1 : ∀ k ρ, k < n → W k ρ → ∀ K : AEnv → Prop, (∀ ρ, W (k + 1) ρ → K ρ) → G ρ ∧ ag (.int (k : Nat)) ρ fun ρ' => ab { DA with nx := K, ct := K, bk := DA.nx } ρ') : ∀ (r k : Nat) (ρ : AEnv), k + r = n → W k ρ → forA G ag ab DA (intsD (k : Nat) r) ρ
  | 0, k, ρ, e, w => h0 ρ (by have : k = n := by omega
                              rw [← this]; exact w)
  | r + 1, k, ρ, e, w => by
    rw [ints_cons]
    refine h1 k ρ (by omega) w _ fun ρ' w' => ?_
    have := for_rng W h0 h1 r (k + 1) ρ' (by omega) w'
    rw [show ((k + 1 : Nat) : Int) = (k : Int) + 1 by omega] at this
    exact this
theorem for_rng0 {n : Nat} (W : Nat → AEnv → Prop) (h0 : ∀ ρ, W n ρ → G ρ ∧ DA.nx ρ)
    (h1 : ∀ k ρ, k < n → W k ρ → ∀ K : AEnv → Prop, (∀ ρ, W (k + 1) ρ → K ρ) → G ρ ∧ ag (.int (k : Nat)) ρ fun ρ' => ab { DA with nx := K, ct := K, bk := DA.nx } ρ') (w : W 0 ρ) : forA G ag ab DA (intsD 0 n) ρ := for_rng W h0 h1 n 0 ρ (by omega) w
theorem i_rngN {aa : AA} {n : Nat} {x : A} {EA : AX} {ρ1 : AEnv} {QI : List D → (AEnv → Prop) → AEnv → Prop} (h1 : dat x ρ1 = some (.int (n : Nat))) (h2 : n ≤ 1000000) (k : QI (intsD 0 n) (fun _ => True) ρ1) : ∃ y j, [x] = [y] ∧ dat y ρ1 = some (.int j) ∧ -(2 ^ 62) ≤ j ∧ j < 2 ^ 62 ∧ QI (intsD 0 j.toNat) (fun _ => True) ρ1 := ⟨x, n, rfl, h1, by omega, by omega, by rw [Int.toNat_natCast]; exact k⟩
theorem ins_h {k : Int} {xs : List D} (h : 0 ≤ k ∧ k < 2 ^ 63 ∧ xs.length ≤ 100000) : 0 ≤ k ∧ k < 2 ^ 63 ∧ xs.length ≤ 100000 := h
theorem for_eachD {ρ : AEnv} (hG : G ρ) : ∀ (xs : List D), (∀ x ∈ xs, ∀ D' : AEnds, D'.rt = DA.rt → D'.ex = DA.ex → D'.nx ρ → D'.ct ρ → ag x ρ fun ρ' => ab D' ρ') → DA.nx ρ → forA G ag ab DA xs ρ
  | [], _, k => ⟨hG, k⟩
  | x :: xs, h, k => ⟨hG, h x (List.mem_cons_self ..) _ rfl rfl (for_eachD hG xs (fun y hy => h y (List.mem_cons_of_mem _ hy)) k) (for_eachD hG xs (fun y hy => h y (List.mem_cons_of_mem _ hy)) k)⟩
theorem i_sz15 {kvs : List (Key × D)} {p : Prop} (h : kvs.length ≤ 15) (k : p) : kvs.length ≤ 15 ∧ p := ⟨h, k⟩
end
end Vs

set_option Elab.async false
set_option linter.all false
set_option maxRecDepth 100000
set_option maxHeartbeats 1000000
/-! Vs: try .. except C as n: any suite. -/
namespace Vs
open PySem PySem.Spec PyProof.Rows L2
mutual
theorem RepA.noX {K : Fg} {S H : Hp} {dd : Addr} {ws : List (Str × V)} (hd : H dd = some (.xd ws)) : ∀ (x : A) (v : V) (fp : List Addr), RepA K S H x v fp → dd ∉ fp
  | .v d, v, fp, h => by
    simp only [RepA] at h
    rw [h.2]; simp
  | .lst xs, v, fp, h => by
    simp only [RepA] at h
    obtain ⟨b, vs, _, h1, _, rfl⟩ := h
    intro m
    rw [List.mem_singleton] at m
    rw [m, h1] at hd; cases hd
  | .dic kvs, v, fp, h => by
    simp only [RepA] at h
    obtain ⟨b, vs, _, h1, _, rfl⟩ := h
    intro m
    rw [List.mem_singleton] at m
    rw [m, h1] at hd; cases hd
  | .obj C fs, v, fp, h => by
    simp only [RepA] at h
    obtain ⟨b, dx, vs, g, _, h1, h2, rfl⟩ := h
    intro m
    rcases List.mem_cons.mp m with m | m
    · rw [m, h1] at hd; cases hd
    · exact RepAF.noX hd fs vs g h2 m
  | .loc _, v, fp, h => by simp only [RepA] at h
theorem RepAF.noX {K : Fg} {S H : Hp} {dd : Addr} {ws : List (Str × V)} (hd : H dd = some (.xd ws)) : ∀ (xs : List (Str × A)) (vs : List (Str × V)) (fp : List Addr), RepAF K S H xs vs fp → dd ∉ fp
  | [], vs, fp, h => by
    simp only [RepAF] at h
    rw [h.2]; simp
  | (k, x) :: xs, vs, fp, h => by
    simp only [RepAF] at h
    obtain ⟨v, r, g, g', _, h1, h2, rfl⟩ := h
    intro m
    rcases List.mem_append.mp m with m | m
    · exact RepA.noX hd x v g h1 m
    · exact RepAF.noX hd xs r g' h2 m
end
theorem RepP.noX {K : Fg} {S H : Hp} {dd : Addr} {ws : List (Str × V)} (hd : H dd = some (.xd ws)) : ∀ {ps : List (V × A)} {fp : List Addr}, RepP K S H ps fp → dd ∉ fp := by
  intro ps
  induction ps with
  | nil => intro fp h; cases h; simp
  | cons x ps ih =>
    obtain ⟨v, x⟩ := x
    intro fp h m
    obtain ⟨g, h', h1, h2, h3⟩ := h
    subst h3
    rcases List.mem_append.mp m with q | q
    · exact RepA.noX hd x v g h1 q
    · exact ih h2 q
section
variable {X : Cx} {P : Pm} {K : Fg} {pos : Pos}
/-! ### the exception in its suite -/
def OX (K : Fg) (O : OL) (i : Nat) (a dd : Addr) (ws : List (Str × V)) (fs : List (Str × D)) : OL := ⟨i :: O.l, fun S H σ => O.J S H σ ∧ σ[i]? = some (some (.ref a)) ∧ H dd = some (.xd ws) ∧ RepF K S fs ws, fun S H σ d o ws' h1 ⟨h2, h3, h4, h5⟩ => ⟨O.un S H σ d o ws' h1 h2, h3, by
  by_cases e : dd = d
  · rw [e, upd_same] at h4
    cases h4
  · rwa [upd_ne e] at h4, h5⟩⟩
def noW : WX := fun _ _ _ _ => False
def aXf (fs : List (Str × D)) (f : Str) : AE := fun _ ρ Q => ∃ d, fs.lookup f = some d ∧ Q (.v d) ρ
variable {i : Nat} {a dd C : Addr} {ws : List (Str × V)} {fs : List (Str × D)}
theorem qx_fld {W : WX} {O : OL} {f n : Str} {oe : Obj} {pn : List (Addr × Obj)} {np : Pos} (T : XfC X.K C) (hno : PySem.W.findIn X.K (.ref C) f = some none) (hz : Zc (.ref C) (some dd) oe) (hf : ∃ vs, oe.data = .fields vs) (hN : X.N[i]? = some n := by rfl) (hv : Vis X.env.scope n := by first | exact Or.inl rfl | exact Or.inr (Or.inl rfl) | exact Or.inr (Or.inr rfl)) (hd : (n == ("__debug__" : Str)) = false := by decide) (hcd : (n == ("__classdict__" : Str)) = false := by decide)
    (hb : attributeBase (.Name n np) f X.env (eval (.Name n np) X.env) = eval (.Name n np) X.env := by rfl) : QE (X.suite a ((a, oe) :: pn)) ⟨W, OX X.K O i a dd ws fs⟩ (.Attribute (.Name n np) f pos) (aXf fs f) := by
  refine ⟨_, pe_xf T hno hz hf (pe_var hN hv hd hcd) hb, fun c EA ho hw τ S H σ ρ Q R s q k => ?_⟩
  obtain ⟨_, h1, h2, h3⟩ := ho.2.2 S H σ ρ τ s
  refine ⟨.ref a, h1, rfl, rfl, ?_⟩
  obtain ⟨d, h4, q⟩ := q
  rcases repF_look (m := f) h3 with ⟨e1, _⟩ | ⟨d', u, e1, e2, e3⟩
  · rw [e1] at h4; cases h4
  · rw [h4] at e1
    cases e1
    exact ⟨dd, ws, u, rfl, h2, e2, k _ _ ⟨S, ρ, .v d, s.hold e3, q⟩⟩
theorem ce_xf {fs : List (Str × D)} {f : Str} : CE (aXf fs f) := fun {ι} _ EA EA' ρ Q Q' h ce cq => by
  obtain ⟨i, _⟩ := i0 (ι := ι)
  obtain ⟨d, e, _⟩ := h i
  refine ⟨d, e, cq _ _ fun i => ?_⟩
  obtain ⟨d', e', q⟩ := h i
  rw [e] at e'
  cases e'
  exact q
/-! ### the try -/
def sEnds (i : Nat) (DA : AEnds) : AEnds := { nx := fun ρ => DA.nx (ρ.set i none), rt := DA.rt, bk := fun ρ => DA.bk (ρ.set i none), ct := fun ρ => DA.ct (ρ.set i none), ex := fun _ _ _ => False }
def tEnds (K : Fg) (C : Addr) (i : Nat) (su : List (Str × D) → AS) (DA : AEnds) : AEnds := { DA with ex := fun C' fs ρ' => ∃ b, PySem.W.exmOne K (.ref C') (.ref C) = some b ∧ (b = true → C' = C ∧ fs ≠ [] ∧ i < ρ'.length ∧ su fs (sEnds i DA) (ρ'.set i none)) ∧ (b = false → DA.ex C' fs ρ') }
def asTryS (K : Fg) (C : Addr) (i : Nat) (ab : AS) (su : List (Str × D) → AS) : AS := fun DA ρ => ab (tEnds K C i su DA) ρ
/-- the context of a suite -/
def cxS (c : Ctx) (S : Hp) (i : Nat) (a dd : Addr) (ws : List (Str × V)) : Ctx := ⟨upd c.R dd (.xd ws), S, (i, .ref a) :: c.os⟩
theorem Stt.suOff {c : Ctx} {S S' H H' : Hp} {σ σ' : L2.St} {ρ ρ' : AEnv} {τ τ' : List (V × A)} (s : Stt K c S H σ ρ τ) (hd : H dd = some (.xd ws)) (t : Stt K (cxS c S i a dd ws) S' H' σ' ρ' τ') : Stt K c S' H' σ' ρ' τ' := by
  have hR : ∀ b, c.R b ≠ none → upd c.R dd (.xd ws) b = c.R b := fun b hb => by
    by_cases e : b = dd
    · subst e
      rw [upd_same]
      cases h : c.R b with
      | none => exact absurd h hb
      | some o =>
        have := s.r b o h
        rw [hd] at this
        rw [this]
    · rw [upd_ne e]
  obtain ⟨fp, r, nd, h3⟩ := t.own
  refine ⟨⟨fp, r, nd, fun b hb => ⟨(h3 b hb).1, ?_⟩⟩, t.env, t.loc, t.le, fun b o e => ?_, fun b hb => ?_, fun b o e => t.up b o (s.up b o e), fun p m => t.os p (List.mem_cons_of_mem _ m)⟩
  · cases h : c.R b with
    | none => rfl
    | some o =>
      have h1 := (h3 b hb).2
      have h2 := hR b (by rw [h]; exact fun z => nomatch z)
      have h1' : upd c.R dd (.xd ws) b = none := h1
      rw [h2, h] at h1'
      cases h1'
  · refine t.r b o ?_
    show upd c.R dd (.xd ws) b = some o
    rw [hR b (by rw [e]; exact fun z => nomatch z)]
    exact e
  · have h1 : S' b = S b := t.new b (by
      show upd c.R dd (.xd ws) b ≠ none
      rw [hR b hb]
      exact hb)
    rw [h1]
    exact s.new b hb
theorem Stt.suOn {c : Ctx} {S H : Hp} {σ : L2.St} {ρ : AEnv} (s : Stt K c S H σ ρ []) (hd : H dd = some (.xd ws)) (hi : ρ[i]? = some none) (hs : ∀ p ∈ c.os, p.1 ≠ i) (hσ : σ[i]? = some (some (.ref a))) : Stt K (cxS c S i a dd ws) S H σ ρ [] := by
  obtain ⟨fp, r, nd, h3⟩ := s.own
  have nfp : ∀ b ∈ fp, b ≠ dd := fun b hb z => RepP.noX hd r (z ▸ hb)
  refine ⟨⟨fp, r, nd, fun b hb => ⟨(h3 b hb).1, ?_⟩⟩, s.env, s.loc, s.le, fun b o e => ?_, fun b hb => rfl, fun b o e => e, fun p m => ?_⟩
  · show upd c.R dd (.xd ws) b = none
    rw [upd_ne (nfp b hb)]
    exact (h3 b hb).2
  · have e' : upd c.R dd (.xd ws) b = some o := e
    by_cases q : b = dd
    · rw [q, upd_same] at e'
      rw [q, hd]
      exact e'
    · rw [upd_ne q] at e'
      exact s.r b o e'
  · rcases List.mem_cons.mp m with e | m
    · rw [e]; exact hσ
    · exact s.os p m
theorem Stt.slotN {c : Ctx} {S H : Hp} {σ : L2.St} {ρ : AEnv} {i : Nat} {w : Option V} (s : Stt K c S H σ ρ []) (hs : ∀ p ∈ c.os, p.1 ≠ i) : Stt K c S H (σ.set i w) (ρ.set i none) [] := by
  have z := s.clear i (by simp)
  have ev : EnvOk (ρ.set i none) (σ.set i w) := by
    have y := z.env.store (i := i) (o := none) (w := w) fun _ e => (nomatch e)
    rwa [set_set] at y
  refine ⟨?_, ev, fun _ _ m => by simp at m, z.le, z.r, z.new, z.up, fun p m => ?_⟩
  · have e2 := envP_none (ρ := ρ) (σ := σ) (i := i) (w := w)
    rw [e2]
    exact z.own
  · rw [List.getElem?_set_ne (Ne.symm (hs p m))]
    exact z.os p m
theorem qs_tryS {x n : Str} {body suite : List Stmt} {b₀ : Stmt} {ab : AS} {su : List (Str × D) → AS} {np pos' : Pos} (hs : X.stack = X.env :: X.outer) (hf : X.env.frame = some X.env.locals) (hN : X.N.Nodup) (hi : X.N[i]? = some n) (hln : X.env.kindOf n = some .local) (hO : i ∉ P.O) (hg : Gl X x) (hm : X.mg x = some (.ref C)) (tk : Takes X P.W)
    (hb : ∀ (W : WX) (pn : List (Addr × Obj)) (xe : Value → Shared → Prop), Takes (X.tr pn xe) W → PassesOwn (model X.prog X.w) X.A X.env xe → QSs (X.tr pn xe) ⟨W, P.O⟩ body ab)
    (hsu : ∀ (a : Addr) (oe : Obj) (dd : Addr) (pn : List (Addr × Obj)) (ws : List (Str × V)) (fs : List (Str × D)), Zc (.ref C) (some dd) oe → (∃ vs, oe.data = .fields vs) → QSs (X.suite a ((a, oe) :: pn)) ⟨noW, OX X.K P.O i a dd ws fs⟩ (b₀ :: suite) (su fs)) (hdb : (x == ("__debug__" : Str)) = false := by decide) :
    QS X P (.Try body [.ExceptHandler (some (.Name x np)) (some n) (b₀ :: suite) pos'] [] [] pos) (asTryS X.K C i ab su) := by
  refine ⟨_, ps_try_as (tb := fun W => canS X.K ⟨W, P.O⟩ ab) (ts := fun a cls d D σ H => ∃ c DA S ρ dd ws fs, cls = .ref C ∧ d = some dd ∧ OsIn X.K c (OX X.K P.O i a dd ws fs) ∧ Link X.K c D DA ∧ XOk X.K c noW DA.ex ∧ Stt X.K c S H σ ρ [] ∧ su fs DA ρ) hs hf hN hi hln ⟨hg, hdb, .inl hm⟩ tk (fun W pn xe h1 h2 => can_of (hb W pn xe h1 h2)) (fun a oe cls d pn hz hfs => ?_), fun c D DA ho hw l S H σ ρ st q => ?_⟩
  · refine ⟨fun pins s σ H D I h => ?_⟩
    obtain ⟨c, DA, S, ρ, dd, ws, fs, rfl, rfl, h1, h2, h3, h4, h5⟩ := h
    obtain ⟨t, p, sm⟩ := (hsu a oe dd pn ws fs hz hfs).ex
    exact p.run pins s σ H D I (sm c D DA h1 h3 h2 S H σ ρ h4 h5)
  · refine ⟨c, tEnds X.K C i su DA, S, ρ, ho, ?_, ⟨l.nx, l.rt, l.bk, l.ct⟩, st, q⟩
    rintro S' H' σ' ρ' C' fs dd st' xd ⟨b, hb1, hb2, hb3⟩
    refine ⟨b, hb1, fun e1 a ha => ?_, fun e1 => hw S' H' σ' ρ' C' fs dd st' xd (hb3 e1)⟩
    obtain ⟨rfl, hne, hil, hq⟩ := hb2 e1
    rcases xd with ⟨rfl, rfl⟩ | ⟨d', ws, rfl, hw', rf⟩
    · exact absurd rfl hne
    · have st2 : Stt X.K c S' H' (σ'.set i (some (.ref a))) (ρ'.set i none) [] := st'.slotN (ho.ne hO)
      have hlt : i < σ'.length := by rw [st'.env.len]; exact hil
      have hσ : (σ'.set i (some (.ref a)))[i]? = some (some (V.ref a)) := by rw [List.getElem?_set_self hlt]
      have st3 := st2.suOn (i := i) (a := a) hw' (by rw [List.getElem?_set_self hil]) (ho.ne hO) hσ
      refine ⟨cxS c S' i a d' ws, sEnds i DA, S', _, d', ws, fs, rfl, rfl, ⟨fun p m => ?_, fun j hj => ?_, fun S2 H2 σ2 ρ2 τ2 t => ⟨?_, ?_, ?_, ?_⟩⟩, ⟨fun S2 H2 σ2 ρ2 t e => ?_, fun S2 H2 σ2 ρ2 v2 x2 t e1 e2 => l.rt S2 H2 σ2 ρ2 v2 x2 (st2.suOff hw' t) e1 e2, fun S2 H2 σ2 ρ2 t e => ?_, fun S2 H2 σ2 ρ2 t e => ?_⟩, fun _ _ _ _ _ _ _ _ _ z => z.elim, st3, hq⟩
      · rcases List.mem_cons.mp m with e | m
        · rw [e]; exact List.mem_cons_self
        · exact List.mem_cons_of_mem _ (ho.1 p m)
      · rcases List.mem_cons.mp hj with e | hj
        · rw [e]; exact ⟨_, List.mem_cons_self⟩
        · obtain ⟨v, hv⟩ := ho.2.1 j hj
          exact ⟨v, List.mem_cons_of_mem _ hv⟩
      · exact ho.2.2 S2 H2 σ2 ρ2 τ2 (st2.suOff hw' t)
      · exact t.os (i, .ref a) List.mem_cons_self
      · exact t.r d' _ (show upd c.R d' (.xd ws) d' = some (.xd ws) from upd_same)
      · exact RepF.le (Le.of_same t.up) _ _ rf
      · exact l.nx S2 H2 _ _ ((st2.suOff hw' t).slotN (ho.ne hO)) e
      · exact l.bk S2 H2 _ _ ((st2.suOff hw' t).slotN (ho.ne hO)) e
      · exact l.ct S2 H2 _ _ ((st2.suOff hw' t).slotN (ho.ne hO)) e
theorem cs_tryS {a : AS} {su : List (Str × D) → AS} {j : Nat} (ha : CS a) (hu : ∀ fs, CS (su fs)) : CS (asTryS K C j a su) := fun {ι} _ DA D' ρ h c => ha h ⟨c.nx, c.rt, c.bk, c.ct, fun C' fs ρ' z => by
  obtain ⟨i, _⟩ := i0 (ι := ι)
  obtain ⟨b, e, h1, h2⟩ := z i
  have hz : ∀ i, (b = true → C' = C ∧ fs ≠ [] ∧ j < ρ'.length ∧ su fs (sEnds j (DA i)) (ρ'.set j none)) ∧ (b = false → (DA i).ex C' fs ρ') := fun i => by
    obtain ⟨b', e', g⟩ := z i
    rw [e] at e'
    cases e'
    exact g
  refine ⟨b, e, fun hb => ?_, fun hb => c.ex _ _ _ fun i => (hz i).2 hb⟩
  obtain ⟨q1, q2, q3, _⟩ := h1 hb
  exact ⟨q1, q2, q3, hu fs (fun i => ((hz i).1 hb).2.2.2) ⟨fun ρ h => c.nx _ h, fun x ρ h => c.rt x ρ h, fun ρ h => c.bk _ h, fun ρ h => c.ct _ h, fun _ _ _ h => h i⟩⟩⟩
theorem i_tryS {DA : AEnds} {ρ : AEnv} {a : AS} {su : List (Str × D) → AS} {j : Nat} (h : a (tEnds K C j su DA) ρ) : asTryS K C j a su DA ρ := h
theorem e_catch {DA : AEnds} {ρ : AEnv} {su : List (Str × D) → AS} {j : Nat} {fs : List (Str × D)} (h : PySem.W.exmOne K (.ref C) (.ref C) = some true) (hne : fs ≠ []) (hj : j < ρ.length) (k : su fs (sEnds j DA) (ρ.set j none)) : (tEnds K C j su DA).ex C fs ρ := ⟨true, h, fun _ => ⟨rfl, hne, hj, k⟩, fun z => nomatch z⟩
theorem i_xf {EA : AX} {ρ : AEnv} {Q : AK} {fs : List (Str × D)} {f : Str} {d : D} (h : fs.lookup f = some d) (k : Q (.v d) ρ) : aXf fs f EA ρ Q := ⟨d, h, k⟩
end
end Vs

set_option Elab.async false
set_option linter.all false
set_option maxRecDepth 100000
set_option maxHeartbeats 1000000
/-! Vs: is True, is not True. -/
namespace Vs
open PySem PySem.Spec PyProof.Rows L2
section
variable {X : Cx} {P : Pm} {K : Fg} {pos : Pos}
theorem op_isB : OpR X (compareOp .Is) (fun x y H Q => ∃ m n, x = .bl m ∧ y = .bl n ∧ Q (.bl (decide (m = n))) H) := by
  intro pins s σ H x y v u Q I rx ry h
  obtain ⟨m, n, rfl, rfl, q⟩ := h
  cases (show v = Value.bool m from rx)
  cases (show u = Value.bool n from ry)
  by_cases e : m = n
  · subst e
    exact wpAny_is_self rfl ⟨.bl true, H, I, rfl, by simpa using q⟩
  · exact wpAny_is_other rfl (fun z => e (Value.bool.inj z)) ⟨.bl false, H, I, rfl, by simpa [e] using q⟩
theorem op_notB : OpR X (compareOp .IsNot) (fun x y H Q => ∃ m n, x = .bl m ∧ y = .bl n ∧ Q (.bl (!decide (m = n))) H) := by
  intro pins s σ H x y v u Q I rx ry h
  obtain ⟨m, n, rfl, rfl, q⟩ := h
  cases (show v = Value.bool m from rx)
  cases (show u = Value.bool n from ry)
  by_cases e : m = n
  · subst e
    exact wpAny_isNot_self rfl ⟨.bl false, H, I, rfl, by simpa using q⟩
  · exact wpAny_isNot_other rfl (fun z => e (Value.bool.inj z)) ⟨.bl true, H, I, rfl, by simpa [e] using q⟩
def aIsB : AR2 := fun x y ρ Q => ∃ m n, dat x ρ = some (.bl m) ∧ dat y ρ = some (.bl n) ∧ Q (.v (.bl (decide (m = n)))) ρ
def aIsNotB : AR2 := fun x y ρ Q => ∃ m n, dat x ρ = some (.bl m) ∧ dat y ρ = some (.bl n) ∧ Q (.v (.bl (!decide (m = n)))) ρ
theorem s_isB : Sim2 K (fun x y H Q => ∃ m n, x = .bl m ∧ y = .bl n ∧ Q (.bl (decide (m = n))) H) aIsB := by
  intro c τ S H σ ρ vx vy x y Q R s q k
  obtain ⟨m, n, h1, h2, q⟩ := q
  obtain ⟨r1, r2⟩ := two_dat s h1 h2
  simp only [Rep] at r1 r2
  exact ⟨m, n, r1, r2, k _ _ (KE.sc s.drop.drop rfl q)⟩
theorem s_isNotB : Sim2 K (fun x y H Q => ∃ m n, x = .bl m ∧ y = .bl n ∧ Q (.bl (!decide (m = n))) H) aIsNotB := by
  intro c τ S H σ ρ vx vy x y Q R s q k
  obtain ⟨m, n, h1, h2, q⟩ := q
  obtain ⟨r1, r2⟩ := two_dat s h1 h2
  simp only [Rep] at r1 r2
  exact ⟨m, n, r1, r2, k _ _ (KE.sc s.drop.drop rfl q)⟩
theorem c_isTB : C2 aIsB := fun {ι} _ x y ρ Q Q' h k => by
  obtain ⟨i, _⟩ := i0 (ι := ι)
  obtain ⟨m, n, h1, h2, _⟩ := h i
  refine ⟨m, n, h1, h2, k _ _ fun i => ?_⟩
  obtain ⟨m', n', g1, g2, q⟩ := h i
  rw [h1] at g1
  rw [h2] at g2
  cases g1
  cases g2
  exact q
theorem c_isNotTB : C2 aIsNotB := fun {ι} _ x y ρ Q Q' h k => by
  obtain ⟨i, _⟩ := i0 (ι := ι)
  obtain ⟨m, n, h1, h2, _⟩ := h i
  refine ⟨m, n, h1, h2, k _ _ fun i => ?_⟩
  obtain ⟨m', n', g1, g2, q⟩ := h i
  rw [h1] at g1
  rw [h2] at g2
  cases g1
  cases g2
  exact q
theorem i_isTB {x y : A} {ρ : AEnv} {Q : AK} {m n : Bool} (h1 : dat x ρ = some (.bl m)) (h2 : dat y ρ = some (.bl n)) (k : Q (.v (.bl (decide (m = n)))) ρ) : aIsB x y ρ Q := ⟨m, n, h1, h2, k⟩
theorem i_isnotB {x y : A} {ρ : AEnv} {Q : AK} {m n : Bool} (h1 : dat x ρ = some (.bl m)) (h2 : dat y ρ = some (.bl n)) (k : Q (.v (.bl (!decide (m = n)))) ρ) : aIsNotB x y ρ Q := ⟨m, n, h1, h2, k⟩
theorem i_tnx {K : Fg} {C : Addr} {j : Nat} {su : List (Str × D) → AS} {DA : AEnds} {ρ : AEnv} (k : DA.nx ρ) : (tEnds K C j su DA).nx ρ := k
theorem i_snx {j : Nat} {DA : AEnds} {ρ : AEnv} (k : DA.nx (ρ.set j none)) : (sEnds j DA).nx ρ := k
end
end Vs

set_option Elab.async false
set_option linter.all false
set_option maxRecDepth 100000
set_option maxHeartbeats 0
namespace Law
open PySem PySem.Spec PyProof.Rows L2 Vs

def as_is_integer (K : Fg) : AS := asRet (aAnd (aUn (aIsi K [(.type "int")]) (aVal 0)) (aNot (aUn (aIsi K [(.type "bool")]) (aVal 0))))
theorem cj_is_integer {K : Fg} : CS (as_is_integer K) := (cs_ret (ce_and (ce_un c_isi ce_val) (ce_not (ce_un c_isi ce_val))))
def bd_relaxed_1 : AS := asAfter [4, 5, 6, 7] (asForget [] (asIf (aTest (aOp aLt (aOp aPlus (aOp aIx (aRef 1) (aVal 6)) (aVal 7)) (aOp aIx (aRef 1) (aVal 5)))) (asSeq (asForget [3] (asPut (aOp aPlus (aOp aIx (aRef 1) (aVal 6)) (aVal 7)) (aRef 1) (aVal 5)))
  (asSeq (asForget [6, 7] (asPut (aVal 4) (aRef 2) (aVal 5)))
  (asForget [4] (asSet 3 (aVal 5))))) (asNext)))
theorem cj_bd_relaxed_1 : CS (bd_relaxed_1) := (cs_after (cs_forget (cs_if (ct_test (ce_op c_lt (ce_op c_plus (ce_op c_ix ce_ref ce_val) ce_val) (ce_op c_ix ce_ref ce_val))) (cs_seq (cs_forget (cs_put (ce_op c_plus (ce_op c_ix ce_ref ce_val) ce_val) ce_ref ce_val)) (cs_seq (cs_forget (cs_put ce_val ce_ref ce_val)) (cs_forget (cs_set ce_val)))) cs_next)))
def rs_relaxed_3 : AS := asForget [] (asRet (aVal 3))
theorem cj_rs_relaxed_3 : CS (rs_relaxed_3) := (cs_forget (cs_ret ce_val))
def rs_relaxed_2 : AS := asSeq (asForget [] (asFor (aiEnumR 0) (agTup 2 (agCons (agName 4) (agCons (agTup 3 (agCons (agName 5) (agCons (agName 6) (agCons (agName 7) (agNil))))) (agNil)))) (bd_relaxed_1))) (rs_relaxed_3)
theorem cj_rs_relaxed_2 : CS (rs_relaxed_2) := (cs_seq (cs_forget (cs_for ci_enumR (cg_tup (cgs_cons cg_name (cgs_cons (cg_tup (cgs_cons cg_name (cgs_cons cg_name (cgs_cons cg_name cgs_nil)))) cgs_nil))) cj_bd_relaxed_1)) cj_rs_relaxed_3)
def as_relaxed : AS := asSeq (asSet 3 (aC .non)) (rs_relaxed_2)
theorem cj_relaxed : CS (as_relaxed) := (cs_seq (cs_set ce_c) cj_rs_relaxed_2)
def bd_ring_behind_1 : AS := asForget [5] (asSet 4 (aOp aIx (aOp aIx (aRef 1) (aOp aIx (aRef 2) (aVal 4))) (aC (.int 1))))
theorem cj_bd_ring_behind_1 : CS (bd_ring_behind_1) := (cs_forget (cs_set (ce_op c_ix (ce_op c_ix ce_ref (ce_op c_ix ce_ref ce_val)) ce_c)))
def bd_ring_behind_2 : AS := asSeq (asForget [] (asExpr (aAppend (aRef 6) (aOp aIx (aRef 2) (aVal 7)))))
  (asForget [] (asSet 7 (aOp aIx (aOp aIx (aRef 1) (aOp aIx (aRef 2) (aVal 7))) (aC (.int 1)))))
theorem cj_bd_ring_behind_2 : CS (bd_ring_behind_2) := (cs_seq (cs_forget (cs_expr (ce_append ce_ref (ce_op c_ix ce_ref ce_val)))) (cs_forget (cs_set (ce_op c_ix (ce_op c_ix ce_ref (ce_op c_ix ce_ref ce_val)) ce_c))))
def rs_ring_behind_6 : AS := asForget [4, 7] (asRet (aCB aTuple (aCons (aRef 6) (aNil))))
theorem cj_rs_ring_behind_6 : CS (rs_ring_behind_6) := (cs_forget (cs_ret (ce_cb c_tuple (ca_cons ce_ref ca_nil))))
def rs_ring_behind_5 : AS := asSeq (asForget [] (asWhile (aTest (aOp aNe (aVal 7) (aVal 4))) (bd_ring_behind_2))) (rs_ring_behind_6)
theorem cj_rs_ring_behind_5 : CS (rs_ring_behind_5) := (cs_seq (cs_forget (cs_while (ct_test (ce_op c_ne ce_val ce_val)) cj_bd_ring_behind_2)) cj_rs_ring_behind_6)
def rs_ring_behind_4 : AS := asSeq (asForget [] (asSet 7 (aOp aIx (aOp aIx (aRef 1) (aOp aIx (aRef 2) (aVal 4))) (aC (.int 1))))) (rs_ring_behind_5)
theorem cj_rs_ring_behind_4 : CS (rs_ring_behind_4) := (cs_seq (cs_forget (cs_set (ce_op c_ix (ce_op c_ix ce_ref (ce_op c_ix ce_ref ce_val)) ce_c))) cj_rs_ring_behind_5)
def rs_ring_behind_3 : AS := asSeq (asForget [] (asSet 6 (aLst (aCons (aOp aIx (aRef 2) (aVal 4)) (aNil))))) (rs_ring_behind_4)
theorem cj_rs_ring_behind_3 : CS (rs_ring_behind_3) := (cs_seq (cs_forget (cs_set (ce_lst (ca_cons (ce_op c_ix ce_ref ce_val) ca_nil)))) cj_rs_ring_behind_4)
def rs_ring_behind_2 : AS := asSeq (asForget [] (asFor (aiRng1 (aCons (aVal 0) (aNil))) (agName 5) (bd_ring_behind_1))) (rs_ring_behind_3)
theorem cj_rs_ring_behind_2 : CS (rs_ring_behind_2) := (cs_seq (cs_forget (cs_for (ci_rng1 (ca_cons ce_val ca_nil)) cg_name cj_bd_ring_behind_1)) cj_rs_ring_behind_3)
def as_ring_behind : AS := asSeq (asSet 4 (aVal 3)) (rs_ring_behind_2)
theorem cj_ring_behind : CS (as_ring_behind) := (cs_seq (cs_set ce_val) cj_rs_ring_behind_2)
def as__law_state : AS := asRet (aLst (aCons (aCB aList (aCons (aVal 0) (aNil))) (aCons (aC (.int 0)) (aCons (aC (.int 0)) (aCons (aC (.int 0)) (aCons (aC (.int 0)) (aCons (aC (.int 0)) (aNil))))))))
theorem cj__law_state : CS (as__law_state) := (cs_ret (ce_lst (ca_cons (ce_cb c_list (ca_cons ce_val ca_nil)) (ca_cons ce_c (ca_cons ce_c (ca_cons ce_c (ca_cons ce_c (ca_cons ce_c ca_nil))))))))
def rs__law_draw_7 : AS := asForget [] (asRet (aOp aMod (aVal 4) (aVal 1)))
theorem cj_rs__law_draw_7 : CS (rs__law_draw_7) := (cs_forget (cs_ret (ce_op c_mod ce_val ce_val)))
def rs__law_draw_6 : AS := asSeq (asForget [] (asSet 4 (aOp aMod (aOp aMul (aVal 4) (aOp aPlus (aOp aDivW (aVal 4) (aC (.int 2003))) (aC (.int 40692)))) (aC (.int 2147483399))))) (rs__law_draw_7)
theorem cj_rs__law_draw_6 : CS (rs__law_draw_6) := (cs_seq (cs_forget (cs_set (ce_op c_mod (ce_op c_mul ce_val (ce_op c_plus (ce_op c_divW ce_val ce_c) ce_c)) ce_c))) cj_rs__law_draw_7)
def rs__law_draw_5 : AS := asSeq (asForget [] (asSet 4 (aOp aMod (aOp aMul (aVal 4) (aOp aPlus (aOp aDivW (aVal 4) (aC (.int 1009))) (aC (.int 69621)))) (aC (.int 2147483647))))) (rs__law_draw_6)
theorem cj_rs__law_draw_5 : CS (rs__law_draw_5) := (cs_seq (cs_forget (cs_set (ce_op c_mod (ce_op c_mul ce_val (ce_op c_plus (ce_op c_divW ce_val ce_c) ce_c)) ce_c))) cj_rs__law_draw_6)
def rs__law_draw_4 : AS := asSeq (asForget [3] (asSet 4 (aOp aMod (aOp aMul (aOp aPlus (aOp aPlus (aOp aMul (aCB aInt (aCons (aOp aIx (aRef 0) (aC (.int 5))) (aNil))) (aC (.int 1000003))) (aOp aMul (aC (.int 7919)) (aOp aIx (aRef 0) (aC (.int 4))))) (aC (.int 1))) (aC (.int 48271))) (aC (.int 2147483647))))) (rs__law_draw_5)
theorem cj_rs__law_draw_4 : CS (rs__law_draw_4) := (cs_seq (cs_forget (cs_set (ce_op c_mod (ce_op c_mul (ce_op c_plus (ce_op c_plus (ce_op c_mul (ce_cb c_int (ca_cons (ce_op c_ix ce_ref ce_c) ca_nil)) ce_c) (ce_op c_mul ce_c (ce_op c_ix ce_ref ce_c))) ce_c) ce_c) ce_c))) cj_rs__law_draw_5)
def rs__law_draw_3 : AS := asSeq (asForget [] (asIf (aTest (aOp aLt (aOp aIx (aRef 0) (aC (.int 1))) (aCB aLen (aCons (aOp aIx (aRef 0) (aC (.int 0))) (aNil))))) (asSeq (asForget [] (asSet 3 (aOp aIx (aOp aIx (aRef 0) (aC (.int 0))) (aOp aIx (aRef 0) (aC (.int 1))))))
  (asSeq (asForget [] (asPut (aOp aPlus (aOp aIx (aRef 0) (aC (.int 1))) (aC (.int 1))) (aRef 0) (aC (.int 1))))
  (asSeq (asForget [] (asPut (aOp aMod (aOp aPlus (aOp aMul (aOp aIx (aRef 0) (aC (.int 5))) (aC (.int 31))) (aCB aInt (aCons (aVal 3) (aNil)))) (aOp aPow (aC (.int 10)) (aC (.int 18)))) (aRef 0) (aC (.int 5))))
  (asForget [] (asIf (aTest (aOp aGe (aVal 3) (aOp aPow (aC (.int 10)) (aC (.int 18))))) (asSeq (asForget [] (asPut (aOp aDivW (aVal 3) (aVal 1)) (aRef 0) (aC (.int 2))))
  (asSeq (asForget [] (asPut (aC (.int 1)) (aRef 0) (aC (.int 3))))
  (asForget [] (asRet (aOp aMod (aCB aInt (aCons (aVal 3) (aNil))) (aVal 1)))))) (asNext)))))) (asNext))) (rs__law_draw_4)
theorem cj_rs__law_draw_3 : CS (rs__law_draw_3) := (cs_seq (cs_forget (cs_if (ct_test (ce_op c_lt (ce_op c_ix ce_ref ce_c) (ce_cb c_len (ca_cons (ce_op c_ix ce_ref ce_c) ca_nil)))) (cs_seq (cs_forget (cs_set (ce_op c_ix (ce_op c_ix ce_ref ce_c) (ce_op c_ix ce_ref ce_c)))) (cs_seq (cs_forget (cs_put (ce_op c_plus (ce_op c_ix ce_ref ce_c) ce_c) ce_ref ce_c)) (cs_seq (cs_forget (cs_put (ce_op c_mod (ce_op c_plus (ce_op c_mul (ce_op c_ix ce_ref ce_c) ce_c) (ce_cb c_int (ca_cons ce_val ca_nil))) (ce_op c_pow ce_c ce_c)) ce_ref ce_c)) (cs_forget (cs_if (ct_test (ce_op c_ge ce_val (ce_op c_pow ce_c ce_c))) (cs_seq (cs_forget (cs_put (ce_op c_divW ce_val ce_val) ce_ref ce_c)) (cs_seq (cs_forget (cs_put ce_c ce_ref ce_c)) (cs_forget (cs_ret (ce_op c_mod (ce_cb c_int (ca_cons ce_val ca_nil)) ce_val))))) cs_next))))) cs_next)) cj_rs__law_draw_4)
def rs__law_draw_2 : AS := asSeq (asForget [2] (asPut (aOp aPlus (aOp aIx (aRef 0) (aC (.int 4))) (aC (.int 1))) (aRef 0) (aC (.int 4)))) (rs__law_draw_3)
theorem cj_rs__law_draw_2 : CS (rs__law_draw_2) := (cs_seq (cs_forget (cs_put (ce_op c_plus (ce_op c_ix ce_ref ce_c) ce_c) ce_ref ce_c)) cj_rs__law_draw_3)
def as__law_draw : AS := asSeq (asIf (atAnd (aTest (aOp aGt (aOp aIx (aRef 0) (aC (.int 2))) (aC (.int 0)))) (aTest (aOp aLt (aOp aIx (aRef 0) (aC (.int 3))) (aC (.int 60))))) (asSeq (asForget [] (asSet 2 (aOp aMod (aCB aInt (aCons (aOp aIx (aRef 0) (aC (.int 2))) (aNil))) (aVal 1))))
  (asSeq (asForget [] (asPut (aOp aDivW (aOp aIx (aRef 0) (aC (.int 2))) (aVal 1)) (aRef 0) (aC (.int 2))))
  (asSeq (asForget [] (asPut (aOp aPlus (aOp aIx (aRef 0) (aC (.int 3))) (aC (.int 1))) (aRef 0) (aC (.int 3))))
  (asForget [] (asRet (aVal 2)))))) (asNext)) (rs__law_draw_2)
theorem cj__law_draw : CS (as__law_draw) := (cs_seq (cs_if (ct_and (ct_test (ce_op c_gt (ce_op c_ix ce_ref ce_c) ce_c)) (ct_test (ce_op c_lt (ce_op c_ix ce_ref ce_c) ce_c))) (cs_seq (cs_forget (cs_set (ce_op c_mod (ce_cb c_int (ca_cons (ce_op c_ix ce_ref ce_c) ca_nil)) ce_val))) (cs_seq (cs_forget (cs_put (ce_op c_divW (ce_op c_ix ce_ref ce_c) ce_val) ce_ref ce_c)) (cs_seq (cs_forget (cs_put (ce_op c_plus (ce_op c_ix ce_ref ce_c) ce_c) ce_ref ce_c)) (cs_forget (cs_ret ce_val))))) cs_next) cj_rs__law_draw_2)
def as__law_is_integer (K : Fg) : AS := asRet (aAnd (aUn (aIsi K [(.type "int")]) (aVal 0)) (aNot (aUn (aIsi K [(.type "bool")]) (aVal 0))))
theorem cj__law_is_integer {K : Fg} : CS (as__law_is_integer K) := (cs_ret (ce_and (ce_un c_isi ce_val) (ce_not (ce_un c_isi ce_val))))
def rs_is_fact_3 (K : Fg) (sp_is_integer : ASp) : AS := asForget [] (asRet (aAnd (aChain aLe aLt (aC (.int 0)) (aOp aIx (aVal 1) (aC (.int 0))) (aVal 0)) (aChain aLe aLt (aC (.int 0)) (aOp aIx (aVal 1) (aC (.int 1))) (aVal 0))))
theorem cj_rs_is_fact_3 {K : Fg} {sp_is_integer : ASp} : CS (rs_is_fact_3 K sp_is_integer) := (cs_forget (cs_ret (ce_and (ce_chain c_le c_lt ce_c (ce_op c_ix ce_val ce_c) ce_val) (ce_chain c_le c_lt ce_c (ce_op c_ix ce_val ce_c) ce_val))))
def rs_is_fact_2 (K : Fg) (sp_is_integer : ASp) : AS := asSeq (asForget [] (asIf (atNot (aTest (aCB aAll (aCons (aLc (aiSeq (aVal 1)) (agName 2) (atYes) (aCall sp_is_integer [] (aCons (aVal 2) (aNil))) [2]) (aNil))))) (asForget [] (asRet (aC (.bl false)))) (asNext))) (rs_is_fact_3 K sp_is_integer)
theorem cj_rs_is_fact_2 {K : Fg} {sp_is_integer : ASp} : CS (rs_is_fact_2 K sp_is_integer) := (cs_seq (cs_forget (cs_if (ct_not (ct_test (ce_cb c_all (ca_cons (ce_lc (ci_seq ce_val) cg_name ct_yes (ce_callC (ca_cons ce_val ca_nil))) ca_nil)))) (cs_forget (cs_ret ce_c)) cs_next)) cj_rs_is_fact_3)
def as_is_fact (K : Fg) (sp_is_integer : ASp) : AS := asSeq (asIf (atOr (atNot (aTest (aUn (aIsi K [(.type "tuple")]) (aVal 1)))) (aTest (aOp aNe (aCB aLen (aCons (aVal 1) (aNil))) (aC (.int 3))))) (asForget [] (asRet (aC (.bl false)))) (asNext)) (rs_is_fact_2 K sp_is_integer)
theorem cj_is_fact {K : Fg} {sp_is_integer : ASp} : CS (as_is_fact K sp_is_integer) := (cs_seq (cs_if (ct_or (ct_not (ct_test (ce_un c_isi ce_val))) (ct_test (ce_op c_ne (ce_cb c_len (ca_cons ce_val ca_nil)) ce_c))) (cs_forget (cs_ret ce_c)) cs_next) cj_rs_is_fact_2)
def bd_is_ring_1 (K : Fg) (sp_is_integer : ASp) : AS := asAfter [2] (asForget [] (asIf (atOr (atNot (aTest (aCall sp_is_integer [] (aCons (aVal 2) (aNil))))) (atNot (aTest (aChain aLe aLt (aC (.int 0)) (aVal 2) (aCB aLen (aCons (aVal 0) (aNil))))))) (asForget [2] (asRet (aC (.bl false)))) (asNext)))
theorem cj_bd_is_ring_1 {K : Fg} {sp_is_integer : ASp} : CS (bd_is_ring_1 K sp_is_integer) := (cs_after (cs_forget (cs_if (ct_or (ct_not (ct_test (ce_callC (ca_cons ce_val ca_nil)))) (ct_not (ct_test (ce_chain c_le c_lt ce_c ce_val (ce_cb c_len (ca_cons ce_val ca_nil)))))) (cs_forget (cs_ret ce_c)) cs_next)))
def bd_is_ring_2 (K : Fg) (sp_is_integer : ASp) : AS := asSeq (asForget [] (asIf (aTest (aOp aNe (aOp aIx (aOp aIx (aVal 0) (aVal 2)) (aC (.int 0))) (aOp aIx (aVal 4) (aC (.int 1))))) (asForget [2, 3, 4] (asRet (aC (.bl false)))) (asNext)))
  (asSeq (asForget [4] (asSet 4 (aOp aIx (aVal 0) (aVal 2))))
  (asForget [2] (asAug 3 (aOp aIx (aVal 4) (aC (.int 2))))))
theorem cj_bd_is_ring_2 {K : Fg} {sp_is_integer : ASp} : CS (bd_is_ring_2 K sp_is_integer) := (cs_seq (cs_forget (cs_if (ct_test (ce_op c_ne (ce_op c_ix (ce_op c_ix ce_val ce_val) ce_c) (ce_op c_ix ce_val ce_c))) (cs_forget (cs_ret ce_c)) cs_next)) (cs_seq (cs_forget (cs_set (ce_op c_ix ce_val ce_val))) (cs_forget (cs_aug (ce_op c_ix ce_val ce_c)))))
def rs_is_ring_6 (K : Fg) (sp_is_integer : ASp) : AS := asForget [4] (asRet (aOp aLt (aVal 3) (aC (.int 0))))
theorem cj_rs_is_ring_6 {K : Fg} {sp_is_integer : ASp} : CS (rs_is_ring_6 K sp_is_integer) := (cs_forget (cs_ret (ce_op c_lt ce_val ce_c)))
def rs_is_ring_5 (K : Fg) (sp_is_integer : ASp) : AS := asSeq (asForget [] (asFor (aiSeq (aVal 1)) (agName 2) (bd_is_ring_2 K sp_is_integer))) (rs_is_ring_6 K sp_is_integer)
theorem cj_rs_is_ring_5 {K : Fg} {sp_is_integer : ASp} : CS (rs_is_ring_5 K sp_is_integer) := (cs_seq (cs_forget (cs_for (ci_seq ce_val) cg_name cj_bd_is_ring_2)) cj_rs_is_ring_6)
def rs_is_ring_4 (K : Fg) (sp_is_integer : ASp) : AS := asSeq (asForget [] (asSet 4 (aOp aIx (aVal 0) (aOp aIx (aVal 1) (aUn aNeg (aC (.int 1))))))) (rs_is_ring_5 K sp_is_integer)
theorem cj_rs_is_ring_4 {K : Fg} {sp_is_integer : ASp} : CS (rs_is_ring_4 K sp_is_integer) := (cs_seq (cs_forget (cs_set (ce_op c_ix ce_val (ce_op c_ix ce_val (ce_un c_neg ce_c))))) cj_rs_is_ring_5)
def rs_is_ring_3 (K : Fg) (sp_is_integer : ASp) : AS := asSeq (asForget [] (asSet 3 (aC (.int 0)))) (rs_is_ring_4 K sp_is_integer)
theorem cj_rs_is_ring_3 {K : Fg} {sp_is_integer : ASp} : CS (rs_is_ring_3 K sp_is_integer) := (cs_seq (cs_forget (cs_set ce_c)) cj_rs_is_ring_4)
def rs_is_ring_2 (K : Fg) (sp_is_integer : ASp) : AS := asSeq (asForget [] (asFor (aiSeq (aVal 1)) (agName 2) (bd_is_ring_1 K sp_is_integer))) (rs_is_ring_3 K sp_is_integer)
theorem cj_rs_is_ring_2 {K : Fg} {sp_is_integer : ASp} : CS (rs_is_ring_2 K sp_is_integer) := (cs_seq (cs_forget (cs_for (ci_seq ce_val) cg_name cj_bd_is_ring_1)) cj_rs_is_ring_3)
def as_is_ring (K : Fg) (sp_is_integer : ASp) : AS := asSeq (asIf (atOr (atNot (aTest (aUn (aIsi K [(.type "tuple")]) (aVal 1)))) (aTest (aOp aEq (aCB aLen (aCons (aVal 1) (aNil))) (aC (.int 0))))) (asForget [] (asRet (aC (.bl false)))) (asNext)) (rs_is_ring_2 K sp_is_integer)
theorem cj_is_ring {K : Fg} {sp_is_integer : ASp} : CS (as_is_ring K sp_is_integer) := (cs_seq (cs_if (ct_or (ct_not (ct_test (ce_un c_isi ce_val))) (ct_test (ce_op c_eq (ce_cb c_len (ca_cons ce_val ca_nil)) ce_c))) (cs_forget (cs_ret ce_c)) cs_next) cj_rs_is_ring_2)
def rs__law_number_4 (sp__law_draw : ASp) : AS := asForget [1] (asRet (aOp aPlus (aOp aMul (aOp aSub (aCall sp__law_draw [] (aCons (aRef 0) (aCons (aOp aMul (aC (.int 2)) (aOp aPow (aC (.int 10)) (aC (.int 9)))) (aNil)))) (aOp aPow (aC (.int 10)) (aC (.int 9)))) (aOp aPow (aC (.int 10)) (aC (.int 15)))) (aCall sp__law_draw [] (aCons (aRef 0) (aCons (aOp aPow (aC (.int 10)) (aC (.int 9))) (aNil))))))
theorem cj_rs__law_number_4 {sp__law_draw : ASp} : CS (rs__law_number_4 sp__law_draw) := (cs_forget (cs_ret (ce_op c_plus (ce_op c_mul (ce_op c_sub (ce_callC (ca_cons ce_ref (ca_cons (ce_op c_mul ce_c (ce_op c_pow ce_c ce_c)) ca_nil))) (ce_op c_pow ce_c ce_c)) (ce_op c_pow ce_c ce_c)) (ce_callC (ca_cons ce_ref (ca_cons (ce_op c_pow ce_c ce_c) ca_nil))))))
def rs__law_number_3 (sp__law_draw : ASp) : AS := asSeq (asForget [] (asIf (aTest (aOp aEq (aVal 1) (aC (.int 6)))) (asForget [1] (asRet (aOp aSub (aCall sp__law_draw [] (aCons (aRef 0) (aCons (aC (.int 201)) (aNil)))) (aC (.int 100))))) (asNext))) (rs__law_number_4 sp__law_draw)
theorem cj_rs__law_number_3 {sp__law_draw : ASp} : CS (rs__law_number_3 sp__law_draw) := (cs_seq (cs_forget (cs_if (ct_test (ce_op c_eq ce_val ce_c)) (cs_forget (cs_ret (ce_op c_sub (ce_callC (ca_cons ce_ref (ca_cons ce_c ca_nil))) ce_c))) cs_next)) cj_rs__law_number_4)
def rs__law_number_2 (sp__law_draw : ASp) : AS := asSeq (asForget [] (asIf (aTest (aOp aLt (aVal 1) (aC (.int 6)))) (asForget [1] (asRet (aOp aSub (aCall sp__law_draw [] (aCons (aRef 0) (aCons (aC (.int 9)) (aNil)))) (aC (.int 4))))) (asNext))) (rs__law_number_3 sp__law_draw)
theorem cj_rs__law_number_2 {sp__law_draw : ASp} : CS (rs__law_number_2 sp__law_draw) := (cs_seq (cs_forget (cs_if (ct_test (ce_op c_lt ce_val ce_c)) (cs_forget (cs_ret (ce_op c_sub (ce_callC (ca_cons ce_ref (ca_cons ce_c ca_nil))) ce_c))) cs_next)) cj_rs__law_number_3)
def as__law_number (sp__law_draw : ASp) : AS := asSeq (asSet 1 (aCall sp__law_draw [] (aCons (aRef 0) (aCons (aC (.int 8)) (aNil))))) (rs__law_number_2 sp__law_draw)
theorem cj__law_number {sp__law_draw : ASp} : CS (as__law_number sp__law_draw) := (cs_seq (cs_set (ce_callC (ca_cons ce_ref (ca_cons ce_c ca_nil)))) cj_rs__law_number_2)
def bd__law_strange_1 (K : Fg) (sp__law_draw : ASp) : AS := asForget [2] (asIf (aTest (aUn (aIsi K [(.type "list")]) (aVal 1))) (asForget [] (asSet 1 (aFrz (aLst (aCons (aVal 1) (aNil)))))) (asForget [] (asIf (aTest (aUn (aIsi K [(.type "tuple")]) (aVal 1))) (asForget [] (asSet 1 (aTup (aCons (aVal 1) (aNil))))) (asForget [] (asSet 1 (aFrz (aDisp [(aC (.str ("a" : Str)), aVal 1)])))))))
theorem cj_bd__law_strange_1 {K : Fg} {sp__law_draw : ASp} : CS (bd__law_strange_1 K sp__law_draw) := (cs_forget (cs_if (ct_test (ce_un c_isi ce_val)) (cs_forget (cs_set (ce_frz (ce_lst (ca_cons ce_val ca_nil))))) (cs_forget (cs_if (ct_test (ce_un c_isi ce_val)) (cs_forget (cs_set (ce_tup (ca_cons ce_val ca_nil)))) (cs_forget (cs_set (ce_frz (ce_disp (cps_cons ce_c ce_val cps_nil)))))))))
def rs__law_strange_4 (K : Fg) (sp__law_draw : ASp) : AS := asForget [1] (asRet (aOp aIx (aVal 3) (aCall sp__law_draw [] (aCons (aRef 0) (aCons (aCB aLen (aCons (aVal 3) (aNil))) (aNil))))))
theorem cj_rs__law_strange_4 {K : Fg} {sp__law_draw : ASp} : CS (rs__law_strange_4 K sp__law_draw) := (cs_forget (cs_ret (ce_op c_ix ce_val (ce_callC (ca_cons ce_ref (ca_cons (ce_cb c_len (ca_cons ce_val ca_nil)) ca_nil))))))
def rs__law_strange_3 (K : Fg) (sp__law_draw : ASp) : AS := asSeq (asForget [] (asSet 3 (aFrz (aLst (aCons (aC .non) (aCons (aC (.bl true)) (aCons (aC (.bl false)) (aCons (aC (.str ("" : Str))) (aCons (aC (.str ("a" : Str))) (aCons (aC (.str ("now" : Str))) (aCons (aC (.str ("last a at now" : Str))) (aCons (aTup (aNil)) (aCons (aTup (aCons (aC (.int 0)) (aCons (aC (.int 0)) (aNil)))) (aCons (aTup (aCons (aC (.int 1)) (aCons (aC (.int 2)) (aCons (aC (.int 3)) (aNil))))) (aCons (aLst (aCons (aC (.int 0)) (aCons (aC (.int 1)) (aNil)))) (aCons (aDict0) (aCons (aDisp [(aC (.str ("a" : Str)), aLst (aCons (aC (.int 0)) (aNil)))]) (aCons (aVal 1) (aNil))))))))))))))))))) (rs__law_strange_4 K sp__law_draw)
theorem cj_rs__law_strange_3 {K : Fg} {sp__law_draw : ASp} : CS (rs__law_strange_3 K sp__law_draw) := (cs_seq (cs_forget (cs_set (ce_frz (ce_lst (ca_cons ce_c (ca_cons ce_c (ca_cons ce_c (ca_cons ce_c (ca_cons ce_c (ca_cons ce_c (ca_cons ce_c (ca_cons (ce_tup ca_nil) (ca_cons (ce_tup (ca_cons ce_c (ca_cons ce_c ca_nil))) (ca_cons (ce_tup (ca_cons ce_c (ca_cons ce_c (ca_cons ce_c ca_nil)))) (ca_cons (ce_lst (ca_cons ce_c (ca_cons ce_c ca_nil))) (ca_cons ce_dict0 (ca_cons (ce_disp (cps_cons ce_c (ce_lst (ca_cons ce_c ca_nil)) cps_nil)) (ca_cons ce_val ca_nil)))))))))))))))))) cj_rs__law_strange_4)
def rs__law_strange_2 (K : Fg) (sp__law_draw : ASp) : AS := asSeq (asForget [] (asFor (aiRng1 (aCons (aC (.int 15)) (aNil))) (agName 2) (bd__law_strange_1 K sp__law_draw))) (rs__law_strange_3 K sp__law_draw)
theorem cj_rs__law_strange_2 {K : Fg} {sp__law_draw : ASp} : CS (rs__law_strange_2 K sp__law_draw) := (cs_seq (cs_forget (cs_for (ci_rng1 (ca_cons ce_c ca_nil)) cg_name cj_bd__law_strange_1)) cj_rs__law_strange_3)
def as__law_strange (K : Fg) (sp__law_draw : ASp) : AS := asSeq (asSet 1 (aOp aIx (aLst (aCons (aLst (aNil)) (aCons (aTup (aNil)) (aCons (aDict0) (aNil))))) (aCall sp__law_draw [] (aCons (aRef 0) (aCons (aC (.int 3)) (aNil)))))) (rs__law_strange_2 K sp__law_draw)
theorem cj__law_strange {K : Fg} {sp__law_draw : ASp} : CS (as__law_strange K sp__law_draw) := (cs_seq (cs_set (ce_op c_ix (ce_lst (ca_cons (ce_lst ca_nil) (ca_cons (ce_tup ca_nil) (ca_cons ce_dict0 ca_nil)))) (ce_callC (ca_cons ce_ref (ca_cons ce_c ca_nil))))) cj_rs__law_strange_2)
def rs__law_size_3 (sp__law_draw : ASp) : AS := asForget [1] (asRet (aCall sp__law_draw [] (aCons (aRef 0) (aCons (aC (.int 13)) (aNil)))))
theorem cj_rs__law_size_3 {sp__law_draw : ASp} : CS (rs__law_size_3 sp__law_draw) := (cs_forget (cs_ret (ce_callC (ca_cons ce_ref (ca_cons ce_c ca_nil)))))
def rs__law_size_2 (sp__law_draw : ASp) : AS := asSeq (asForget [] (asIf (aTest (aOp aEq (aVal 1) (aC (.int 0)))) (asForget [1] (asRet (aOp aPlus (aC (.int 40)) (aCall sp__law_draw [] (aCons (aRef 0) (aCons (aC (.int 41)) (aNil))))))) (asNext))) (rs__law_size_3 sp__law_draw)
theorem cj_rs__law_size_2 {sp__law_draw : ASp} : CS (rs__law_size_2 sp__law_draw) := (cs_seq (cs_forget (cs_if (ct_test (ce_op c_eq ce_val ce_c)) (cs_forget (cs_ret (ce_op c_plus ce_c (ce_callC (ca_cons ce_ref (ca_cons ce_c ca_nil)))))) cs_next)) cj_rs__law_size_3)
def as__law_size (sp__law_draw : ASp) : AS := asSeq (asSet 1 (aCall sp__law_draw [] (aCons (aRef 0) (aCons (aC (.int 8)) (aNil))))) (rs__law_size_2 sp__law_draw)
theorem cj__law_size {sp__law_draw : ASp} : CS (as__law_size sp__law_draw) := (cs_seq (cs_set (ce_callC (ca_cons ce_ref (ca_cons ce_c ca_nil)))) cj_rs__law_size_2)
def bd__law_is_closed_1 (K : Fg) (sp__law_is_integer : ASp) : AS := asAfter [3] (asSeq (asForget [] (asIf (atOr (atNot (aTest (aCall sp__law_is_integer [] (aCons (aOp aIx (aVal 1) (aVal 3)) (aNil))))) (atOr (aTest (aOp aLt (aOp aIx (aVal 1) (aVal 3)) (aC (.int 0)))) (aTest (aOp aGe (aOp aIx (aVal 1) (aVal 3)) (aCB aLen (aCons (aVal 0) (aNil))))))) (asForget [2, 3] (asRet (aC (.bl false)))) (asNext)))
  (asSeq (asForget [] (asSet 4 (aOp aIx (aVal 1) (aOp aMod (aOp aPlus (aVal 3) (aC (.int 1))) (aCB aLen (aCons (aVal 1) (aNil)))))))
  (asSeq (asForget [] (asIf (atOr (atNot (aTest (aCall sp__law_is_integer [] (aCons (aVal 4) (aNil))))) (atOr (aTest (aOp aLt (aVal 4) (aC (.int 0)))) (aTest (aOp aGe (aVal 4) (aCB aLen (aCons (aVal 0) (aNil))))))) (asForget [2, 3, 4] (asRet (aC (.bl false)))) (asNext)))
  (asSeq (asForget [] (asIf (aTest (aOp aNe (aOp aIx (aOp aIx (aVal 0) (aOp aIx (aVal 1) (aVal 3))) (aC (.int 1))) (aOp aIx (aOp aIx (aVal 0) (aVal 4)) (aC (.int 0))))) (asForget [2, 3, 4] (asRet (aC (.bl false)))) (asNext)))
  (asForget [4] (asSet 2 (aFrz (aOp aPlus (aVal 2) (aOp aIx (aOp aIx (aVal 0) (aOp aIx (aVal 1) (aVal 3))) (aC (.int 2)))))))))))
theorem cj_bd__law_is_closed_1 {K : Fg} {sp__law_is_integer : ASp} : CS (bd__law_is_closed_1 K sp__law_is_integer) := (cs_after (cs_seq (cs_forget (cs_if (ct_or (ct_not (ct_test (ce_callC (ca_cons (ce_op c_ix ce_val ce_val) ca_nil)))) (ct_or (ct_test (ce_op c_lt (ce_op c_ix ce_val ce_val) ce_c)) (ct_test (ce_op c_ge (ce_op c_ix ce_val ce_val) (ce_cb c_len (ca_cons ce_val ca_nil)))))) (cs_forget (cs_ret ce_c)) cs_next)) (cs_seq (cs_forget (cs_set (ce_op c_ix ce_val (ce_op c_mod (ce_op c_plus ce_val ce_c) (ce_cb c_len (ca_cons ce_val ca_nil)))))) (cs_seq (cs_forget (cs_if (ct_or (ct_not (ct_test (ce_callC (ca_cons ce_val ca_nil)))) (ct_or (ct_test (ce_op c_lt ce_val ce_c)) (ct_test (ce_op c_ge ce_val (ce_cb c_len (ca_cons ce_val ca_nil)))))) (cs_forget (cs_ret ce_c)) cs_next)) (cs_seq (cs_forget (cs_if (ct_test (ce_op c_ne (ce_op c_ix (ce_op c_ix ce_val (ce_op c_ix ce_val ce_val)) ce_c) (ce_op c_ix (ce_op c_ix ce_val ce_val) ce_c))) (cs_forget (cs_ret ce_c)) cs_next)) (cs_forget (cs_set (ce_frz (ce_op c_plus ce_val (ce_op c_ix (ce_op c_ix ce_val (ce_op c_ix ce_val ce_val)) ce_c))))))))))
def rs__law_is_closed_4 (K : Fg) (sp__law_is_integer : ASp) : AS := asForget [] (asRet (aOp aLt (aVal 2) (aC (.int 0))))
theorem cj_rs__law_is_closed_4 {K : Fg} {sp__law_is_integer : ASp} : CS (rs__law_is_closed_4 K sp__law_is_integer) := (cs_forget (cs_ret (ce_op c_lt ce_val ce_c)))
def rs__law_is_closed_3 (K : Fg) (sp__law_is_integer : ASp) : AS := asSeq (asForget [] (asFor (aiRng1 (aCons (aCB aLen (aCons (aVal 1) (aNil))) (aNil))) (agName 3) (bd__law_is_closed_1 K sp__law_is_integer))) (rs__law_is_closed_4 K sp__law_is_integer)
theorem cj_rs__law_is_closed_3 {K : Fg} {sp__law_is_integer : ASp} : CS (rs__law_is_closed_3 K sp__law_is_integer) := (cs_seq (cs_forget (cs_for (ci_rng1 (ca_cons (ce_cb c_len (ca_cons ce_val ca_nil)) ca_nil)) cg_name cj_bd__law_is_closed_1)) cj_rs__law_is_closed_4)
def rs__law_is_closed_2 (K : Fg) (sp__law_is_integer : ASp) : AS := asSeq (asForget [] (asSet 2 (aC (.int 0)))) (rs__law_is_closed_3 K sp__law_is_integer)
theorem cj_rs__law_is_closed_2 {K : Fg} {sp__law_is_integer : ASp} : CS (rs__law_is_closed_2 K sp__law_is_integer) := (cs_seq (cs_forget (cs_set ce_c)) cj_rs__law_is_closed_3)
def as__law_is_closed (K : Fg) (sp__law_is_integer : ASp) : AS := asSeq (asIf (atOr (atNot (aTest (aUn (aIsi K [(.type "tuple")]) (aVal 1)))) (aTest (aOp aEq (aCB aLen (aCons (aVal 1) (aNil))) (aC (.int 0))))) (asForget [] (asRet (aC (.bl false)))) (asNext)) (rs__law_is_closed_2 K sp__law_is_integer)
theorem cj__law_is_closed {K : Fg} {sp__law_is_integer : ASp} : CS (as__law_is_closed K sp__law_is_integer) := (cs_seq (cs_if (ct_or (ct_not (ct_test (ce_un c_isi ce_val))) (ct_test (ce_op c_eq (ce_cb c_len (ca_cons ce_val ca_nil)) ce_c))) (cs_forget (cs_ret ce_c)) cs_next) cj_rs__law_is_closed_2)
def bd__law_keeps_1 (K : Fg) (sp__law_is_integer : ASp) : AS := asAfter [4, 5, 6] (asForget [] (asIf (aTest (aOp aGt (aOp aIx (aVal 2) (aVal 4)) (aOp aPlus (aOp aIx (aVal 2) (aVal 5)) (aVal 6)))) (asForget [4, 5, 6] (asRet (aC (.bl false)))) (asNext)))
theorem cj_bd__law_keeps_1 {K : Fg} {sp__law_is_integer : ASp} : CS (bd__law_keeps_1 K sp__law_is_integer) := (cs_after (cs_forget (cs_if (ct_test (ce_op c_gt (ce_op c_ix ce_val ce_val) (ce_op c_plus (ce_op c_ix ce_val ce_val) ce_val))) (cs_forget (cs_ret ce_c)) cs_next)))
def rs__law_keeps_3 (K : Fg) (sp__law_is_integer : ASp) : AS := asForget [] (asRet (aC (.bl true)))
theorem cj_rs__law_keeps_3 {K : Fg} {sp__law_is_integer : ASp} : CS (rs__law_keeps_3 K sp__law_is_integer) := (cs_forget (cs_ret ce_c))
def rs__law_keeps_2 (K : Fg) (sp__law_is_integer : ASp) : AS := asSeq (asForget [] (asFor (aiSeq (aVal 1)) (agTup 3 (agCons (agName 4) (agCons (agName 5) (agCons (agName 6) (agNil))))) (bd__law_keeps_1 K sp__law_is_integer))) (rs__law_keeps_3 K sp__law_is_integer)
theorem cj_rs__law_keeps_2 {K : Fg} {sp__law_is_integer : ASp} : CS (rs__law_keeps_2 K sp__law_is_integer) := (cs_seq (cs_forget (cs_for (ci_seq ce_val) (cg_tup (cgs_cons cg_name (cgs_cons cg_name (cgs_cons cg_name cgs_nil)))) cj_bd__law_keeps_1)) cj_rs__law_keeps_3)
def as__law_keeps (K : Fg) (sp__law_is_integer : ASp) : AS := asSeq (asIf (atOr (atNot (aTest (aUn (aIsi K [(.type "list")]) (aVal 2)))) (atOr (aTest (aOp aNe (aCB aLen (aCons (aVal 2) (aNil))) (aVal 0))) (atNot (aTest (aCB aAll (aCons (aLc (aiSeq (aVal 2)) (agName 3) (atYes) (aCall sp__law_is_integer [] (aCons (aVal 3) (aNil))) [3]) (aNil))))))) (asForget [] (asRet (aC (.bl false)))) (asNext)) (rs__law_keeps_2 K sp__law_is_integer)
theorem cj__law_keeps {K : Fg} {sp__law_is_integer : ASp} : CS (as__law_keeps K sp__law_is_integer) := (cs_seq (cs_if (ct_or (ct_not (ct_test (ce_un c_isi ce_val))) (ct_or (ct_test (ce_op c_ne (ce_cb c_len (ca_cons ce_val ca_nil)) ce_val)) (ct_not (ct_test (ce_cb c_all (ca_cons (ce_lc (ci_seq ce_val) cg_name ct_yes (ce_callC (ca_cons ce_val ca_nil))) ca_nil)))))) (cs_forget (cs_ret ce_c)) cs_next) cj_rs__law_keeps_2)
def rs__law_is_fact_2 (K : Fg) (sp__law_is_integer : ASp) : AS := asForget [] (asRet (aAnd (aChain aLe aLt (aC (.int 0)) (aOp aIx (aVal 1) (aC (.int 0))) (aVal 0)) (aChain aLe aLt (aC (.int 0)) (aOp aIx (aVal 1) (aC (.int 1))) (aVal 0))))
theorem cj_rs__law_is_fact_2 {K : Fg} {sp__law_is_integer : ASp} : CS (rs__law_is_fact_2 K sp__law_is_integer) := (cs_forget (cs_ret (ce_and (ce_chain c_le c_lt ce_c (ce_op c_ix ce_val ce_c) ce_val) (ce_chain c_le c_lt ce_c (ce_op c_ix ce_val ce_c) ce_val))))
def as__law_is_fact (K : Fg) (sp__law_is_integer : ASp) : AS := asSeq (asIf (atOr (atNot (aTest (aUn (aIsi K [(.type "tuple")]) (aVal 1)))) (atOr (aTest (aOp aNe (aCB aLen (aCons (aVal 1) (aNil))) (aC (.int 3)))) (atNot (aTest (aCB aAll (aCons (aLc (aiSeq (aVal 1)) (agName 2) (atYes) (aCall sp__law_is_integer [] (aCons (aVal 2) (aNil))) [2]) (aNil))))))) (asForget [] (asRet (aC (.bl false)))) (asNext)) (rs__law_is_fact_2 K sp__law_is_integer)
theorem cj__law_is_fact {K : Fg} {sp__law_is_integer : ASp} : CS (as__law_is_fact K sp__law_is_integer) := (cs_seq (cs_if (ct_or (ct_not (ct_test (ce_un c_isi ce_val))) (ct_or (ct_test (ce_op c_ne (ce_cb c_len (ca_cons ce_val ca_nil)) ce_c)) (ct_not (ct_test (ce_cb c_all (ca_cons (ce_lc (ci_seq ce_val) cg_name ct_yes (ce_callC (ca_cons ce_val ca_nil))) ca_nil)))))) (cs_forget (cs_ret ce_c)) cs_next) cj_rs__law_is_fact_2)
def bd_check_facts_1 (C_BadFact : Addr) (sp_is_fact : ASp) : AS := asAfter [2, 3] (asForget [] (asIf (atNot (aTest (aCall sp_is_fact [] (aCons (aVal 0) (aCons (aVal 3) (aNil)))))) (asForget [3] (asRaise C_BadFact ("at" : Str) (aVal 2))) (asNext)))
theorem cj_bd_check_facts_1 {C_BadFact : Addr} {sp_is_fact : ASp} : CS (bd_check_facts_1 C_BadFact sp_is_fact) := (cs_after (cs_forget (cs_if (ct_not (ct_test (ce_callC (ca_cons ce_val (ca_cons ce_val ca_nil))))) (cs_forget (cs_raise ce_val)) cs_next)))
def as_check_facts (C_BadFact : Addr) (sp_is_fact : ASp) : AS := asFor (aiEnumR 1) (agTup 2 (agCons (agName 2) (agCons (agName 3) (agNil)))) (bd_check_facts_1 C_BadFact sp_is_fact)
theorem cj_check_facts {C_BadFact : Addr} {sp_is_fact : ASp} : CS (as_check_facts C_BadFact sp_is_fact) := (cs_for ci_enumR (cg_tup (cgs_cons cg_name (cgs_cons cg_name cgs_nil))) cj_bd_check_facts_1)
def rs__law_amount_2 (sp__law_draw sp__law_number : ASp) : AS := asForget [] (asRet (aOp aSub (aCall sp__law_draw [] (aCons (aRef 0) (aCons (aC (.int 15)) (aNil)))) (aC (.int 6))))
theorem cj_rs__law_amount_2 {sp__law_draw sp__law_number : ASp} : CS (rs__law_amount_2 sp__law_draw sp__law_number) := (cs_forget (cs_ret (ce_op c_sub (ce_callC (ca_cons ce_ref (ca_cons ce_c ca_nil))) ce_c)))
def as__law_amount (sp__law_draw sp__law_number : ASp) : AS := asSeq (asIf (aTest (aOp aEq (aCall sp__law_draw [] (aCons (aRef 0) (aCons (aC (.int 12)) (aNil)))) (aC (.int 0)))) (asForget [] (asRet (aOp aMul (aCall sp__law_number [] (aCons (aRef 0) (aNil))) (aOp aPow (aC (.int 10)) (aC (.int 9)))))) (asNext)) (rs__law_amount_2 sp__law_draw sp__law_number)
theorem cj__law_amount {sp__law_draw sp__law_number : ASp} : CS (as__law_amount sp__law_draw sp__law_number) := (cs_seq (cs_if (ct_test (ce_op c_eq (ce_callC (ca_cons ce_ref (ca_cons ce_c ca_nil))) ce_c)) (cs_forget (cs_ret (ce_op c_mul (ce_callC (ca_cons ce_ref ca_nil)) (ce_op c_pow ce_c ce_c)))) cs_next) cj_rs__law_amount_2)
def bd__law_planted_1 (sp__law_number sp__law_draw : ASp) : AS := asAfter [6, 7] (asSeq (asForget [4] (asSet 6 (aCall sp__law_draw [] (aCons (aRef 0) (aCons (aVal 1) (aNil))))))
  (asSeq (asForget [] (asSet 7 (aCall sp__law_draw [] (aCons (aRef 0) (aCons (aVal 1) (aNil))))))
  (asForget [] (asExpr (aAppend (aRef 5) (aTup (aCons (aVal 6) (aCons (aVal 7) (aCons (aOp aPlus (aOp aSub (aOp aIx (aVal 3) (aVal 6)) (aOp aIx (aVal 3) (aVal 7))) (aCall sp__law_draw [] (aCons (aRef 0) (aCons (aC (.int 3)) (aNil))))) (aNil))))))))))
theorem cj_bd__law_planted_1 {sp__law_number sp__law_draw : ASp} : CS (bd__law_planted_1 sp__law_number sp__law_draw) := (cs_after (cs_seq (cs_forget (cs_set (ce_callC (ca_cons ce_ref (ca_cons ce_val ca_nil))))) (cs_seq (cs_forget (cs_set (ce_callC (ca_cons ce_ref (ca_cons ce_val ca_nil))))) (cs_forget (cs_expr (ce_append ce_ref (ce_tup (ca_cons ce_val (ca_cons ce_val (ca_cons (ce_op c_plus (ce_op c_sub (ce_op c_ix ce_val ce_val) (ce_op c_ix ce_val ce_val)) (ce_callC (ca_cons ce_ref (ca_cons ce_c ca_nil)))) ca_nil))))))))))
def rs__law_planted_4 (sp__law_number sp__law_draw : ASp) : AS := asForget [3] (asRet (aRef 5))
theorem cj_rs__law_planted_4 {sp__law_number sp__law_draw : ASp} : CS (rs__law_planted_4 sp__law_number sp__law_draw) := (cs_forget (cs_ret ce_ref))
def rs__law_planted_3 (sp__law_number sp__law_draw : ASp) : AS := asSeq (asForget [] (asFor (aiRng1 (aCons (aVal 2) (aNil))) (agName 4) (bd__law_planted_1 sp__law_number sp__law_draw))) (rs__law_planted_4 sp__law_number sp__law_draw)
theorem cj_rs__law_planted_3 {sp__law_number sp__law_draw : ASp} : CS (rs__law_planted_3 sp__law_number sp__law_draw) := (cs_seq (cs_forget (cs_for (ci_rng1 (ca_cons ce_val ca_nil)) cg_name cj_bd__law_planted_1)) cj_rs__law_planted_4)
def rs__law_planted_2 (sp__law_number sp__law_draw : ASp) : AS := asSeq (asForget [] (asSet 5 (aLst (aNil)))) (rs__law_planted_3 sp__law_number sp__law_draw)
theorem cj_rs__law_planted_2 {sp__law_number sp__law_draw : ASp} : CS (rs__law_planted_2 sp__law_number sp__law_draw) := (cs_seq (cs_forget (cs_set (ce_lst ca_nil))) cj_rs__law_planted_3)
def as__law_planted (sp__law_number sp__law_draw : ASp) : AS := asSeq (asForget [4] (asSet 3 (aFrz (aLc (aiRng1 (aCons (aVal 1) (aNil))) (agName 4) (atYes) (aCall sp__law_number [] (aCons (aRef 0) (aNil))) [4])))) (rs__law_planted_2 sp__law_number sp__law_draw)
theorem cj__law_planted {sp__law_number sp__law_draw : ASp} : CS (as__law_planted sp__law_number sp__law_draw) := (cs_seq (cs_forget (cs_set (ce_frz (ce_lc (ci_rng1 (ca_cons ce_val ca_nil)) cg_name ct_yes (ce_callC (ca_cons ce_ref ca_nil)))))) cj_rs__law_planted_2)
def rs__law_bad_4 (sp__law_draw sp__law_strange : ASp) : AS := asForget [2] (asRet (aOp aIx (aVal 3) (aCall sp__law_draw [] (aCons (aRef 0) (aCons (aCB aLen (aCons (aVal 3) (aNil))) (aNil))))))
theorem cj_rs__law_bad_4 {sp__law_draw sp__law_strange : ASp} : CS (rs__law_bad_4 sp__law_draw sp__law_strange) := (cs_forget (cs_ret (ce_op c_ix ce_val (ce_callC (ca_cons ce_ref (ca_cons (ce_cb c_len (ca_cons ce_val ca_nil)) ca_nil))))))
def rs__law_bad_3 (sp__law_draw sp__law_strange : ASp) : AS := asSeq (asForget [] (asSet 3 (aFrz (aOp aPlus (aVal 3) (aLst (aCons (aTup (aCons (aC (.bl true)) (aCons (aVal 2) (aCons (aC (.int 0)) (aNil))))) (aCons (aTup (aCons (aVal 2) (aCons (aC (.bl false)) (aCons (aC (.int 0)) (aNil))))) (aCons (aTup (aCons (aVal 2) (aCons (aVal 2) (aCons (aC (.bl true)) (aNil))))) (aCons (aCall sp__law_strange [] (aCons (aRef 0) (aNil))) (aNil)))))))))) (rs__law_bad_4 sp__law_draw sp__law_strange)
theorem cj_rs__law_bad_3 {sp__law_draw sp__law_strange : ASp} : CS (rs__law_bad_3 sp__law_draw sp__law_strange) := (cs_seq (cs_forget (cs_set (ce_frz (ce_op c_plus ce_val (ce_lst (ca_cons (ce_tup (ca_cons ce_c (ca_cons ce_val (ca_cons ce_c ca_nil)))) (ca_cons (ce_tup (ca_cons ce_val (ca_cons ce_c (ca_cons ce_c ca_nil)))) (ca_cons (ce_tup (ca_cons ce_val (ca_cons ce_val (ca_cons ce_c ca_nil)))) (ca_cons (ce_callC (ca_cons ce_ref ca_nil)) ca_nil))))))))) cj_rs__law_bad_4)
def rs__law_bad_2 (sp__law_draw sp__law_strange : ASp) : AS := asSeq (asForget [] (asSet 3 (aFrz (aLst (aCons (aTup (aCons (aVal 2) (aCons (aVal 1) (aCons (aC (.int 0)) (aNil))))) (aCons (aTup (aCons (aVal 1) (aCons (aVal 2) (aCons (aC (.int 0)) (aNil))))) (aCons (aTup (aCons (aUn aNeg (aC (.int 1))) (aCons (aVal 2) (aCons (aC (.int 0)) (aNil))))) (aCons (aTup (aCons (aVal 2) (aCons (aUn aNeg (aC (.int 1))) (aCons (aC (.int 0)) (aNil))))) (aCons (aTup (aCons (aVal 2) (aCons (aVal 2) (aNil)))) (aCons (aTup (aCons (aVal 2) (aCons (aVal 2) (aCons (aC (.int 0)) (aCons (aC (.int 0)) (aNil)))))) (aCons (aLst (aCons (aVal 2) (aCons (aVal 2) (aCons (aC (.int 0)) (aNil))))) (aCons (aTup (aCons (aVal 2) (aCons (aVal 2) (aCons (aC .non) (aNil))))) (aCons (aTup (aCons (aVal 2) (aCons (aVal 2) (aCons (aC (.str ("0" : Str))) (aNil))))) (aNil)))))))))))))) (rs__law_bad_3 sp__law_draw sp__law_strange)
theorem cj_rs__law_bad_2 {sp__law_draw sp__law_strange : ASp} : CS (rs__law_bad_2 sp__law_draw sp__law_strange) := (cs_seq (cs_forget (cs_set (ce_frz (ce_lst (ca_cons (ce_tup (ca_cons ce_val (ca_cons ce_val (ca_cons ce_c ca_nil)))) (ca_cons (ce_tup (ca_cons ce_val (ca_cons ce_val (ca_cons ce_c ca_nil)))) (ca_cons (ce_tup (ca_cons (ce_un c_neg ce_c) (ca_cons ce_val (ca_cons ce_c ca_nil)))) (ca_cons (ce_tup (ca_cons ce_val (ca_cons (ce_un c_neg ce_c) (ca_cons ce_c ca_nil)))) (ca_cons (ce_tup (ca_cons ce_val (ca_cons ce_val ca_nil))) (ca_cons (ce_tup (ca_cons ce_val (ca_cons ce_val (ca_cons ce_c (ca_cons ce_c ca_nil))))) (ca_cons (ce_lst (ca_cons ce_val (ca_cons ce_val (ca_cons ce_c ca_nil)))) (ca_cons (ce_tup (ca_cons ce_val (ca_cons ce_val (ca_cons ce_c ca_nil)))) (ca_cons (ce_tup (ca_cons ce_val (ca_cons ce_val (ca_cons ce_c ca_nil)))) ca_nil))))))))))))) cj_rs__law_bad_3)
def as__law_bad (sp__law_draw sp__law_strange : ASp) : AS := asSeq (asSet 2 (aCall sp__law_draw [] (aCons (aRef 0) (aCons (aVal 1) (aNil))))) (rs__law_bad_2 sp__law_draw sp__law_strange)
theorem cj__law_bad {sp__law_draw sp__law_strange : ASp} : CS (as__law_bad sp__law_draw sp__law_strange) := (cs_seq (cs_set (ce_callC (ca_cons ce_ref (ca_cons ce_val ca_nil)))) cj_rs__law_bad_2)
def bd_ring_1 (sp_check_facts sp_relaxed sp_ring_behind : ASp) : AS := asSeq (asForget [4, 5] (asSet 4 (aFrz (aCall sp_relaxed [] (aCons (aRef 1) (aCons (aRef 2) (aCons (aRef 3) (aNil))))))))
  (asForget [] (asIf (aTest (aOp aIs (aVal 4) (aC .non))) (asForget [2, 3, 4] (asRet (aC .non))) (asNext)))
theorem cj_bd_ring_1 {sp_check_facts sp_relaxed sp_ring_behind : ASp} : CS (bd_ring_1 sp_check_facts sp_relaxed sp_ring_behind) := (cs_seq (cs_forget (cs_set (ce_frz (ce_callC (ca_cons ce_ref (ca_cons ce_ref (ca_cons ce_ref ca_nil))))))) (cs_forget (cs_if (ct_test (ce_op c_is ce_val ce_c)) (cs_forget (cs_ret ce_c)) cs_next)))
def rs_ring_6 (sp_check_facts sp_relaxed sp_ring_behind : ASp) : AS := asForget [2] (asRet (aCall sp_ring_behind [] (aCons (aVal 0) (aCons (aRef 1) (aCons (aRef 3) (aCons (aVal 4) (aNil)))))))
theorem cj_rs_ring_6 {sp_check_facts sp_relaxed sp_ring_behind : ASp} : CS (rs_ring_6 sp_check_facts sp_relaxed sp_ring_behind) := (cs_forget (cs_ret (ce_callC (ca_cons ce_val (ca_cons ce_ref (ca_cons ce_ref (ca_cons ce_val ca_nil)))))))
def rs_ring_5 (sp_check_facts sp_relaxed sp_ring_behind : ASp) : AS := asSeq (asForget [] (asFor (aiRng1 (aCons (aVal 0) (aNil))) (agName 5) (bd_ring_1 sp_check_facts sp_relaxed sp_ring_behind))) (rs_ring_6 sp_check_facts sp_relaxed sp_ring_behind)
theorem cj_rs_ring_5 {sp_check_facts sp_relaxed sp_ring_behind : ASp} : CS (rs_ring_5 sp_check_facts sp_relaxed sp_ring_behind) := (cs_seq (cs_forget (cs_for (ci_rng1 (ca_cons ce_val ca_nil)) cg_name cj_bd_ring_1)) cj_rs_ring_6)
def rs_ring_4 (sp_check_facts sp_relaxed sp_ring_behind : ASp) : AS := asSeq (asForget [] (asSet 4 (aC .non))) (rs_ring_5 sp_check_facts sp_relaxed sp_ring_behind)
theorem cj_rs_ring_4 {sp_check_facts sp_relaxed sp_ring_behind : ASp} : CS (rs_ring_4 sp_check_facts sp_relaxed sp_ring_behind) := (cs_seq (cs_forget (cs_set ce_c)) cj_rs_ring_5)
def rs_ring_3 (sp_check_facts sp_relaxed sp_ring_behind : ASp) : AS := asSeq (asForget [] (asSet 3 (aOp aRepL (aLst (aCons (aC .non) (aNil))) (aVal 0)))) (rs_ring_4 sp_check_facts sp_relaxed sp_ring_behind)
theorem cj_rs_ring_3 {sp_check_facts sp_relaxed sp_ring_behind : ASp} : CS (rs_ring_3 sp_check_facts sp_relaxed sp_ring_behind) := (cs_seq (cs_forget (cs_set (ce_op c_repL (ce_lst (ca_cons ce_c ca_nil)) ce_val))) cj_rs_ring_4)
def rs_ring_2 (sp_check_facts sp_relaxed sp_ring_behind : ASp) : AS := asSeq (asForget [] (asSet 2 (aOp aRepL (aLst (aCons (aC (.int 0)) (aNil))) (aVal 0)))) (rs_ring_3 sp_check_facts sp_relaxed sp_ring_behind)
theorem cj_rs_ring_2 {sp_check_facts sp_relaxed sp_ring_behind : ASp} : CS (rs_ring_2 sp_check_facts sp_relaxed sp_ring_behind) := (cs_seq (cs_forget (cs_set (ce_op c_repL (ce_lst (ca_cons ce_c ca_nil)) ce_val))) cj_rs_ring_3)
def as_ring (sp_check_facts sp_relaxed sp_ring_behind : ASp) : AS := asSeq (asExpr (aCall sp_check_facts [] (aCons (aVal 0) (aCons (aRef 1) (aNil))))) (rs_ring_2 sp_check_facts sp_relaxed sp_ring_behind)
theorem cj_ring {sp_check_facts sp_relaxed sp_ring_behind : ASp} : CS (as_ring sp_check_facts sp_relaxed sp_ring_behind) := (cs_seq (cs_expr (ce_callC (ca_cons ce_val (ca_cons ce_ref ca_nil)))) cj_rs_ring_2)
def bd_solution_1 (sp_check_facts sp_relaxed : ASp) : AS := asForget [4] (asIf (aTest (aOp aIs (aCall sp_relaxed [] (aCons (aRef 1) (aCons (aRef 2) (aCons (aRef 3) (aNil))))) (aC .non))) (asForget [3] (asRet (aRef 2))) (asNext))
theorem cj_bd_solution_1 {sp_check_facts sp_relaxed : ASp} : CS (bd_solution_1 sp_check_facts sp_relaxed) := (cs_forget (cs_if (ct_test (ce_op c_is (ce_callC (ca_cons ce_ref (ca_cons ce_ref (ca_cons ce_ref ca_nil)))) ce_c)) (cs_forget (cs_ret ce_ref)) cs_next))
def rs_solution_5 (sp_check_facts sp_relaxed : ASp) : AS := asForget [2, 3] (asRet (aC .non))
theorem cj_rs_solution_5 {sp_check_facts sp_relaxed : ASp} : CS (rs_solution_5 sp_check_facts sp_relaxed) := (cs_forget (cs_ret ce_c))
def rs_solution_4 (sp_check_facts sp_relaxed : ASp) : AS := asSeq (asForget [] (asFor (aiRng1 (aCons (aVal 0) (aNil))) (agName 4) (bd_solution_1 sp_check_facts sp_relaxed))) (rs_solution_5 sp_check_facts sp_relaxed)
theorem cj_rs_solution_4 {sp_check_facts sp_relaxed : ASp} : CS (rs_solution_4 sp_check_facts sp_relaxed) := (cs_seq (cs_forget (cs_for (ci_rng1 (ca_cons ce_val ca_nil)) cg_name cj_bd_solution_1)) cj_rs_solution_5)
def rs_solution_3 (sp_check_facts sp_relaxed : ASp) : AS := asSeq (asForget [] (asSet 3 (aOp aRepL (aLst (aCons (aC .non) (aNil))) (aVal 0)))) (rs_solution_4 sp_check_facts sp_relaxed)
theorem cj_rs_solution_3 {sp_check_facts sp_relaxed : ASp} : CS (rs_solution_3 sp_check_facts sp_relaxed) := (cs_seq (cs_forget (cs_set (ce_op c_repL (ce_lst (ca_cons ce_c ca_nil)) ce_val))) cj_rs_solution_4)
def rs_solution_2 (sp_check_facts sp_relaxed : ASp) : AS := asSeq (asForget [] (asSet 2 (aOp aRepL (aLst (aCons (aC (.int 0)) (aNil))) (aVal 0)))) (rs_solution_3 sp_check_facts sp_relaxed)
theorem cj_rs_solution_2 {sp_check_facts sp_relaxed : ASp} : CS (rs_solution_2 sp_check_facts sp_relaxed) := (cs_seq (cs_forget (cs_set (ce_op c_repL (ce_lst (ca_cons ce_c ca_nil)) ce_val))) cj_rs_solution_3)
def as_solution (sp_check_facts sp_relaxed : ASp) : AS := asSeq (asExpr (aCall sp_check_facts [] (aCons (aVal 0) (aCons (aRef 1) (aNil))))) (rs_solution_2 sp_check_facts sp_relaxed)
theorem cj_solution {sp_check_facts sp_relaxed : ASp} : CS (as_solution sp_check_facts sp_relaxed) := (cs_seq (cs_expr (ce_callC (ca_cons ce_val (ca_cons ce_ref ca_nil)))) cj_rs_solution_2)
def bd__law_free_1 (sp__law_draw sp__law_amount : ASp) : AS := asForget [4] (asExpr (aAppend (aRef 3) (aTup (aCons (aCall sp__law_draw [] (aCons (aRef 0) (aCons (aVal 1) (aNil)))) (aCons (aCall sp__law_draw [] (aCons (aRef 0) (aCons (aVal 1) (aNil)))) (aCons (aCall sp__law_amount [] (aCons (aRef 0) (aNil))) (aNil)))))))
theorem cj_bd__law_free_1 {sp__law_draw sp__law_amount : ASp} : CS (bd__law_free_1 sp__law_draw sp__law_amount) := (cs_forget (cs_expr (ce_append ce_ref (ce_tup (ca_cons (ce_callC (ca_cons ce_ref (ca_cons ce_val ca_nil))) (ca_cons (ce_callC (ca_cons ce_ref (ca_cons ce_val ca_nil))) (ca_cons (ce_callC (ca_cons ce_ref ca_nil)) ca_nil)))))))
def rs__law_free_3 (sp__law_draw sp__law_amount : ASp) : AS := asForget [] (asRet (aRef 3))
theorem cj_rs__law_free_3 {sp__law_draw sp__law_amount : ASp} : CS (rs__law_free_3 sp__law_draw sp__law_amount) := (cs_forget (cs_ret ce_ref))
def rs__law_free_2 (sp__law_draw sp__law_amount : ASp) : AS := asSeq (asForget [] (asFor (aiRng1 (aCons (aVal 2) (aNil))) (agName 4) (bd__law_free_1 sp__law_draw sp__law_amount))) (rs__law_free_3 sp__law_draw sp__law_amount)
theorem cj_rs__law_free_2 {sp__law_draw sp__law_amount : ASp} : CS (rs__law_free_2 sp__law_draw sp__law_amount) := (cs_seq (cs_forget (cs_for (ci_rng1 (ca_cons ce_val ca_nil)) cg_name cj_bd__law_free_1)) cj_rs__law_free_3)
def as__law_free (sp__law_draw sp__law_amount : ASp) : AS := asSeq (asSet 3 (aLst (aNil))) (rs__law_free_2 sp__law_draw sp__law_amount)
theorem cj__law_free {sp__law_draw sp__law_amount : ASp} : CS (as__law_free sp__law_draw sp__law_amount) := (cs_seq (cs_set (ce_lst ca_nil)) cj_rs__law_free_2)
def bd__law_looped_1 (sp__law_draw sp__law_amount : ASp) : AS := asAfter [4, 7] (asSeq (asForget [] (asSet 7 (aCall sp__law_amount [] (aCons (aRef 0) (aNil)))))
  (asSeq (asForget [] (asIf (aTest (aOp aEq (aVal 4) (aOp aSub (aCB aLen (aCons (aVal 3) (aNil))) (aC (.int 1))))) (asForget [7] (asSet 7 (aVal 5))) (asNext)))
  (asSeq (asForget [] (asSet 5 (aOp aSub (aVal 5) (aVal 7))))
  (asForget [] (asExpr (aInsert (aRef 6) (aCall sp__law_draw [] (aCons (aRef 0) (aCons (aOp aPlus (aCB aLen (aCons (aRef 6) (aNil))) (aC (.int 1))) (aNil)))) (aTup (aCons (aOp aIx (aVal 3) (aVal 4)) (aCons (aOp aIx (aVal 3) (aOp aMod (aOp aPlus (aVal 4) (aC (.int 1))) (aCB aLen (aCons (aVal 3) (aNil))))) (aCons (aVal 7) (aNil)))))))))))
theorem cj_bd__law_looped_1 {sp__law_draw sp__law_amount : ASp} : CS (bd__law_looped_1 sp__law_draw sp__law_amount) := (cs_after (cs_seq (cs_forget (cs_set (ce_callC (ca_cons ce_ref ca_nil)))) (cs_seq (cs_forget (cs_if (ct_test (ce_op c_eq ce_val (ce_op c_sub (ce_cb c_len (ca_cons ce_val ca_nil)) ce_c))) (cs_forget (cs_set ce_val)) cs_next)) (cs_seq (cs_forget (cs_set (ce_op c_sub ce_val ce_val))) (cs_forget (cs_expr (ce_insert ce_ref (ce_callC (ca_cons ce_ref (ca_cons (ce_op c_plus (ce_cb c_len (ca_cons ce_ref ca_nil)) ce_c) ca_nil))) (ce_tup (ca_cons (ce_op c_ix ce_val ce_val) (ca_cons (ce_op c_ix ce_val (ce_op c_mod (ce_op c_plus ce_val ce_c) (ce_cb c_len (ca_cons ce_val ca_nil)))) (ca_cons ce_val ca_nil)))))))))))
def rs__law_looped_5 (sp__law_draw sp__law_amount : ASp) : AS := asForget [3, 5] (asRet (aRef 6))
theorem cj_rs__law_looped_5 {sp__law_draw sp__law_amount : ASp} : CS (rs__law_looped_5 sp__law_draw sp__law_amount) := (cs_forget (cs_ret ce_ref))
def rs__law_looped_4 (sp__law_draw sp__law_amount : ASp) : AS := asSeq (asForget [] (asFor (aiRng1 (aCons (aCB aLen (aCons (aVal 3) (aNil))) (aNil))) (agName 4) (bd__law_looped_1 sp__law_draw sp__law_amount))) (rs__law_looped_5 sp__law_draw sp__law_amount)
theorem cj_rs__law_looped_4 {sp__law_draw sp__law_amount : ASp} : CS (rs__law_looped_4 sp__law_draw sp__law_amount) := (cs_seq (cs_forget (cs_for (ci_rng1 (ca_cons (ce_cb c_len (ca_cons ce_val ca_nil)) ca_nil)) cg_name cj_bd__law_looped_1)) cj_rs__law_looped_5)
def rs__law_looped_3 (sp__law_draw sp__law_amount : ASp) : AS := asSeq (asForget [] (asSet 6 (aCB aList (aCons (aVal 2) (aNil))))) (rs__law_looped_4 sp__law_draw sp__law_amount)
theorem cj_rs__law_looped_3 {sp__law_draw sp__law_amount : ASp} : CS (rs__law_looped_3 sp__law_draw sp__law_amount) := (cs_seq (cs_forget (cs_set (ce_cb c_list (ca_cons ce_val ca_nil)))) cj_rs__law_looped_4)
def rs__law_looped_2 (sp__law_draw sp__law_amount : ASp) : AS := asSeq (asForget [] (asSet 5 (aUn aNeg (aC (.int 1))))) (rs__law_looped_3 sp__law_draw sp__law_amount)
theorem cj_rs__law_looped_2 {sp__law_draw sp__law_amount : ASp} : CS (rs__law_looped_2 sp__law_draw sp__law_amount) := (cs_seq (cs_forget (cs_set (ce_un c_neg ce_c))) cj_rs__law_looped_3)
def as__law_looped (sp__law_draw sp__law_amount : ASp) : AS := asSeq (asForget [4] (asSet 3 (aFrz (aLc (aiRng1 (aCons (aOp aPlus (aC (.int 1)) (aCall sp__law_draw [] (aCons (aRef 0) (aCons (aC (.int 6)) (aNil))))) (aNil))) (agName 4) (atYes) (aCall sp__law_draw [] (aCons (aRef 0) (aCons (aVal 1) (aNil)))) [4])))) (rs__law_looped_2 sp__law_draw sp__law_amount)
theorem cj__law_looped {sp__law_draw sp__law_amount : ASp} : CS (as__law_looped sp__law_draw sp__law_amount) := (cs_seq (cs_forget (cs_set (ce_frz (ce_lc (ci_rng1 (ca_cons (ce_op c_plus ce_c (ce_callC (ca_cons ce_ref (ca_cons ce_c ca_nil)))) ca_nil)) cg_name ct_yes (ce_callC (ca_cons ce_ref (ca_cons ce_val ca_nil))))))) cj_rs__law_looped_2)
def rs__law_refused_4 (K : Fg) (C_BadFact : Addr) (sp_ring sp_solution : ASp) : AS := asForget [3] (asRet (aRef 2))
theorem cj_rs__law_refused_4 {K : Fg} {C_BadFact : Addr} {sp_ring sp_solution : ASp} : CS (rs__law_refused_4 K C_BadFact sp_ring sp_solution) := (cs_forget (cs_ret ce_ref))
def rs__law_refused_3 (K : Fg) (C_BadFact : Addr) (sp_ring sp_solution : ASp) : AS := asSeq (asForget [3] (asTryS K C_BadFact 3 (asSeq (asForget [] (asExpr (aCall sp_solution [] (aCons (aVal 0) (aCons (aRef 1) (aNil))))))
  (asForget [] (asExpr (aAppend (aRef 2) (aTup (aCons (aC (.str ("told" : Str))) (aCons (aC (.int 0)) (aNil)))))))) (fun fs => asForget [] (asExpr (aAppend (aRef 2) (aTup (aCons (aC (.str ("fact" : Str))) (aCons (aXf fs ("at" : Str)) (aNil))))))))) (rs__law_refused_4 K C_BadFact sp_ring sp_solution)
theorem cj_rs__law_refused_3 {K : Fg} {C_BadFact : Addr} {sp_ring sp_solution : ASp} : CS (rs__law_refused_3 K C_BadFact sp_ring sp_solution) := (cs_seq (cs_forget (cs_tryS (cs_seq (cs_forget (cs_expr (ce_callC (ca_cons ce_val (ca_cons ce_ref ca_nil))))) (cs_forget (cs_expr (ce_append ce_ref (ce_tup (ca_cons ce_c (ca_cons ce_c ca_nil))))))) (fun fs => (cs_forget (cs_expr (ce_append ce_ref (ce_tup (ca_cons ce_c (ca_cons ce_xf ca_nil))))))))) cj_rs__law_refused_4)
def rs__law_refused_2 (K : Fg) (C_BadFact : Addr) (sp_ring sp_solution : ASp) : AS := asSeq (asForget [] (asTryS K C_BadFact 3 (asSeq (asForget [] (asExpr (aCall sp_ring [] (aCons (aVal 0) (aCons (aRef 1) (aNil))))))
  (asForget [] (asExpr (aAppend (aRef 2) (aTup (aCons (aC (.str ("told" : Str))) (aCons (aC (.int 0)) (aNil)))))))) (fun fs => asForget [] (asExpr (aAppend (aRef 2) (aTup (aCons (aC (.str ("fact" : Str))) (aCons (aXf fs ("at" : Str)) (aNil))))))))) (rs__law_refused_3 K C_BadFact sp_ring sp_solution)
theorem cj_rs__law_refused_2 {K : Fg} {C_BadFact : Addr} {sp_ring sp_solution : ASp} : CS (rs__law_refused_2 K C_BadFact sp_ring sp_solution) := (cs_seq (cs_forget (cs_tryS (cs_seq (cs_forget (cs_expr (ce_callC (ca_cons ce_val (ca_cons ce_ref ca_nil))))) (cs_forget (cs_expr (ce_append ce_ref (ce_tup (ca_cons ce_c (ca_cons ce_c ca_nil))))))) (fun fs => (cs_forget (cs_expr (ce_append ce_ref (ce_tup (ca_cons ce_c (ca_cons ce_xf ca_nil))))))))) cj_rs__law_refused_3)
def as__law_refused (K : Fg) (C_BadFact : Addr) (sp_ring sp_solution : ASp) : AS := asSeq (asSet 2 (aLst (aNil))) (rs__law_refused_2 K C_BadFact sp_ring sp_solution)
theorem cj__law_refused {K : Fg} {C_BadFact : Addr} {sp_ring sp_solution : ASp} : CS (as__law_refused K C_BadFact sp_ring sp_solution) := (cs_seq (cs_set (ce_lst ca_nil)) cj_rs__law_refused_2)
def bd__law_refuses_1 (sp__law_draw sp__law_bad sp__law_is_fact sp__law_refused : ASp) : AS := asForget [] (asExpr (aInsert (aRef 3) (aCall sp__law_draw [] (aCons (aRef 0) (aCons (aOp aPlus (aCB aLen (aCons (aRef 3) (aNil))) (aC (.int 1))) (aNil)))) (aCall sp__law_bad [] (aCons (aRef 0) (aCons (aVal 1) (aNil))))))
theorem cj_bd__law_refuses_1 {sp__law_draw sp__law_bad sp__law_is_fact sp__law_refused : ASp} : CS (bd__law_refuses_1 sp__law_draw sp__law_bad sp__law_is_fact sp__law_refused) := (cs_forget (cs_expr (ce_insert ce_ref (ce_callC (ca_cons ce_ref (ca_cons (ce_op c_plus (ce_cb c_len (ca_cons ce_ref ca_nil)) ce_c) ca_nil))) (ce_callC (ca_cons ce_ref (ca_cons ce_val ca_nil))))))
def rs__law_refuses_6 (sp__law_draw sp__law_bad sp__law_is_fact sp__law_refused : ASp) : AS := asForget [5] (asRet (aAnd (aOp aEq (aCall sp__law_refused [] (aCons (aVal 1) (aCons (aRef 3) (aNil)))) (aLst (aCons (aVal 6) (aCons (aVal 6) (aNil))))) (aOp aEq (aCall sp__law_refused [] (aCons (aVal 1) (aCons (aCB aList (aCons (aVal 2) (aNil))) (aNil)))) (aLst (aCons (aTup (aCons (aC (.str ("told" : Str))) (aCons (aC (.int 0)) (aNil)))) (aCons (aTup (aCons (aC (.str ("told" : Str))) (aCons (aC (.int 0)) (aNil)))) (aNil)))))))
theorem cj_rs__law_refuses_6 {sp__law_draw sp__law_bad sp__law_is_fact sp__law_refused : ASp} : CS (rs__law_refuses_6 sp__law_draw sp__law_bad sp__law_is_fact sp__law_refused) := (cs_forget (cs_ret (ce_and (ce_op c_eq (ce_callC (ca_cons ce_val (ca_cons ce_ref ca_nil))) (ce_lst (ca_cons ce_val (ca_cons ce_val ca_nil)))) (ce_op c_eq (ce_callC (ca_cons ce_val (ca_cons (ce_cb c_list (ca_cons ce_val ca_nil)) ca_nil))) (ce_lst (ca_cons (ce_tup (ca_cons ce_c (ca_cons ce_c ca_nil))) (ca_cons (ce_tup (ca_cons ce_c (ca_cons ce_c ca_nil))) ca_nil)))))))
def rs__law_refuses_5 (sp__law_draw sp__law_bad sp__law_is_fact sp__law_refused : ASp) : AS := asSeq (asForget [] (asIf (aTest (aOp aGt (aCB aLen (aCons (aVal 5) (aNil))) (aC (.int 0)))) (asForget [6] (asSet 6 (aTup (aCons (aC (.str ("fact" : Str))) (aCons (aOp aIx (aVal 5) (aC (.int 0))) (aNil)))))) (asNext))) (rs__law_refuses_6 sp__law_draw sp__law_bad sp__law_is_fact sp__law_refused)
theorem cj_rs__law_refuses_5 {sp__law_draw sp__law_bad sp__law_is_fact sp__law_refused : ASp} : CS (rs__law_refuses_5 sp__law_draw sp__law_bad sp__law_is_fact sp__law_refused) := (cs_seq (cs_forget (cs_if (ct_test (ce_op c_gt (ce_cb c_len (ca_cons ce_val ca_nil)) ce_c)) (cs_forget (cs_set (ce_tup (ca_cons ce_c (ca_cons (ce_op c_ix ce_val ce_c) ca_nil))))) cs_next)) cj_rs__law_refuses_6)
def rs__law_refuses_4 (sp__law_draw sp__law_bad sp__law_is_fact sp__law_refused : ASp) : AS := asSeq (asForget [4] (asSet 6 (aTup (aCons (aC (.str ("told" : Str))) (aCons (aC (.int 0)) (aNil)))))) (rs__law_refuses_5 sp__law_draw sp__law_bad sp__law_is_fact sp__law_refused)
theorem cj_rs__law_refuses_4 {sp__law_draw sp__law_bad sp__law_is_fact sp__law_refused : ASp} : CS (rs__law_refuses_4 sp__law_draw sp__law_bad sp__law_is_fact sp__law_refused) := (cs_seq (cs_forget (cs_set (ce_tup (ca_cons ce_c (ca_cons ce_c ca_nil))))) cj_rs__law_refuses_5)
def rs__law_refuses_3 (sp__law_draw sp__law_bad sp__law_is_fact sp__law_refused : ASp) : AS := asSeq (asForget [4] (asSet 5 (aFrz (aLc (aiRng1 (aCons (aCB aLen (aCons (aRef 3) (aNil))) (aNil))) (agName 4) (atNot (aTest (aCall sp__law_is_fact [] (aCons (aVal 1) (aCons (aOp aIx (aRef 3) (aVal 4)) (aNil)))))) (aVal 4) [4])))) (rs__law_refuses_4 sp__law_draw sp__law_bad sp__law_is_fact sp__law_refused)
theorem cj_rs__law_refuses_3 {sp__law_draw sp__law_bad sp__law_is_fact sp__law_refused : ASp} : CS (rs__law_refuses_3 sp__law_draw sp__law_bad sp__law_is_fact sp__law_refused) := (cs_seq (cs_forget (cs_set (ce_frz (ce_lc (ci_rng1 (ca_cons (ce_cb c_len (ca_cons ce_ref ca_nil)) ca_nil)) cg_name (ct_not (ct_test (ce_callC (ca_cons ce_val (ca_cons (ce_op c_ix ce_ref ce_val) ca_nil))))) ce_val)))) cj_rs__law_refuses_4)
def rs__law_refuses_2 (sp__law_draw sp__law_bad sp__law_is_fact sp__law_refused : ASp) : AS := asSeq (asForget [] (asFor (aiRng1 (aCons (aOp aPlus (aC (.int 1)) (aCall sp__law_draw [] (aCons (aRef 0) (aCons (aC (.int 2)) (aNil))))) (aNil))) (agName 4) (bd__law_refuses_1 sp__law_draw sp__law_bad sp__law_is_fact sp__law_refused))) (rs__law_refuses_3 sp__law_draw sp__law_bad sp__law_is_fact sp__law_refused)
theorem cj_rs__law_refuses_2 {sp__law_draw sp__law_bad sp__law_is_fact sp__law_refused : ASp} : CS (rs__law_refuses_2 sp__law_draw sp__law_bad sp__law_is_fact sp__law_refused) := (cs_seq (cs_forget (cs_for (ci_rng1 (ca_cons (ce_op c_plus ce_c (ce_callC (ca_cons ce_ref (ca_cons ce_c ca_nil)))) ca_nil)) cg_name cj_bd__law_refuses_1)) cj_rs__law_refuses_3)
def as__law_refuses (sp__law_draw sp__law_bad sp__law_is_fact sp__law_refused : ASp) : AS := asSeq (asSet 3 (aCB aList (aCons (aVal 2) (aNil)))) (rs__law_refuses_2 sp__law_draw sp__law_bad sp__law_is_fact sp__law_refused)
theorem cj__law_refuses {sp__law_draw sp__law_bad sp__law_is_fact sp__law_refused : ASp} : CS (as__law_refuses sp__law_draw sp__law_bad sp__law_is_fact sp__law_refused) := (cs_seq (cs_set (ce_cb c_list (ca_cons ce_val ca_nil))) cj_rs__law_refuses_2)
def bd_law_1 (sp__law_state sp__law_draw sp__law_size sp__law_planted sp__law_free sp__law_looped sp_ring sp_solution sp__law_keeps sp__law_is_closed sp_is_ring sp__law_refuses : ASp) : AS := asAfter [3, 6] (asSeq (asForget [2] (asSet 3 (aOp aPlus (aC (.int 1)) (aCall sp__law_draw [] (aCons (aRef 1) (aCons (aC (.int 14)) (aNil)))))))
  (asSeq (asForget [] (asSet 4 (aCall sp__law_draw [] (aCons (aRef 1) (aCons (aC (.int 3)) (aNil))))))
  (asSeq (asForget [] (asSet 5 (aFrz (aCall sp__law_size [] (aCons (aRef 1) (aNil))))))
  (asSeq (asForget [] (asIf (aTest (aOp aEq (aVal 4) (aC (.int 0)))) (asForget [] (asSet 6 (aFrz (aCall sp__law_planted [] (aCons (aRef 1) (aCons (aVal 3) (aCons (aVal 5) (aNil)))))))) (asForget [] (asSet 6 (aFrz (aCall sp__law_free [] (aCons (aRef 1) (aCons (aVal 3) (aCons (aVal 5) (aNil))))))))))
  (asSeq (asForget [5] (asIf (aTest (aOp aEq (aVal 4) (aC (.int 1)))) (asForget [] (asSet 6 (aFrz (aCall sp__law_looped [] (aCons (aRef 1) (aCons (aVal 3) (aCons (aFrz (aSlice (aVal 6) (aoNone) (aoSome (aC (.int 74))))) (aNil)))))))) (asNext)))
  (asSeq (asForget [] (asSet 7 (aCB aList (aCons (aVal 6) (aNil)))))
  (asSeq (asForget [] (asSet 8 (aFrz (aCall sp_ring [] (aCons (aVal 3) (aCons (aRef 7) (aNil)))))))
  (asSeq (asForget [] (asSet 9 (aFrz (aCall sp_solution [] (aCons (aVal 3) (aCons (aRef 7) (aNil)))))))
  (asSeq (asForget [] (asIf (atOr (aTest (aOp aNe (aRef 7) (aVal 6))) (aTest (aOp aEq (aOp aIs (aVal 8) (aC .non)) (aOp aIs (aVal 9) (aC .non))))) (asForget [1, 3, 4, 6, 7, 8, 9] (asRet (aC (.bl false)))) (asNext)))
  (asSeq (asForget [] (asIf (atOr (aTest (aOp aNe (aCall sp_ring [] (aCons (aVal 3) (aCons (aRef 7) (aNil)))) (aVal 8))) (aTest (aOp aNe (aCall sp_solution [] (aCons (aVal 3) (aCons (aRef 7) (aNil)))) (aVal 9)))) (asForget [1, 3, 4, 6, 7, 8, 9] (asRet (aC (.bl false)))) (asNext)))
  (asSeq (asForget [7] (asIf (atAnd (aTest (aOp aLt (aVal 4) (aC (.int 2)))) (aTest (aOp aNe (aOp aIs (aVal 8) (aC .non)) (aOp aEq (aVal 4) (aC (.int 0)))))) (asForget [1, 3, 4, 6, 8, 9] (asRet (aC (.bl false)))) (asNext)))
  (asSeq (asForget [4] (asIf (atAnd (aTest (aOp aIs (aVal 8) (aC .non))) (atNot (aTest (aCall sp__law_keeps [] (aCons (aVal 3) (aCons (aVal 6) (aCons (aVal 9) (aNil)))))))) (asForget [1, 3, 6, 8, 9] (asRet (aC (.bl false)))) (asNext)))
  (asSeq (asForget [9] (asIf (atAnd (aTest (aOp aIsNot (aVal 8) (aC .non))) (atOr (atNot (aTest (aCall sp__law_is_closed [] (aCons (aVal 6) (aCons (aVal 8) (aNil)))))) (aTest (aOp aIsNotB (aCall sp_is_ring [] (aCons (aVal 6) (aCons (aVal 8) (aNil)))) (aC (.bl true)))))) (asForget [1, 3, 6, 8] (asRet (aC (.bl false)))) (asNext)))
  (asForget [8] (asIf (atNot (aTest (aCall sp__law_refuses [] (aCons (aRef 1) (aCons (aVal 3) (aCons (aFrz (aSlice (aVal 6) (aoNone) (aoSome (aC (.int 20))))) (aNil))))))) (asForget [1, 3, 6] (asRet (aC (.bl false)))) (asNext))))))))))))))))
theorem cj_bd_law_1 {sp__law_state sp__law_draw sp__law_size sp__law_planted sp__law_free sp__law_looped sp_ring sp_solution sp__law_keeps sp__law_is_closed sp_is_ring sp__law_refuses : ASp} : CS (bd_law_1 sp__law_state sp__law_draw sp__law_size sp__law_planted sp__law_free sp__law_looped sp_ring sp_solution sp__law_keeps sp__law_is_closed sp_is_ring sp__law_refuses) := (cs_after (cs_seq (cs_forget (cs_set (ce_op c_plus ce_c (ce_callC (ca_cons ce_ref (ca_cons ce_c ca_nil)))))) (cs_seq (cs_forget (cs_set (ce_callC (ca_cons ce_ref (ca_cons ce_c ca_nil))))) (cs_seq (cs_forget (cs_set (ce_frz (ce_callC (ca_cons ce_ref ca_nil))))) (cs_seq (cs_forget (cs_if (ct_test (ce_op c_eq ce_val ce_c)) (cs_forget (cs_set (ce_frz (ce_callC (ca_cons ce_ref (ca_cons ce_val (ca_cons ce_val ca_nil))))))) (cs_forget (cs_set (ce_frz (ce_callC (ca_cons ce_ref (ca_cons ce_val (ca_cons ce_val ca_nil))))))))) (cs_seq (cs_forget (cs_if (ct_test (ce_op c_eq ce_val ce_c)) (cs_forget (cs_set (ce_frz (ce_callC (ca_cons ce_ref (ca_cons ce_val (ca_cons (ce_frz (ce_slice ce_val co_none (co_some ce_c))) ca_nil))))))) cs_next)) (cs_seq (cs_forget (cs_set (ce_cb c_list (ca_cons ce_val ca_nil)))) (cs_seq (cs_forget (cs_set (ce_frz (ce_callC (ca_cons ce_val (ca_cons ce_ref ca_nil)))))) (cs_seq (cs_forget (cs_set (ce_frz (ce_callC (ca_cons ce_val (ca_cons ce_ref ca_nil)))))) (cs_seq (cs_forget (cs_if (ct_or (ct_test (ce_op c_ne ce_ref ce_val)) (ct_test (ce_op c_eq (ce_op c_is ce_val ce_c) (ce_op c_is ce_val ce_c)))) (cs_forget (cs_ret ce_c)) cs_next)) (cs_seq (cs_forget (cs_if (ct_or (ct_test (ce_op c_ne (ce_callC (ca_cons ce_val (ca_cons ce_ref ca_nil))) ce_val)) (ct_test (ce_op c_ne (ce_callC (ca_cons ce_val (ca_cons ce_ref ca_nil))) ce_val))) (cs_forget (cs_ret ce_c)) cs_next)) (cs_seq (cs_forget (cs_if (ct_and (ct_test (ce_op c_lt ce_val ce_c)) (ct_test (ce_op c_ne (ce_op c_is ce_val ce_c) (ce_op c_eq ce_val ce_c)))) (cs_forget (cs_ret ce_c)) cs_next)) (cs_seq (cs_forget (cs_if (ct_and (ct_test (ce_op c_is ce_val ce_c)) (ct_not (ct_test (ce_callC (ca_cons ce_val (ca_cons ce_val (ca_cons ce_val ca_nil))))))) (cs_forget (cs_ret ce_c)) cs_next)) (cs_seq (cs_forget (cs_if (ct_and (ct_test (ce_op c_isNot ce_val ce_c)) (ct_or (ct_not (ct_test (ce_callC (ca_cons ce_val (ca_cons ce_val ca_nil))))) (ct_test (ce_op c_isNotTB (ce_callC (ca_cons ce_val (ca_cons ce_val ca_nil))) ce_c)))) (cs_forget (cs_ret ce_c)) cs_next)) (cs_forget (cs_if (ct_not (ct_test (ce_callC (ca_cons ce_ref (ca_cons ce_val (ca_cons (ce_frz (ce_slice ce_val co_none (co_some ce_c))) ca_nil)))))) (cs_forget (cs_ret ce_c)) cs_next))))))))))))))))
def rs_law_3 (sp__law_state sp__law_draw sp__law_size sp__law_planted sp__law_free sp__law_looped sp_ring sp_solution sp__law_keeps sp__law_is_closed sp_is_ring sp__law_refuses : ASp) : AS := asForget [1] (asRet (aC (.bl true)))
theorem cj_rs_law_3 {sp__law_state sp__law_draw sp__law_size sp__law_planted sp__law_free sp__law_looped sp_ring sp_solution sp__law_keeps sp__law_is_closed sp_is_ring sp__law_refuses : ASp} : CS (rs_law_3 sp__law_state sp__law_draw sp__law_size sp__law_planted sp__law_free sp__law_looped sp_ring sp_solution sp__law_keeps sp__law_is_closed sp_is_ring sp__law_refuses) := (cs_forget (cs_ret ce_c))
def rs_law_2 (sp__law_state sp__law_draw sp__law_size sp__law_planted sp__law_free sp__law_looped sp_ring sp_solution sp__law_keeps sp__law_is_closed sp_is_ring sp__law_refuses : ASp) : AS := asSeq (asForget [] (asFor (aiRng1 (aCons (aOp aPlus (aC (.int 1)) (aCall sp__law_draw [] (aCons (aRef 1) (aCons (aC (.int 6)) (aNil))))) (aNil))) (agName 2) (bd_law_1 sp__law_state sp__law_draw sp__law_size sp__law_planted sp__law_free sp__law_looped sp_ring sp_solution sp__law_keeps sp__law_is_closed sp_is_ring sp__law_refuses))) (rs_law_3 sp__law_state sp__law_draw sp__law_size sp__law_planted sp__law_free sp__law_looped sp_ring sp_solution sp__law_keeps sp__law_is_closed sp_is_ring sp__law_refuses)
theorem cj_rs_law_2 {sp__law_state sp__law_draw sp__law_size sp__law_planted sp__law_free sp__law_looped sp_ring sp_solution sp__law_keeps sp__law_is_closed sp_is_ring sp__law_refuses : ASp} : CS (rs_law_2 sp__law_state sp__law_draw sp__law_size sp__law_planted sp__law_free sp__law_looped sp_ring sp_solution sp__law_keeps sp__law_is_closed sp_is_ring sp__law_refuses) := (cs_seq (cs_forget (cs_for (ci_rng1 (ca_cons (ce_op c_plus ce_c (ce_callC (ca_cons ce_ref (ca_cons ce_c ca_nil)))) ca_nil)) cg_name cj_bd_law_1)) cj_rs_law_3)
def as_law (sp__law_state sp__law_draw sp__law_size sp__law_planted sp__law_free sp__law_looped sp_ring sp_solution sp__law_keeps sp__law_is_closed sp_is_ring sp__law_refuses : ASp) : AS := asSeq (asSet 1 (aCall sp__law_state [] (aCons (aVal 0) (aNil)))) (rs_law_2 sp__law_state sp__law_draw sp__law_size sp__law_planted sp__law_free sp__law_looped sp_ring sp_solution sp__law_keeps sp__law_is_closed sp_is_ring sp__law_refuses)
theorem cj_law {sp__law_state sp__law_draw sp__law_size sp__law_planted sp__law_free sp__law_looped sp_ring sp_solution sp__law_keeps sp__law_is_closed sp_is_ring sp__law_refuses : ASp} : CS (as_law sp__law_state sp__law_draw sp__law_size sp__law_planted sp__law_free sp__law_looped sp_ring sp_solution sp__law_keeps sp__law_is_closed sp_is_ring sp__law_refuses) := (cs_seq (cs_set (ce_callC (ca_cons ce_val ca_nil))) cj_rs_law_2)
structure Gm where
  K : Fg
  C_BadFact : Addr
class Gok (g : Gm) : Prop where
  xm_BadFact_BadFact : PySem.W.exmOne g.K (.ref g.C_BadFact) (.ref g.C_BadFact) = some true
def S_is_integer (g : Gm) : ASp := spS (as_is_integer g.K) [0] 1 1
def S_relaxed (g : Gm) : ASp := spS (as_relaxed ) [0, 1, 2] 8 3
def S_ring_behind (g : Gm) : ASp := spS (as_ring_behind ) [0, 1, 2, 3] 8 4
def S__law_state (g : Gm) : ASp := spS (as__law_state ) [0] 1 1
def S__law_draw (g : Gm) : ASp := spS (as__law_draw ) [0, 1] 5 2
def S__law_is_integer (g : Gm) : ASp := spS (as__law_is_integer g.K) [0] 1 1
def S_is_fact (g : Gm) : ASp := spS (as_is_fact g.K (S_is_integer g)) [0, 1] 3 2
def S_is_ring (g : Gm) : ASp := spS (as_is_ring g.K (S_is_integer g)) [0, 1] 5 2
def S__law_number (g : Gm) : ASp := spS (as__law_number (S__law_draw g)) [0] 2 1
def S__law_strange (g : Gm) : ASp := spS (as__law_strange g.K (S__law_draw g)) [0] 4 1
def S__law_size (g : Gm) : ASp := spS (as__law_size (S__law_draw g)) [0] 2 1
def S__law_is_closed (g : Gm) : ASp := spS (as__law_is_closed g.K (S__law_is_integer g)) [0, 1] 5 2
def S__law_keeps (g : Gm) : ASp := spS (as__law_keeps g.K (S__law_is_integer g)) [0, 1, 2] 7 3
def S__law_is_fact (g : Gm) : ASp := spS (as__law_is_fact g.K (S__law_is_integer g)) [0, 1] 3 2
def S_check_facts (g : Gm) : ASp := spS (as_check_facts g.C_BadFact (S_is_fact g)) [0, 1] 4 2
def S__law_amount (g : Gm) : ASp := spS (as__law_amount (S__law_draw g) (S__law_number g)) [0] 1 1
def S__law_planted (g : Gm) : ASp := spS (as__law_planted (S__law_number g) (S__law_draw g)) [0, 1, 2] 8 3
def S__law_bad (g : Gm) : ASp := spS (as__law_bad (S__law_draw g) (S__law_strange g)) [0, 1] 4 2
def S_ring (g : Gm) : ASp := spS (as_ring (S_check_facts g) (S_relaxed g) (S_ring_behind g)) [0, 1] 6 2
def S_solution (g : Gm) : ASp := spS (as_solution (S_check_facts g) (S_relaxed g)) [0, 1] 5 2
def S__law_free (g : Gm) : ASp := spS (as__law_free (S__law_draw g) (S__law_amount g)) [0, 1, 2] 5 3
def S__law_looped (g : Gm) : ASp := spS (as__law_looped (S__law_draw g) (S__law_amount g)) [0, 1, 2] 8 3
def S__law_refused (g : Gm) : ASp := spS (as__law_refused g.K g.C_BadFact (S_ring g) (S_solution g)) [0, 1] 4 2
def S__law_refuses (g : Gm) : ASp := spS (as__law_refuses (S__law_draw g) (S__law_bad g) (S__law_is_fact g) (S__law_refused g)) [0, 1, 2] 7 3
def S_law (g : Gm) : ASp := spS (as_law (S__law_state g) (S__law_draw g) (S__law_size g) (S__law_planted g) (S__law_free g) (S__law_looped g) (S_ring g) (S_solution g) (S__law_keeps g) (S__law_is_closed g) (S_is_ring g) (S__law_refuses g)) [0] 10 1
end Law

set_option Elab.async false
set_option linter.all false
set_option maxRecDepth 100000
set_option maxHeartbeats 0
namespace Law
open PySem PySem.Spec PyProof.Rows L2 Vs
abbrev FnP (K : PySem.W.Frag) (x q : Str) (st : Stmt) (dv : List V) (f : Addr) (fd : FuncData) : Prop := FunD K x q (defArgs st) (defBody st) (defScope st) dv [] f fd
theorem bt_int : bootBuiltins "int" = some (.type "int") := by decide +kernel
theorem bt_bool : bootBuiltins "bool" = some (.type "bool") := by decide +kernel
theorem bt_str : bootBuiltins "str" = some (.type "str") := by decide +kernel
theorem bt_list : bootBuiltins "list" = some (.type "list") := by decide +kernel
theorem bt_tuple : bootBuiltins "tuple" = some (.type "tuple") := by decide +kernel
theorem bt_dict : bootBuiltins "dict" = some (.type "dict") := by decide +kernel
section
variable {Pr : Program} {w : World} {K : PySem.W.Frag} {mg : Str → Option Value} {base : Heap}

abbrev s_is_integer : Stmt := top 4
theorem sc_is_integer : FnScope ["value"] ["value"] (defScope s_is_integer) := ⟨rfl, rfl, rfl, by decide +kernel, rfl, by decide +kernel, by decide +kernel⟩
theorem wk_is_integer {f : Addr} {fd : FuncData} {sp : ASp} (g_isinstance : mg ("isinstance" : Str) = none) (g_int : mg ("int" : Str) = none) (g_bool : mg ("bool" : Str) = none) (F : FnP K ("is_integer" : Str) ("is_integer" : Str) s_is_integer [] f fd) (hlen : ∀ xs, sp.pre xs → xs.length = 1)
    (rd : ∀ xs, sp.pre xs → as_is_integer K (endsOf [0] sp xs) (startA 1 xs)) : Fok Pr w K mg base 1 f fd ["value"] sp := by
  refine fn_mk (N := ["value"]) (k := 0) [0] F sc_is_integer hlen (by decide) (fun cdv Ar outer s H E hr => ⟨as_is_integer K, ?_, rd⟩)
  have hx := fun σ => passAt (X := cxOf (L2.CX Pr w) Pr w K mg base ["value"] ("is_integer" : Str) (defScope s_is_integer) f cdv Ar outer s H E) (W := fun cls d _ H => E cls d H) (takes_of rfl rfl rfl rfl) σ
  have hp : PassesOwn _ _ _ (cxOf (L2.CX Pr w) Pr w K mg base ["value"] ("is_integer" : Str) (defScope s_is_integer) f cdv Ar outer s H E).xe := passes_of rfl
  have tk := takes_of (X := cxOf (L2.CX Pr w) Pr w K mg base ["value"] ("is_integer" : Str) (defScope s_is_integer) f cdv Ar outer s H E) rfl rfl rfl rfl
  have hu := hr.units
  have sc := sc_is_integer
  exact (qss_one (qs_ret (qe_and (qe_isi rfl g_isinstance (qv 0) (qc_ty rfl g_int bt_int)) (qe_one (qe_not (qe_isi rfl g_isinstance (qv 0) (qc_ty rfl g_bool bt_bool)))))))
abbrev s_relaxed : Stmt := top 8
theorem sc_relaxed : FnScope ["facts", "values", "origins", "lowered", "place", "a", "b", "c"] ["facts", "values", "origins"] (defScope s_relaxed) := ⟨rfl, rfl, rfl, by decide +kernel, rfl, by decide +kernel, by decide +kernel⟩
theorem wk_relaxed {f : Addr} {fd : FuncData} {sp : ASp} (g_enumerate : mg ("enumerate" : Str) = none) (F : FnP K ("relaxed" : Str) ("relaxed" : Str) s_relaxed [] f fd) (hlen : ∀ xs, sp.pre xs → xs.length = 3)
    (rd : ∀ xs, sp.pre xs → as_relaxed (endsOf [0, 1, 2] sp xs) (startA 8 xs)) : Fok Pr w K mg base 1 f fd ["facts", "values", "origins"] sp := by
  refine fn_mk (N := ["facts", "values", "origins", "lowered", "place", "a", "b", "c"]) (k := 0) [0, 1, 2] F sc_relaxed hlen (by decide) (fun cdv Ar outer s H E hr => ⟨as_relaxed, ?_, rd⟩)
  have hx := fun σ => passAt (X := cxOf (L2.CX Pr w) Pr w K mg base ["facts", "values", "origins", "lowered", "place", "a", "b", "c"] ("relaxed" : Str) (defScope s_relaxed) f cdv Ar outer s H E) (W := fun cls d _ H => E cls d H) (takes_of rfl rfl rfl rfl) σ
  have hp : PassesOwn _ _ _ (cxOf (L2.CX Pr w) Pr w K mg base ["facts", "values", "origins", "lowered", "place", "a", "b", "c"] ("relaxed" : Str) (defScope s_relaxed) f cdv Ar outer s H E).xe := passes_of rfl
  have tk := takes_of (X := cxOf (L2.CX Pr w) Pr w K mg base ["facts", "values", "origins", "lowered", "place", "a", "b", "c"] ("relaxed" : Str) (defScope s_relaxed) f cdv Ar outer s H E) rfl rfl rfl rfl
  have hu := hr.units
  have sc := sc_relaxed
  exact (qss_cons (qs_set (i := 3) sc.nd rfl (by first | exact Or.inl rfl | exact Or.inr rfl) qe_non (show 3 ∉ ([0, 1, 2] : List Nat) from by decide))
    (qss_cons (qs_forgetA [] (qs_for hp rfl (qi_enumR 0 rfl g_enumerate (show 0 ∈ ([0, 1, 2] : List Nat) from by decide)) (qg_tup rfl (qgs_cons (qg_name (i := 4) sc.nd rfl (by first | exact Or.inl rfl | exact Or.inr rfl) (show 4 ∉ ([0, 1, 2] : List Nat) from by decide)) (qgs_cons (qg_tup rfl (qgs_cons (qg_name (i := 5) sc.nd rfl (by first | exact Or.inl rfl | exact Or.inr rfl) (show 5 ∉ ([0, 1, 2] : List Nat) from by decide)) (qgs_cons (qg_name (i := 6) sc.nd rfl (by first | exact Or.inl rfl | exact Or.inr rfl) (show 6 ∉ ([0, 1, 2] : List Nat) from by decide)) (qgs_cons (qg_name (i := 7) sc.nd rfl (by first | exact Or.inl rfl | exact Or.inr rfl) (show 7 ∉ ([0, 1, 2] : List Nat) from by decide)) qgs_nil)))) qgs_nil))) (qss_after [4, 5, 6, 7] (qss_one (qs_forgetA [] (qs_if (qt_cmp op_lt s_lt (qe_op op_plus s_plus (qe_ix hu (qr 1) (qv 6)) (qv 7)) (qe_ix hu (qr 1) (qv 5)) (nomark _)) (qss_cons (qs_forgetA [3] (qs_put hu (qe_op op_plus s_plus (qe_ix hu (qr 1) (qv 6)) (qv 7)) (qr 1) (qv 5)))
    (qss_cons (qs_forgetA [6, 7] (qs_put hu (qv 4) (qr 2) (qv 5)))
    (qss_one (qs_forgetA [4] (qs_set (i := 3) sc.nd rfl (by first | exact Or.inl rfl | exact Or.inr rfl) (qv 5) (show 3 ∉ ([0, 1, 2] : List Nat) from by decide)))))) qss_nil))))))
    (qss_one (qs_forgetA [] (qs_ret (qv 3))))))
abbrev s_ring_behind : Stmt := top 9
theorem sc_ring_behind : FnScope ["count", "facts", "origins", "lowered", "start", "_", "found", "place"] ["count", "facts", "origins", "lowered"] (defScope s_ring_behind) := ⟨rfl, rfl, rfl, by decide +kernel, rfl, by decide +kernel, by decide +kernel⟩
theorem wk_ring_behind {f : Addr} {fd : FuncData} {sp : ASp} (g_range : mg ("range" : Str) = none) (g_tuple : mg ("tuple" : Str) = none) (F : FnP K ("ring_behind" : Str) ("ring_behind" : Str) s_ring_behind [] f fd) (hlen : ∀ xs, sp.pre xs → xs.length = 4)
    (rd : ∀ xs, sp.pre xs → as_ring_behind (endsOf [0, 1, 2, 3] sp xs) (startA 8 xs)) : Fok Pr w K mg base 1 f fd ["count", "facts", "origins", "lowered"] sp := by
  refine fn_mk (N := ["count", "facts", "origins", "lowered", "start", "_", "found", "place"]) (k := 0) [0, 1, 2, 3] F sc_ring_behind hlen (by decide) (fun cdv Ar outer s H E hr => ⟨as_ring_behind, ?_, rd⟩)
  have hx := fun σ => passAt (X := cxOf (L2.CX Pr w) Pr w K mg base ["count", "facts", "origins", "lowered", "start", "_", "found", "place"] ("ring_behind" : Str) (defScope s_ring_behind) f cdv Ar outer s H E) (W := fun cls d _ H => E cls d H) (takes_of rfl rfl rfl rfl) σ
  have hp : PassesOwn _ _ _ (cxOf (L2.CX Pr w) Pr w K mg base ["count", "facts", "origins", "lowered", "start", "_", "found", "place"] ("ring_behind" : Str) (defScope s_ring_behind) f cdv Ar outer s H E).xe := passes_of rfl
  have tk := takes_of (X := cxOf (L2.CX Pr w) Pr w K mg base ["count", "facts", "origins", "lowered", "start", "_", "found", "place"] ("ring_behind" : Str) (defScope s_ring_behind) f cdv Ar outer s H E) rfl rfl rfl rfl
  have hu := hr.units
  have sc := sc_ring_behind
  exact (qss_cons (qs_set (i := 4) sc.nd rfl (by first | exact Or.inl rfl | exact Or.inr rfl) (qv 3) (show 4 ∉ ([0, 1, 2, 3] : List Nat) from by decide))
    (qss_cons (qs_forgetA [] (qs_for hp rfl (qi_range1 rfl g_range (qa_cons (qv 0) qa_nil)) (qg_name (i := 5) sc.nd rfl (by first | exact Or.inl rfl | exact Or.inr rfl) (show 5 ∉ ([0, 1, 2, 3] : List Nat) from by decide)) (qss_one (qs_forgetA [5] (qs_set (i := 4) sc.nd rfl (by first | exact Or.inl rfl | exact Or.inr rfl) (qe_ix hu (qe_ix hu (qr 1) (qe_ix hu (qr 2) (qv 4))) qe_int) (show 4 ∉ ([0, 1, 2, 3] : List Nat) from by decide))))))
    (qss_cons (qs_forgetA [] (qs_set (i := 6) sc.nd rfl (by first | exact Or.inl rfl | exact Or.inr rfl) (qe_lst (qa_cons (qe_ix hu (qr 2) (qv 4)) qa_nil)) (show 6 ∉ ([0, 1, 2, 3] : List Nat) from by decide)))
    (qss_cons (qs_forgetA [] (qs_set (i := 7) sc.nd rfl (by first | exact Or.inl rfl | exact Or.inr rfl) (qe_ix hu (qe_ix hu (qr 1) (qe_ix hu (qr 2) (qv 4))) qe_int) (show 7 ∉ ([0, 1, 2, 3] : List Nat) from by decide)))
    (qss_cons (qs_forgetA [] (qs_while hp (qt_cmp (or_ne hu) s_ne (qv 7) (qv 4) (nomark _)) (qss_cons (qs_forgetA [] (qs_expr (qe_append (qr 6) (qe_ix hu (qr 2) (qv 7)))))
    (qss_one (qs_forgetA [] (qs_set (i := 7) sc.nd rfl (by first | exact Or.inl rfl | exact Or.inr rfl) (qe_ix hu (qe_ix hu (qr 1) (qe_ix hu (qr 2) (qv 7))) qe_int) (show 7 ∉ ([0, 1, 2, 3] : List Nat) from by decide)))))))
    (qss_one (qs_forgetA [4, 7] (qs_ret (qe_callTy call_tuple_of s_tuple rfl g_tuple PyProof.Rows.boot_tuple (qa_cons (qr 6) qa_nil))))))))))
abbrev s__law_state : Stmt := top 14
theorem sc__law_state : FnScope ["_law_script"] ["_law_script"] (defScope s__law_state) := ⟨rfl, rfl, rfl, by decide +kernel, rfl, by decide +kernel, by decide +kernel⟩
theorem wk__law_state {f : Addr} {fd : FuncData} {sp : ASp} (g_list : mg ("list" : Str) = none) (F : FnP K ("_law_state" : Str) ("_law_state" : Str) s__law_state [] f fd) (hlen : ∀ xs, sp.pre xs → xs.length = 1)
    (rd : ∀ xs, sp.pre xs → as__law_state (endsOf [0] sp xs) (startA 1 xs)) : Fok Pr w K mg base 1 f fd ["_law_script"] sp := by
  refine fn_mk (N := ["_law_script"]) (k := 0) [0] F sc__law_state hlen (by decide) (fun cdv Ar outer s H E hr => ⟨as__law_state, ?_, rd⟩)
  have hx := fun σ => passAt (X := cxOf (L2.CX Pr w) Pr w K mg base ["_law_script"] ("_law_state" : Str) (defScope s__law_state) f cdv Ar outer s H E) (W := fun cls d _ H => E cls d H) (takes_of rfl rfl rfl rfl) σ
  have hp : PassesOwn _ _ _ (cxOf (L2.CX Pr w) Pr w K mg base ["_law_script"] ("_law_state" : Str) (defScope s__law_state) f cdv Ar outer s H E).xe := passes_of rfl
  have tk := takes_of (X := cxOf (L2.CX Pr w) Pr w K mg base ["_law_script"] ("_law_state" : Str) (defScope s__law_state) f cdv Ar outer s H E) rfl rfl rfl rfl
  have hu := hr.units
  have sc := sc__law_state
  exact (qss_one (qs_ret (qe_lst (qa_cons (qe_callTy (cr_list rfl) s_list rfl g_list PyProof.Rows.boot_list (qa_cons (qv 0) qa_nil)) (qa_cons qe_int (qa_cons qe_int (qa_cons qe_int (qa_cons qe_int (qa_cons qe_int qa_nil)))))))))
abbrev s__law_draw : Stmt := top 15
theorem sc__law_draw : FnScope ["_law_state_here", "_law_many", "_law_digit", "_law_cell", "_law_number_here"] ["_law_state_here", "_law_many"] (defScope s__law_draw) := ⟨rfl, rfl, rfl, by decide +kernel, rfl, by decide +kernel, by decide +kernel⟩
theorem wk__law_draw {f : Addr} {fd : FuncData} {sp : ASp} (g_int : mg ("int" : Str) = none) (g_len : mg ("len" : Str) = none) (F : FnP K ("_law_draw" : Str) ("_law_draw" : Str) s__law_draw [] f fd) (hlen : ∀ xs, sp.pre xs → xs.length = 2)
    (rd : ∀ xs, sp.pre xs → as__law_draw (endsOf [0, 1] sp xs) (startA 5 xs)) : Fok Pr w K mg base 1 f fd ["_law_state_here", "_law_many"] sp := by
  refine fn_mk (N := ["_law_state_here", "_law_many", "_law_digit", "_law_cell", "_law_number_here"]) (k := 0) [0, 1] F sc__law_draw hlen (by decide) (fun cdv Ar outer s H E hr => ⟨as__law_draw, ?_, rd⟩)
  have hx := fun σ => passAt (X := cxOf (L2.CX Pr w) Pr w K mg base ["_law_state_here", "_law_many", "_law_digit", "_law_cell", "_law_number_here"] ("_law_draw" : Str) (defScope s__law_draw) f cdv Ar outer s H E) (W := fun cls d _ H => E cls d H) (takes_of rfl rfl rfl rfl) σ
  have hp : PassesOwn _ _ _ (cxOf (L2.CX Pr w) Pr w K mg base ["_law_state_here", "_law_many", "_law_digit", "_law_cell", "_law_number_here"] ("_law_draw" : Str) (defScope s__law_draw) f cdv Ar outer s H E).xe := passes_of rfl
  have tk := takes_of (X := cxOf (L2.CX Pr w) Pr w K mg base ["_law_state_here", "_law_many", "_law_digit", "_law_cell", "_law_number_here"] ("_law_draw" : Str) (defScope s__law_draw) f cdv Ar outer s H E) rfl rfl rfl rfl
  have hu := hr.units
  have sc := sc__law_draw
  exact (qss_cons (qs_if (qt_w (qw_and (qt_cmp op_gt s_gt (qe_ix hu (qr 0) qe_int) qe_int (nomark _)) (qw_and1 (qt_cmp op_lt s_lt (qe_ix hu (qr 0) qe_int) qe_int (nomark _))))) (qss_cons (qs_forgetA [] (qs_set (i := 2) sc.nd rfl (by first | exact Or.inl rfl | exact Or.inr rfl) (qe_op op_mod s_mod (qe_callTy call_int1 s_int rfl g_int PyProof.Rows.boot_int (qa_cons (qe_ix hu (qr 0) qe_int) qa_nil)) (qv 1)) (show 2 ∉ ([0, 1] : List Nat) from by decide)))
    (qss_cons (qs_forgetA [] (qs_put hu (qe_op op_fdivW s_divW (qe_ix hu (qr 0) qe_int) (qv 1)) (qr 0) qe_int))
    (qss_cons (qs_forgetA [] (qs_put hu (qe_op op_plus s_plus (qe_ix hu (qr 0) qe_int) qe_int) (qr 0) qe_int))
    (qss_one (qs_forgetA [] (qs_ret (qv 2))))))) qss_nil)
    (qss_cons (qs_forgetA [2] (qs_put hu (qe_op op_plus s_plus (qe_ix hu (qr 0) qe_int) qe_int) (qr 0) qe_int))
    (qss_cons (qs_forgetA [] (qs_if (qt_cmp op_lt s_lt (qe_ix hu (qr 0) qe_int) (qe_callB cr_len s_len rfl g_len boot_len (qa_cons (qe_ix hu (qr 0) qe_int) qa_nil)) (nomark _)) (qss_cons (qs_forgetA [] (qs_set (i := 3) sc.nd rfl (by first | exact Or.inl rfl | exact Or.inr rfl) (qe_ix hu (qe_ix hu (qr 0) qe_int) (qe_ix hu (qr 0) qe_int)) (show 3 ∉ ([0, 1] : List Nat) from by decide)))
    (qss_cons (qs_forgetA [] (qs_put hu (qe_op op_plus s_plus (qe_ix hu (qr 0) qe_int) qe_int) (qr 0) qe_int))
    (qss_cons (qs_forgetA [] (qs_put hu (qe_op op_mod s_mod (qe_op op_plus s_plus (qe_op op_mul s_mul (qe_ix hu (qr 0) qe_int) qe_int) (qe_callTy call_int1 s_int rfl g_int PyProof.Rows.boot_int (qa_cons (qv 3) qa_nil))) (qe_op op_pow s_pow qe_int qe_int)) (qr 0) qe_int))
    (qss_one (qs_forgetA [] (qs_if (qt_cmp op_ge s_ge (qv 3) (qe_op op_pow s_pow qe_int qe_int) (nomark _)) (qss_cons (qs_forgetA [] (qs_put hu (qe_op op_fdivW s_divW (qv 3) (qv 1)) (qr 0) qe_int))
    (qss_cons (qs_forgetA [] (qs_put hu qe_int (qr 0) qe_int))
    (qss_one (qs_forgetA [] (qs_ret (qe_op op_mod s_mod (qe_callTy call_int1 s_int rfl g_int PyProof.Rows.boot_int (qa_cons (qv 3) qa_nil)) (qv 1))))))) qss_nil)))))) qss_nil))
    (qss_cons (qs_forgetA [3] (qs_set (i := 4) sc.nd rfl (by first | exact Or.inl rfl | exact Or.inr rfl) (qe_op op_mod s_mod (qe_op op_mul s_mul (qe_op op_plus s_plus (qe_op op_plus s_plus (qe_op op_mul s_mul (qe_callTy call_int1 s_int rfl g_int PyProof.Rows.boot_int (qa_cons (qe_ix hu (qr 0) qe_int) qa_nil)) qe_int) (qe_op op_mul s_mul qe_int (qe_ix hu (qr 0) qe_int))) qe_int) qe_int) qe_int) (show 4 ∉ ([0, 1] : List Nat) from by decide)))
    (qss_cons (qs_forgetA [] (qs_set (i := 4) sc.nd rfl (by first | exact Or.inl rfl | exact Or.inr rfl) (qe_op op_mod s_mod (qe_op op_mul s_mul (qv 4) (qe_op op_plus s_plus (qe_op op_fdivW s_divW (qv 4) qe_int) qe_int)) qe_int) (show 4 ∉ ([0, 1] : List Nat) from by decide)))
    (qss_cons (qs_forgetA [] (qs_set (i := 4) sc.nd rfl (by first | exact Or.inl rfl | exact Or.inr rfl) (qe_op op_mod s_mod (qe_op op_mul s_mul (qv 4) (qe_op op_plus s_plus (qe_op op_fdivW s_divW (qv 4) qe_int) qe_int)) qe_int) (show 4 ∉ ([0, 1] : List Nat) from by decide)))
    (qss_one (qs_forgetA [] (qs_ret (qe_op op_mod s_mod (qv 4) (qv 1)))))))))))
abbrev s__law_is_integer : Stmt := top 17
theorem sc__law_is_integer : FnScope ["_law_thing"] ["_law_thing"] (defScope s__law_is_integer) := ⟨rfl, rfl, rfl, by decide +kernel, rfl, by decide +kernel, by decide +kernel⟩
theorem wk__law_is_integer {f : Addr} {fd : FuncData} {sp : ASp} (g_isinstance : mg ("isinstance" : Str) = none) (g_int : mg ("int" : Str) = none) (g_bool : mg ("bool" : Str) = none) (F : FnP K ("_law_is_integer" : Str) ("_law_is_integer" : Str) s__law_is_integer [] f fd) (hlen : ∀ xs, sp.pre xs → xs.length = 1)
    (rd : ∀ xs, sp.pre xs → as__law_is_integer K (endsOf [0] sp xs) (startA 1 xs)) : Fok Pr w K mg base 1 f fd ["_law_thing"] sp := by
  refine fn_mk (N := ["_law_thing"]) (k := 0) [0] F sc__law_is_integer hlen (by decide) (fun cdv Ar outer s H E hr => ⟨as__law_is_integer K, ?_, rd⟩)
  have hx := fun σ => passAt (X := cxOf (L2.CX Pr w) Pr w K mg base ["_law_thing"] ("_law_is_integer" : Str) (defScope s__law_is_integer) f cdv Ar outer s H E) (W := fun cls d _ H => E cls d H) (takes_of rfl rfl rfl rfl) σ
  have hp : PassesOwn _ _ _ (cxOf (L2.CX Pr w) Pr w K mg base ["_law_thing"] ("_law_is_integer" : Str) (defScope s__law_is_integer) f cdv Ar outer s H E).xe := passes_of rfl
  have tk := takes_of (X := cxOf (L2.CX Pr w) Pr w K mg base ["_law_thing"] ("_law_is_integer" : Str) (defScope s__law_is_integer) f cdv Ar outer s H E) rfl rfl rfl rfl
  have hu := hr.units
  have sc := sc__law_is_integer
  exact (qss_one (qs_ret (qe_and (qe_isi rfl g_isinstance (qv 0) (qc_ty rfl g_int bt_int)) (qe_one (qe_not (qe_isi rfl g_isinstance (qv 0) (qc_ty rfl g_bool bt_bool)))))))
abbrev s_is_fact : Stmt := top 6
theorem sc_is_fact : FnScope ["count", "entry", "number"] ["count", "entry"] (defScope s_is_fact) := ⟨rfl, rfl, rfl, by decide +kernel, rfl, by decide +kernel, by decide +kernel⟩
theorem wk_is_fact {f : Addr} {fd : FuncData} {sp : ASp} {sp_is_integer : ASp} (c_is_integer : Cal Pr w K mg base ("is_integer" : Str) 1 ["value"] sp_is_integer) (g_isinstance : mg ("isinstance" : Str) = none) (g_tuple : mg ("tuple" : Str) = none) (g_len : mg ("len" : Str) = none) (g_all : mg ("all" : Str) = none) (F : FnP K ("is_fact" : Str) ("is_fact" : Str) s_is_fact [] f fd) (hlen : ∀ xs, sp.pre xs → xs.length = 2)
    (rd : ∀ xs, sp.pre xs → as_is_fact K sp_is_integer (endsOf [0, 1] sp xs) (startA 3 xs)) : Fok Pr w K mg base 2 f fd ["count", "entry"] sp := by
  refine fn_mk (N := ["count", "entry", "number"]) (k := 1) [0, 1] F sc_is_fact hlen (by decide) (fun cdv Ar outer s H E hr => ⟨as_is_fact K sp_is_integer, ?_, rd⟩)
  have hx := fun σ => passAt (X := cxOf (L2.CX Pr w) Pr w K mg base ["count", "entry", "number"] ("is_fact" : Str) (defScope s_is_fact) f cdv Ar outer s H E) (W := fun cls d _ H => E cls d H) (takes_of rfl rfl rfl rfl) σ
  have hp : PassesOwn _ _ _ (cxOf (L2.CX Pr w) Pr w K mg base ["count", "entry", "number"] ("is_fact" : Str) (defScope s_is_fact) f cdv Ar outer s H E).xe := passes_of rfl
  have tk := takes_of (X := cxOf (L2.CX Pr w) Pr w K mg base ["count", "entry", "number"] ("is_fact" : Str) (defScope s_is_fact) f cdv Ar outer s H E) rfl rfl rfl rfl
  have hu := hr.units
  have sc := sc_is_fact
  exact (qss_cons (qs_if (qt_w (qw_or (qt_not (qt_val (qe_isi rfl g_isinstance (qv 1) (qc_ty rfl g_tuple bt_tuple)))) (qw_or1 (qt_cmp (or_ne hu) s_ne (qe_callB cr_len s_len rfl g_len boot_len (qa_cons (qv 1) qa_nil)) qe_int (nomark _))))) (qss_one (qs_forgetA [] (qs_ret qe_bl))) qss_nil)
    (qss_cons (qs_forgetA [] (qs_if (qt_not (qt_val (qe_callB (cr_all rfl) s_all rfl g_all PyProof.Rows.boot_all (qa_cons (qe_lcX [(("number" : Str), 2)] rfl sc.nd (show BlkOk ["count", "entry", "number"] (defScope s_is_fact) _ [(("number" : Str), 2)] from blkOk_by (by decide +kernel)) (qi_seq (qv 1)) (fun _ _ _ _ _ => (qg_name (i := 2) sc.nd rfl (by first | exact Or.inl rfl | exact Or.inr rfl) (show 2 ∉ ([0, 1] : List Nat) from by decide))) (fun _ _ _ _ _ => qts_nil) (fun _ _ _ _ _ => (qe_callC c_is_integer (hr.mono (by decide)) rfl passF (qa_cons (qv 2) qa_nil))) (show ∀ v ∈ ([2] : List Nat), v ∉ ([0, 1] : List Nat) from by decide) (show ∀ i ∈ ([2] : List Nat), i ∈ ([2] : List Nat) from by decide)) qa_nil)))) (qss_one (qs_forgetA [] (qs_ret qe_bl))) qss_nil))
    (qss_one (qs_forgetA [] (qs_ret (qe_and (qe_chain op_le s_le op_lt s_lt qe_int (qe_ix hu (qv 1) qe_int) (qv 0)) (qe_one (qe_chain op_le s_le op_lt s_lt qe_int (qe_ix hu (qv 1) qe_int) (qv 0)))))))))
abbrev s_is_ring : Stmt := top 12
theorem sc_is_ring : FnScope ["facts", "thing", "place", "total", "ahead"] ["facts", "thing"] (defScope s_is_ring) := ⟨rfl, rfl, rfl, by decide +kernel, rfl, by decide +kernel, by decide +kernel⟩
theorem wk_is_ring {f : Addr} {fd : FuncData} {sp : ASp} {sp_is_integer : ASp} (c_is_integer : Cal Pr w K mg base ("is_integer" : Str) 1 ["value"] sp_is_integer) (g_isinstance : mg ("isinstance" : Str) = none) (g_tuple : mg ("tuple" : Str) = none) (g_len : mg ("len" : Str) = none) (F : FnP K ("is_ring" : Str) ("is_ring" : Str) s_is_ring [] f fd) (hlen : ∀ xs, sp.pre xs → xs.length = 2)
    (rd : ∀ xs, sp.pre xs → as_is_ring K sp_is_integer (endsOf [0, 1] sp xs) (startA 5 xs)) : Fok Pr w K mg base 2 f fd ["facts", "thing"] sp := by
  refine fn_mk (N := ["facts", "thing", "place", "total", "ahead"]) (k := 1) [0, 1] F sc_is_ring hlen (by decide) (fun cdv Ar outer s H E hr => ⟨as_is_ring K sp_is_integer, ?_, rd⟩)
  have hx := fun σ => passAt (X := cxOf (L2.CX Pr w) Pr w K mg base ["facts", "thing", "place", "total", "ahead"] ("is_ring" : Str) (defScope s_is_ring) f cdv Ar outer s H E) (W := fun cls d _ H => E cls d H) (takes_of rfl rfl rfl rfl) σ
  have hp : PassesOwn _ _ _ (cxOf (L2.CX Pr w) Pr w K mg base ["facts", "thing", "place", "total", "ahead"] ("is_ring" : Str) (defScope s_is_ring) f cdv Ar outer s H E).xe := passes_of rfl
  have tk := takes_of (X := cxOf (L2.CX Pr w) Pr w K mg base ["facts", "thing", "place", "total", "ahead"] ("is_ring" : Str) (defScope s_is_ring) f cdv Ar outer s H E) rfl rfl rfl rfl
  have hu := hr.units
  have sc := sc_is_ring
  exact (qss_cons (qs_if (qt_w (qw_or (qt_not (qt_val (qe_isi rfl g_isinstance (qv 1) (qc_ty rfl g_tuple bt_tuple)))) (qw_or1 (qt_cmp (or_eq hu) s_eq (qe_callB cr_len s_len rfl g_len boot_len (qa_cons (qv 1) qa_nil)) qe_int (nomark _))))) (qss_one (qs_forgetA [] (qs_ret qe_bl))) qss_nil)
    (qss_cons (qs_forgetA [] (qs_for hp rfl (qi_seq (qv 1)) (qg_name (i := 2) sc.nd rfl (by first | exact Or.inl rfl | exact Or.inr rfl) (show 2 ∉ ([0, 1] : List Nat) from by decide)) (qss_after [2] (qss_one (qs_forgetA [] (qs_if (qt_w (qw_or (qt_not (qt_val (qe_callC c_is_integer (hr.mono (by decide)) rfl hx (qa_cons (qv 2) qa_nil)))) (qw_or1 (qt_not (qt_chain op_le s_le op_lt s_lt qe_int (qv 2) (qe_callB cr_len s_len rfl g_len boot_len (qa_cons (qv 0) qa_nil))))))) (qss_one (qs_forgetA [2] (qs_ret qe_bl))) qss_nil))))))
    (qss_cons (qs_forgetA [] (qs_set (i := 3) sc.nd rfl (by first | exact Or.inl rfl | exact Or.inr rfl) qe_int (show 3 ∉ ([0, 1] : List Nat) from by decide)))
    (qss_cons (qs_forgetA [] (qs_set (i := 4) sc.nd rfl (by first | exact Or.inl rfl | exact Or.inr rfl) (qe_ix hu (qv 0) (qe_ix hu (qv 1) (qe_un un_neg s_neg qe_int))) (show 4 ∉ ([0, 1] : List Nat) from by decide)))
    (qss_cons (qs_forgetA [] (qs_for hp rfl (qi_seq (qv 1)) (qg_name (i := 2) sc.nd rfl (by first | exact Or.inl rfl | exact Or.inr rfl) (show 2 ∉ ([0, 1] : List Nat) from by decide)) (qss_cons (qs_forgetA [] (qs_if (qt_cmp (or_ne hu) s_ne (qe_ix hu (qe_ix hu (qv 0) (qv 2)) qe_int) (qe_ix hu (qv 4) qe_int) (nomark _)) (qss_one (qs_forgetA [2, 3, 4] (qs_ret qe_bl))) qss_nil))
    (qss_cons (qs_forgetA [4] (qs_set (i := 4) sc.nd rfl (by first | exact Or.inl rfl | exact Or.inr rfl) (qe_ix hu (qv 0) (qv 2)) (show 4 ∉ ([0, 1] : List Nat) from by decide)))
    (qss_one (qs_forgetA [2] (qs_aug (i := 3) sc.nd rfl (by first | exact Or.inl rfl | exact Or.inr rfl) (qe_ix hu (qv 4) qe_int) (show 3 ∉ ([0, 1] : List Nat) from by decide))))))))
    (qss_one (qs_forgetA [4] (qs_ret (qe_cmp op_lt s_lt (qv 3) qe_int (nomark _))))))))))
abbrev s__law_number : Stmt := top 16
theorem sc__law_number : FnScope ["_law_state_here", "_law_kind"] ["_law_state_here"] (defScope s__law_number) := ⟨rfl, rfl, rfl, by decide +kernel, rfl, by decide +kernel, by decide +kernel⟩
theorem wk__law_number {f : Addr} {fd : FuncData} {sp : ASp} {sp__law_draw : ASp} (c__law_draw : Cal Pr w K mg base ("_law_draw" : Str) 1 ["_law_state_here", "_law_many"] sp__law_draw) (F : FnP K ("_law_number" : Str) ("_law_number" : Str) s__law_number [] f fd) (hlen : ∀ xs, sp.pre xs → xs.length = 1)
    (rd : ∀ xs, sp.pre xs → as__law_number sp__law_draw (endsOf [0] sp xs) (startA 2 xs)) : Fok Pr w K mg base 2 f fd ["_law_state_here"] sp := by
  refine fn_mk (N := ["_law_state_here", "_law_kind"]) (k := 1) [0] F sc__law_number hlen (by decide) (fun cdv Ar outer s H E hr => ⟨as__law_number sp__law_draw, ?_, rd⟩)
  have hx := fun σ => passAt (X := cxOf (L2.CX Pr w) Pr w K mg base ["_law_state_here", "_law_kind"] ("_law_number" : Str) (defScope s__law_number) f cdv Ar outer s H E) (W := fun cls d _ H => E cls d H) (takes_of rfl rfl rfl rfl) σ
  have hp : PassesOwn _ _ _ (cxOf (L2.CX Pr w) Pr w K mg base ["_law_state_here", "_law_kind"] ("_law_number" : Str) (defScope s__law_number) f cdv Ar outer s H E).xe := passes_of rfl
  have tk := takes_of (X := cxOf (L2.CX Pr w) Pr w K mg base ["_law_state_here", "_law_kind"] ("_law_number" : Str) (defScope s__law_number) f cdv Ar outer s H E) rfl rfl rfl rfl
  have hu := hr.units
  have sc := sc__law_number
  exact (qss_cons (qs_set (i := 1) sc.nd rfl (by first | exact Or.inl rfl | exact Or.inr rfl) (qe_callC c__law_draw (hr.mono (by decide)) rfl hx (qa_cons (qr 0) (qa_cons qe_int qa_nil))) (show 1 ∉ ([0] : List Nat) from by decide))
    (qss_cons (qs_forgetA [] (qs_if (qt_cmp op_lt s_lt (qv 1) qe_int (nomark _)) (qss_one (qs_forgetA [1] (qs_ret (qe_op op_sub s_sub (qe_callC c__law_draw (hr.mono (by decide)) rfl hx (qa_cons (qr 0) (qa_cons qe_int qa_nil))) qe_int)))) qss_nil))
    (qss_cons (qs_forgetA [] (qs_if (qt_cmp (or_eq hu) s_eq (qv 1) qe_int (nomark _)) (qss_one (qs_forgetA [1] (qs_ret (qe_op op_sub s_sub (qe_callC c__law_draw (hr.mono (by decide)) rfl hx (qa_cons (qr 0) (qa_cons qe_int qa_nil))) qe_int)))) qss_nil))
    (qss_one (qs_forgetA [1] (qs_ret (qe_op op_plus s_plus (qe_op op_mul s_mul (qe_op op_sub s_sub (qe_callC c__law_draw (hr.mono (by decide)) rfl hx (qa_cons (qr 0) (qa_cons (qe_op op_mul s_mul qe_int (qe_op op_pow s_pow qe_int qe_int)) qa_nil))) (qe_op op_pow s_pow qe_int qe_int)) (qe_op op_pow s_pow qe_int qe_int)) (qe_callC c__law_draw (hr.mono (by decide)) rfl hx (qa_cons (qr 0) (qa_cons (qe_op op_pow s_pow qe_int qe_int) qa_nil))))))))))
abbrev s__law_strange : Stmt := top 18
theorem sc__law_strange : FnScope ["_law_state_here", "_law_deep", "_law_k", "_law_things"] ["_law_state_here"] (defScope s__law_strange) := ⟨rfl, rfl, rfl, by decide +kernel, rfl, by decide +kernel, by decide +kernel⟩
theorem wk__law_strange {f : Addr} {fd : FuncData} {sp : ASp} {sp__law_draw : ASp} (c__law_draw : Cal Pr w K mg base ("_law_draw" : Str) 1 ["_law_state_here", "_law_many"] sp__law_draw) (g_range : mg ("range" : Str) = none) (g_isinstance : mg ("isinstance" : Str) = none) (g_list : mg ("list" : Str) = none) (g_tuple : mg ("tuple" : Str) = none) (g_len : mg ("len" : Str) = none) (F : FnP K ("_law_strange" : Str) ("_law_strange" : Str) s__law_strange [] f fd) (hlen : ∀ xs, sp.pre xs → xs.length = 1)
    (rd : ∀ xs, sp.pre xs → as__law_strange K sp__law_draw (endsOf [0] sp xs) (startA 4 xs)) : Fok Pr w K mg base 2 f fd ["_law_state_here"] sp := by
  refine fn_mk (N := ["_law_state_here", "_law_deep", "_law_k", "_law_things"]) (k := 1) [0] F sc__law_strange hlen (by decide) (fun cdv Ar outer s H E hr => ⟨as__law_strange K sp__law_draw, ?_, rd⟩)
  have hx := fun σ => passAt (X := cxOf (L2.CX Pr w) Pr w K mg base ["_law_state_here", "_law_deep", "_law_k", "_law_things"] ("_law_strange" : Str) (defScope s__law_strange) f cdv Ar outer s H E) (W := fun cls d _ H => E cls d H) (takes_of rfl rfl rfl rfl) σ
  have hp : PassesOwn _ _ _ (cxOf (L2.CX Pr w) Pr w K mg base ["_law_state_here", "_law_deep", "_law_k", "_law_things"] ("_law_strange" : Str) (defScope s__law_strange) f cdv Ar outer s H E).xe := passes_of rfl
  have tk := takes_of (X := cxOf (L2.CX Pr w) Pr w K mg base ["_law_state_here", "_law_deep", "_law_k", "_law_things"] ("_law_strange" : Str) (defScope s__law_strange) f cdv Ar outer s H E) rfl rfl rfl rfl
  have hu := hr.units
  have sc := sc__law_strange
  exact (qss_cons (qs_set (i := 1) sc.nd rfl (by first | exact Or.inl rfl | exact Or.inr rfl) (qe_ix hu (qe_lst (qa_cons (qe_lst qa_nil) (qa_cons (qe_tup qa_nil) (qa_cons qe_dict0 qa_nil)))) (qe_callC c__law_draw (hr.mono (by decide)) rfl hx (qa_cons (qr 0) (qa_cons qe_int qa_nil)))) (show 1 ∉ ([0] : List Nat) from by decide))
    (qss_cons (qs_forgetA [] (qs_for hp rfl (qi_range1 rfl g_range (qa_cons qe_int qa_nil)) (qg_name (i := 2) sc.nd rfl (by first | exact Or.inl rfl | exact Or.inr rfl) (show 2 ∉ ([0] : List Nat) from by decide)) (qss_one (qs_forgetA [2] (qs_if (qt_val (qe_isi rfl g_isinstance (qv 1) (qc_ty rfl g_list bt_list))) (qss_one (qs_forgetA [] (qs_set (i := 1) sc.nd rfl (by first | exact Or.inl rfl | exact Or.inr rfl) (qe_frz (qe_lst (qa_cons (qv 1) qa_nil))) (show 1 ∉ ([0] : List Nat) from by decide)))) (qss_one (qs_forgetA [] (qs_if (qt_val (qe_isi rfl g_isinstance (qv 1) (qc_ty rfl g_tuple bt_tuple))) (qss_one (qs_forgetA [] (qs_set (i := 1) sc.nd rfl (by first | exact Or.inl rfl | exact Or.inr rfl) (qe_tup (qa_cons (qv 1) qa_nil)) (show 1 ∉ ([0] : List Nat) from by decide)))) (qss_one (qs_forgetA [] (qs_set (i := 1) sc.nd rfl (by first | exact Or.inl rfl | exact Or.inr rfl) (qe_frz (qe_disp (qps_cons qe_str (qv 1) qps_nil) rfl rfl (by decide) (by decide))) (show 1 ∉ ([0] : List Nat) from by decide))))))))))))
    (qss_cons (qs_forgetA [] (qs_set (i := 3) sc.nd rfl (by first | exact Or.inl rfl | exact Or.inr rfl) (qe_frz (qe_lst (qa_cons qe_non (qa_cons qe_bl (qa_cons qe_bl (qa_cons qe_str (qa_cons qe_str (qa_cons qe_str (qa_cons qe_str (qa_cons (qe_tup qa_nil) (qa_cons (qe_tup (qa_cons qe_int (qa_cons qe_int qa_nil))) (qa_cons (qe_tup (qa_cons qe_int (qa_cons qe_int (qa_cons qe_int qa_nil)))) (qa_cons (qe_lst (qa_cons qe_int (qa_cons qe_int qa_nil))) (qa_cons qe_dict0 (qa_cons (qe_disp (qps_cons qe_str (qe_lst (qa_cons qe_int qa_nil)) qps_nil) rfl rfl (by decide) (by decide)) (qa_cons (qv 1) qa_nil)))))))))))))))) (show 3 ∉ ([0] : List Nat) from by decide)))
    (qss_one (qs_forgetA [1] (qs_ret (qe_ix hu (qv 3) (qe_callC c__law_draw (hr.mono (by decide)) rfl hx (qa_cons (qr 0) (qa_cons (qe_callB cr_len s_len rfl g_len boot_len (qa_cons (qv 3) qa_nil)) qa_nil))))))))))
abbrev s__law_size : Stmt := top 19
theorem sc__law_size : FnScope ["_law_state_here", "_law_kind"] ["_law_state_here"] (defScope s__law_size) := ⟨rfl, rfl, rfl, by decide +kernel, rfl, by decide +kernel, by decide +kernel⟩
theorem wk__law_size {f : Addr} {fd : FuncData} {sp : ASp} {sp__law_draw : ASp} (c__law_draw : Cal Pr w K mg base ("_law_draw" : Str) 1 ["_law_state_here", "_law_many"] sp__law_draw) (F : FnP K ("_law_size" : Str) ("_law_size" : Str) s__law_size [] f fd) (hlen : ∀ xs, sp.pre xs → xs.length = 1)
    (rd : ∀ xs, sp.pre xs → as__law_size sp__law_draw (endsOf [0] sp xs) (startA 2 xs)) : Fok Pr w K mg base 2 f fd ["_law_state_here"] sp := by
  refine fn_mk (N := ["_law_state_here", "_law_kind"]) (k := 1) [0] F sc__law_size hlen (by decide) (fun cdv Ar outer s H E hr => ⟨as__law_size sp__law_draw, ?_, rd⟩)
  have hx := fun σ => passAt (X := cxOf (L2.CX Pr w) Pr w K mg base ["_law_state_here", "_law_kind"] ("_law_size" : Str) (defScope s__law_size) f cdv Ar outer s H E) (W := fun cls d _ H => E cls d H) (takes_of rfl rfl rfl rfl) σ
  have hp : PassesOwn _ _ _ (cxOf (L2.CX Pr w) Pr w K mg base ["_law_state_here", "_law_kind"] ("_law_size" : Str) (defScope s__law_size) f cdv Ar outer s H E).xe := passes_of rfl
  have tk := takes_of (X := cxOf (L2.CX Pr w) Pr w K mg base ["_law_state_here", "_law_kind"] ("_law_size" : Str) (defScope s__law_size) f cdv Ar outer s H E) rfl rfl rfl rfl
  have hu := hr.units
  have sc := sc__law_size
  exact (qss_cons (qs_set (i := 1) sc.nd rfl (by first | exact Or.inl rfl | exact Or.inr rfl) (qe_callC c__law_draw (hr.mono (by decide)) rfl hx (qa_cons (qr 0) (qa_cons qe_int qa_nil))) (show 1 ∉ ([0] : List Nat) from by decide))
    (qss_cons (qs_forgetA [] (qs_if (qt_cmp (or_eq hu) s_eq (qv 1) qe_int (nomark _)) (qss_one (qs_forgetA [1] (qs_ret (qe_op op_plus s_plus qe_int (qe_callC c__law_draw (hr.mono (by decide)) rfl hx (qa_cons (qr 0) (qa_cons qe_int qa_nil))))))) qss_nil))
    (qss_one (qs_forgetA [1] (qs_ret (qe_callC c__law_draw (hr.mono (by decide)) rfl hx (qa_cons (qr 0) (qa_cons qe_int qa_nil))))))))
abbrev s__law_is_closed : Stmt := top 24
theorem sc__law_is_closed : FnScope ["_law_facts", "_law_found", "_law_total", "_law_k", "_law_following"] ["_law_facts", "_law_found"] (defScope s__law_is_closed) := ⟨rfl, rfl, rfl, by decide +kernel, rfl, by decide +kernel, by decide +kernel⟩
theorem wk__law_is_closed {f : Addr} {fd : FuncData} {sp : ASp} {sp__law_is_integer : ASp} (c__law_is_integer : Cal Pr w K mg base ("_law_is_integer" : Str) 1 ["_law_thing"] sp__law_is_integer) (g_isinstance : mg ("isinstance" : Str) = none) (g_tuple : mg ("tuple" : Str) = none) (g_len : mg ("len" : Str) = none) (g_range : mg ("range" : Str) = none) (F : FnP K ("_law_is_closed" : Str) ("_law_is_closed" : Str) s__law_is_closed [] f fd) (hlen : ∀ xs, sp.pre xs → xs.length = 2)
    (rd : ∀ xs, sp.pre xs → as__law_is_closed K sp__law_is_integer (endsOf [0, 1] sp xs) (startA 5 xs)) : Fok Pr w K mg base 2 f fd ["_law_facts", "_law_found"] sp := by
  refine fn_mk (N := ["_law_facts", "_law_found", "_law_total", "_law_k", "_law_following"]) (k := 1) [0, 1] F sc__law_is_closed hlen (by decide) (fun cdv Ar outer s H E hr => ⟨as__law_is_closed K sp__law_is_integer, ?_, rd⟩)
  have hx := fun σ => passAt (X := cxOf (L2.CX Pr w) Pr w K mg base ["_law_facts", "_law_found", "_law_total", "_law_k", "_law_following"] ("_law_is_closed" : Str) (defScope s__law_is_closed) f cdv Ar outer s H E) (W := fun cls d _ H => E cls d H) (takes_of rfl rfl rfl rfl) σ
  have hp : PassesOwn _ _ _ (cxOf (L2.CX Pr w) Pr w K mg base ["_law_facts", "_law_found", "_law_total", "_law_k", "_law_following"] ("_law_is_closed" : Str) (defScope s__law_is_closed) f cdv Ar outer s H E).xe := passes_of rfl
  have tk := takes_of (X := cxOf (L2.CX Pr w) Pr w K mg base ["_law_facts", "_law_found", "_law_total", "_law_k", "_law_following"] ("_law_is_closed" : Str) (defScope s__law_is_closed) f cdv Ar outer s H E) rfl rfl rfl rfl
  have hu := hr.units
  have sc := sc__law_is_closed
  exact (qss_cons (qs_if (qt_w (qw_or (qt_not (qt_val (qe_isi rfl g_isinstance (qv 1) (qc_ty rfl g_tuple bt_tuple)))) (qw_or1 (qt_cmp (or_eq hu) s_eq (qe_callB cr_len s_len rfl g_len boot_len (qa_cons (qv 1) qa_nil)) qe_int (nomark _))))) (qss_one (qs_forgetA [] (qs_ret qe_bl))) qss_nil)
    (qss_cons (qs_forgetA [] (qs_set (i := 2) sc.nd rfl (by first | exact Or.inl rfl | exact Or.inr rfl) qe_int (show 2 ∉ ([0, 1] : List Nat) from by decide)))
    (qss_cons (qs_forgetA [] (qs_for hp rfl (qi_range1 rfl g_range (qa_cons (qe_callB cr_len s_len rfl g_len boot_len (qa_cons (qv 1) qa_nil)) qa_nil)) (qg_name (i := 3) sc.nd rfl (by first | exact Or.inl rfl | exact Or.inr rfl) (show 3 ∉ ([0, 1] : List Nat) from by decide)) (qss_after [3] (qss_cons (qs_forgetA [] (qs_if (qt_w (qw_or (qt_not (qt_val (qe_callC c__law_is_integer (hr.mono (by decide)) rfl hx (qa_cons (qe_ix hu (qv 1) (qv 3)) qa_nil)))) (qw_or (qt_cmp op_lt s_lt (qe_ix hu (qv 1) (qv 3)) qe_int (nomark _)) (qw_or1 (qt_cmp op_ge s_ge (qe_ix hu (qv 1) (qv 3)) (qe_callB cr_len s_len rfl g_len boot_len (qa_cons (qv 0) qa_nil)) (nomark _)))))) (qss_one (qs_forgetA [2, 3] (qs_ret qe_bl))) qss_nil))
    (qss_cons (qs_forgetA [] (qs_set (i := 4) sc.nd rfl (by first | exact Or.inl rfl | exact Or.inr rfl) (qe_ix hu (qv 1) (qe_op op_mod s_mod (qe_op op_plus s_plus (qv 3) qe_int) (qe_callB cr_len s_len rfl g_len boot_len (qa_cons (qv 1) qa_nil)))) (show 4 ∉ ([0, 1] : List Nat) from by decide)))
    (qss_cons (qs_forgetA [] (qs_if (qt_w (qw_or (qt_not (qt_val (qe_callC c__law_is_integer (hr.mono (by decide)) rfl hx (qa_cons (qv 4) qa_nil)))) (qw_or (qt_cmp op_lt s_lt (qv 4) qe_int (nomark _)) (qw_or1 (qt_cmp op_ge s_ge (qv 4) (qe_callB cr_len s_len rfl g_len boot_len (qa_cons (qv 0) qa_nil)) (nomark _)))))) (qss_one (qs_forgetA [2, 3, 4] (qs_ret qe_bl))) qss_nil))
    (qss_cons (qs_forgetA [] (qs_if (qt_cmp (or_ne hu) s_ne (qe_ix hu (qe_ix hu (qv 0) (qe_ix hu (qv 1) (qv 3))) qe_int) (qe_ix hu (qe_ix hu (qv 0) (qv 4)) qe_int) (nomark _)) (qss_one (qs_forgetA [2, 3, 4] (qs_ret qe_bl))) qss_nil))
    (qss_one (qs_forgetA [4] (qs_set (i := 2) sc.nd rfl (by first | exact Or.inl rfl | exact Or.inr rfl) (qe_frz (qe_op op_plus s_plus (qv 2) (qe_ix hu (qe_ix hu (qv 0) (qe_ix hu (qv 1) (qv 3))) qe_int))) (show 2 ∉ ([0, 1] : List Nat) from by decide)))))))))))
    (qss_one (qs_forgetA [] (qs_ret (qe_cmp op_lt s_lt (qv 2) qe_int (nomark _))))))))
abbrev s__law_keeps : Stmt := top 25
theorem sc__law_keeps : FnScope ["_law_count", "_law_facts", "_law_found", "_law_number_here", "_law_a", "_law_b", "_law_c"] ["_law_count", "_law_facts", "_law_found"] (defScope s__law_keeps) := ⟨rfl, rfl, rfl, by decide +kernel, rfl, by decide +kernel, by decide +kernel⟩
theorem wk__law_keeps {f : Addr} {fd : FuncData} {sp : ASp} {sp__law_is_integer : ASp} (c__law_is_integer : Cal Pr w K mg base ("_law_is_integer" : Str) 1 ["_law_thing"] sp__law_is_integer) (g_isinstance : mg ("isinstance" : Str) = none) (g_list : mg ("list" : Str) = none) (g_len : mg ("len" : Str) = none) (g_all : mg ("all" : Str) = none) (F : FnP K ("_law_keeps" : Str) ("_law_keeps" : Str) s__law_keeps [] f fd) (hlen : ∀ xs, sp.pre xs → xs.length = 3)
    (rd : ∀ xs, sp.pre xs → as__law_keeps K sp__law_is_integer (endsOf [0, 1, 2] sp xs) (startA 7 xs)) : Fok Pr w K mg base 2 f fd ["_law_count", "_law_facts", "_law_found"] sp := by
  refine fn_mk (N := ["_law_count", "_law_facts", "_law_found", "_law_number_here", "_law_a", "_law_b", "_law_c"]) (k := 1) [0, 1, 2] F sc__law_keeps hlen (by decide) (fun cdv Ar outer s H E hr => ⟨as__law_keeps K sp__law_is_integer, ?_, rd⟩)
  have hx := fun σ => passAt (X := cxOf (L2.CX Pr w) Pr w K mg base ["_law_count", "_law_facts", "_law_found", "_law_number_here", "_law_a", "_law_b", "_law_c"] ("_law_keeps" : Str) (defScope s__law_keeps) f cdv Ar outer s H E) (W := fun cls d _ H => E cls d H) (takes_of rfl rfl rfl rfl) σ
  have hp : PassesOwn _ _ _ (cxOf (L2.CX Pr w) Pr w K mg base ["_law_count", "_law_facts", "_law_found", "_law_number_here", "_law_a", "_law_b", "_law_c"] ("_law_keeps" : Str) (defScope s__law_keeps) f cdv Ar outer s H E).xe := passes_of rfl
  have tk := takes_of (X := cxOf (L2.CX Pr w) Pr w K mg base ["_law_count", "_law_facts", "_law_found", "_law_number_here", "_law_a", "_law_b", "_law_c"] ("_law_keeps" : Str) (defScope s__law_keeps) f cdv Ar outer s H E) rfl rfl rfl rfl
  have hu := hr.units
  have sc := sc__law_keeps
  exact (qss_cons (qs_if (qt_w (qw_or (qt_not (qt_val (qe_isi rfl g_isinstance (qv 2) (qc_ty rfl g_list bt_list)))) (qw_or (qt_cmp (or_ne hu) s_ne (qe_callB cr_len s_len rfl g_len boot_len (qa_cons (qv 2) qa_nil)) (qv 0) (nomark _)) (qw_or1 (qt_not (qt_val (qe_callB (cr_all rfl) s_all rfl g_all PyProof.Rows.boot_all (qa_cons (qe_lcX [(("_law_number_here" : Str), 3)] rfl sc.nd (show BlkOk ["_law_count", "_law_facts", "_law_found", "_law_number_here", "_law_a", "_law_b", "_law_c"] (defScope s__law_keeps) _ [(("_law_number_here" : Str), 3)] from blkOk_by (by decide +kernel)) (qi_seq (qv 2)) (fun _ _ _ _ _ => (qg_name (i := 3) sc.nd rfl (by first | exact Or.inl rfl | exact Or.inr rfl) (show 3 ∉ ([0, 1, 2] : List Nat) from by decide))) (fun _ _ _ _ _ => qts_nil) (fun _ _ _ _ _ => (qe_callC c__law_is_integer (hr.mono (by decide)) rfl passF (qa_cons (qv 3) qa_nil))) (show ∀ v ∈ ([3] : List Nat), v ∉ ([0, 1, 2] : List Nat) from by decide) (show ∀ i ∈ ([3] : List Nat), i ∈ ([3] : List Nat) from by decide)) qa_nil)))))))) (qss_one (qs_forgetA [] (qs_ret qe_bl))) qss_nil)
    (qss_cons (qs_forgetA [] (qs_for hp rfl (qi_seq (qv 1)) (qg_tup rfl (qgs_cons (qg_name (i := 4) sc.nd rfl (by first | exact Or.inl rfl | exact Or.inr rfl) (show 4 ∉ ([0, 1, 2] : List Nat) from by decide)) (qgs_cons (qg_name (i := 5) sc.nd rfl (by first | exact Or.inl rfl | exact Or.inr rfl) (show 5 ∉ ([0, 1, 2] : List Nat) from by decide)) (qgs_cons (qg_name (i := 6) sc.nd rfl (by first | exact Or.inl rfl | exact Or.inr rfl) (show 6 ∉ ([0, 1, 2] : List Nat) from by decide)) qgs_nil)))) (qss_after [4, 5, 6] (qss_one (qs_forgetA [] (qs_if (qt_cmp op_gt s_gt (qe_ix hu (qv 2) (qv 4)) (qe_op op_plus s_plus (qe_ix hu (qv 2) (qv 5)) (qv 6)) (nomark _)) (qss_one (qs_forgetA [4, 5, 6] (qs_ret qe_bl))) qss_nil))))))
    (qss_one (qs_forgetA [] (qs_ret qe_bl)))))
abbrev s__law_is_fact : Stmt := top 28
theorem sc__law_is_fact : FnScope ["_law_count", "_law_thing", "_law_part"] ["_law_count", "_law_thing"] (defScope s__law_is_fact) := ⟨rfl, rfl, rfl, by decide +kernel, rfl, by decide +kernel, by decide +kernel⟩
theorem wk__law_is_fact {f : Addr} {fd : FuncData} {sp : ASp} {sp__law_is_integer : ASp} (c__law_is_integer : Cal Pr w K mg base ("_law_is_integer" : Str) 1 ["_law_thing"] sp__law_is_integer) (g_isinstance : mg ("isinstance" : Str) = none) (g_tuple : mg ("tuple" : Str) = none) (g_len : mg ("len" : Str) = none) (g_all : mg ("all" : Str) = none) (F : FnP K ("_law_is_fact" : Str) ("_law_is_fact" : Str) s__law_is_fact [] f fd) (hlen : ∀ xs, sp.pre xs → xs.length = 2)
    (rd : ∀ xs, sp.pre xs → as__law_is_fact K sp__law_is_integer (endsOf [0, 1] sp xs) (startA 3 xs)) : Fok Pr w K mg base 2 f fd ["_law_count", "_law_thing"] sp := by
  refine fn_mk (N := ["_law_count", "_law_thing", "_law_part"]) (k := 1) [0, 1] F sc__law_is_fact hlen (by decide) (fun cdv Ar outer s H E hr => ⟨as__law_is_fact K sp__law_is_integer, ?_, rd⟩)
  have hx := fun σ => passAt (X := cxOf (L2.CX Pr w) Pr w K mg base ["_law_count", "_law_thing", "_law_part"] ("_law_is_fact" : Str) (defScope s__law_is_fact) f cdv Ar outer s H E) (W := fun cls d _ H => E cls d H) (takes_of rfl rfl rfl rfl) σ
  have hp : PassesOwn _ _ _ (cxOf (L2.CX Pr w) Pr w K mg base ["_law_count", "_law_thing", "_law_part"] ("_law_is_fact" : Str) (defScope s__law_is_fact) f cdv Ar outer s H E).xe := passes_of rfl
  have tk := takes_of (X := cxOf (L2.CX Pr w) Pr w K mg base ["_law_count", "_law_thing", "_law_part"] ("_law_is_fact" : Str) (defScope s__law_is_fact) f cdv Ar outer s H E) rfl rfl rfl rfl
  have hu := hr.units
  have sc := sc__law_is_fact
  exact (qss_cons (qs_if (qt_w (qw_or (qt_not (qt_val (qe_isi rfl g_isinstance (qv 1) (qc_ty rfl g_tuple bt_tuple)))) (qw_or (qt_cmp (or_ne hu) s_ne (qe_callB cr_len s_len rfl g_len boot_len (qa_cons (qv 1) qa_nil)) qe_int (nomark _)) (qw_or1 (qt_not (qt_val (qe_callB (cr_all rfl) s_all rfl g_all PyProof.Rows.boot_all (qa_cons (qe_lcX [(("_law_part" : Str), 2)] rfl sc.nd (show BlkOk ["_law_count", "_law_thing", "_law_part"] (defScope s__law_is_fact) _ [(("_law_part" : Str), 2)] from blkOk_by (by decide +kernel)) (qi_seq (qv 1)) (fun _ _ _ _ _ => (qg_name (i := 2) sc.nd rfl (by first | exact Or.inl rfl | exact Or.inr rfl) (show 2 ∉ ([0, 1] : List Nat) from by decide))) (fun _ _ _ _ _ => qts_nil) (fun _ _ _ _ _ => (qe_callC c__law_is_integer (hr.mono (by decide)) rfl passF (qa_cons (qv 2) qa_nil))) (show ∀ v ∈ ([2] : List Nat), v ∉ ([0, 1] : List Nat) from by decide) (show ∀ i ∈ ([2] : List Nat), i ∈ ([2] : List Nat) from by decide)) qa_nil)))))))) (qss_one (qs_forgetA [] (qs_ret qe_bl))) qss_nil)
    (qss_one (qs_forgetA [] (qs_ret (qe_and (qe_chain op_le s_le op_lt s_lt qe_int (qe_ix hu (qv 1) qe_int) (qv 0)) (qe_one (qe_chain op_le s_le op_lt s_lt qe_int (qe_ix hu (qv 1) qe_int) (qv 0))))))))
abbrev s_check_facts : Stmt := top 7
theorem sc_check_facts : FnScope ["count", "facts", "place", "entry"] ["count", "facts"] (defScope s_check_facts) := ⟨rfl, rfl, rfl, by decide +kernel, rfl, by decide +kernel, by decide +kernel⟩
theorem wk_check_facts {f : Addr} {fd : FuncData} {sp : ASp} {C_BadFact : Addr} {sp_is_fact : ASp} (c_is_fact : Cal Pr w K mg base ("is_fact" : Str) 2 ["count", "entry"] sp_is_fact) (ra_BadFact : Rai Pr w K mg base ("BadFact" : Str) C_BadFact ("at" : Str) 1) (g_enumerate : mg ("enumerate" : Str) = none) (F : FnP K ("check_facts" : Str) ("check_facts" : Str) s_check_facts [] f fd) (hlen : ∀ xs, sp.pre xs → xs.length = 2)
    (rd : ∀ xs, sp.pre xs → as_check_facts C_BadFact sp_is_fact (endsOf [0, 1] sp xs) (startA 4 xs)) : Fok Pr w K mg base 3 f fd ["count", "facts"] sp := by
  refine fn_mk (N := ["count", "facts", "place", "entry"]) (k := 2) [0, 1] F sc_check_facts hlen (by decide) (fun cdv Ar outer s H E hr => ⟨as_check_facts C_BadFact sp_is_fact, ?_, rd⟩)
  have hx := fun σ => passAt (X := cxOf (L2.CX Pr w) Pr w K mg base ["count", "facts", "place", "entry"] ("check_facts" : Str) (defScope s_check_facts) f cdv Ar outer s H E) (W := fun cls d _ H => E cls d H) (takes_of rfl rfl rfl rfl) σ
  have hp : PassesOwn _ _ _ (cxOf (L2.CX Pr w) Pr w K mg base ["count", "facts", "place", "entry"] ("check_facts" : Str) (defScope s_check_facts) f cdv Ar outer s H E).xe := passes_of rfl
  have tk := takes_of (X := cxOf (L2.CX Pr w) Pr w K mg base ["count", "facts", "place", "entry"] ("check_facts" : Str) (defScope s_check_facts) f cdv Ar outer s H E) rfl rfl rfl rfl
  have hu := hr.units
  have sc := sc_check_facts
  exact (qss_one (qs_for hp rfl (qi_enumR 1 rfl g_enumerate (show 1 ∈ ([0, 1] : List Nat) from by decide)) (qg_tup rfl (qgs_cons (qg_name (i := 2) sc.nd rfl (by first | exact Or.inl rfl | exact Or.inr rfl) (show 2 ∉ ([0, 1] : List Nat) from by decide)) (qgs_cons (qg_name (i := 3) sc.nd rfl (by first | exact Or.inl rfl | exact Or.inr rfl) (show 3 ∉ ([0, 1] : List Nat) from by decide)) qgs_nil))) (qss_after [2, 3] (qss_one (qs_forgetA [] (qs_if (qt_not (qt_val (qe_callC c_is_fact (hr.mono (by decide)) rfl hx (qa_cons (qv 0) (qa_cons (qv 3) qa_nil))))) (qss_one (qs_forgetA [3] (qs_raise ra_BadFact rfl tk (hr.mono (by decide)) rfl (qv 2)))) qss_nil))))))
abbrev s__law_amount : Stmt := top 20
theorem sc__law_amount : FnScope ["_law_state_here"] ["_law_state_here"] (defScope s__law_amount) := ⟨rfl, rfl, rfl, by decide +kernel, rfl, by decide +kernel, by decide +kernel⟩
theorem wk__law_amount {f : Addr} {fd : FuncData} {sp : ASp} {sp__law_draw : ASp} (c__law_draw : Cal Pr w K mg base ("_law_draw" : Str) 1 ["_law_state_here", "_law_many"] sp__law_draw) {sp__law_number : ASp} (c__law_number : Cal Pr w K mg base ("_law_number" : Str) 2 ["_law_state_here"] sp__law_number) (F : FnP K ("_law_amount" : Str) ("_law_amount" : Str) s__law_amount [] f fd) (hlen : ∀ xs, sp.pre xs → xs.length = 1)
    (rd : ∀ xs, sp.pre xs → as__law_amount sp__law_draw sp__law_number (endsOf [0] sp xs) (startA 1 xs)) : Fok Pr w K mg base 3 f fd ["_law_state_here"] sp := by
  refine fn_mk (N := ["_law_state_here"]) (k := 2) [0] F sc__law_amount hlen (by decide) (fun cdv Ar outer s H E hr => ⟨as__law_amount sp__law_draw sp__law_number, ?_, rd⟩)
  have hx := fun σ => passAt (X := cxOf (L2.CX Pr w) Pr w K mg base ["_law_state_here"] ("_law_amount" : Str) (defScope s__law_amount) f cdv Ar outer s H E) (W := fun cls d _ H => E cls d H) (takes_of rfl rfl rfl rfl) σ
  have hp : PassesOwn _ _ _ (cxOf (L2.CX Pr w) Pr w K mg base ["_law_state_here"] ("_law_amount" : Str) (defScope s__law_amount) f cdv Ar outer s H E).xe := passes_of rfl
  have tk := takes_of (X := cxOf (L2.CX Pr w) Pr w K mg base ["_law_state_here"] ("_law_amount" : Str) (defScope s__law_amount) f cdv Ar outer s H E) rfl rfl rfl rfl
  have hu := hr.units
  have sc := sc__law_amount
  exact (qss_cons (qs_if (qt_cmp (or_eq hu) s_eq (qe_callC c__law_draw (hr.mono (by decide)) rfl hx (qa_cons (qr 0) (qa_cons qe_int qa_nil))) qe_int (nomark _)) (qss_one (qs_forgetA [] (qs_ret (qe_op op_mul s_mul (qe_callC c__law_number (hr.mono (by decide)) rfl hx (qa_cons (qr 0) qa_nil)) (qe_op op_pow s_pow qe_int qe_int))))) qss_nil)
    (qss_one (qs_forgetA [] (qs_ret (qe_op op_sub s_sub (qe_callC c__law_draw (hr.mono (by decide)) rfl hx (qa_cons (qr 0) (qa_cons qe_int qa_nil))) qe_int)))))
abbrev s__law_planted : Stmt := top 21
theorem sc__law_planted : FnScope ["_law_state_here", "_law_count", "_law_many", "_law_values", "_law_k", "_law_facts", "_law_a", "_law_b"] ["_law_state_here", "_law_count", "_law_many"] (defScope s__law_planted) := ⟨rfl, rfl, rfl, by decide +kernel, rfl, by decide +kernel, by decide +kernel⟩
theorem wk__law_planted {f : Addr} {fd : FuncData} {sp : ASp} {sp__law_number : ASp} (c__law_number : Cal Pr w K mg base ("_law_number" : Str) 2 ["_law_state_here"] sp__law_number) {sp__law_draw : ASp} (c__law_draw : Cal Pr w K mg base ("_law_draw" : Str) 1 ["_law_state_here", "_law_many"] sp__law_draw) (g_range : mg ("range" : Str) = none) (F : FnP K ("_law_planted" : Str) ("_law_planted" : Str) s__law_planted [] f fd) (hlen : ∀ xs, sp.pre xs → xs.length = 3)
    (rd : ∀ xs, sp.pre xs → as__law_planted sp__law_number sp__law_draw (endsOf [0, 1, 2] sp xs) (startA 8 xs)) : Fok Pr w K mg base 3 f fd ["_law_state_here", "_law_count", "_law_many"] sp := by
  refine fn_mk (N := ["_law_state_here", "_law_count", "_law_many", "_law_values", "_law_k", "_law_facts", "_law_a", "_law_b"]) (k := 2) [0, 1, 2] F sc__law_planted hlen (by decide) (fun cdv Ar outer s H E hr => ⟨as__law_planted sp__law_number sp__law_draw, ?_, rd⟩)
  have hx := fun σ => passAt (X := cxOf (L2.CX Pr w) Pr w K mg base ["_law_state_here", "_law_count", "_law_many", "_law_values", "_law_k", "_law_facts", "_law_a", "_law_b"] ("_law_planted" : Str) (defScope s__law_planted) f cdv Ar outer s H E) (W := fun cls d _ H => E cls d H) (takes_of rfl rfl rfl rfl) σ
  have hp : PassesOwn _ _ _ (cxOf (L2.CX Pr w) Pr w K mg base ["_law_state_here", "_law_count", "_law_many", "_law_values", "_law_k", "_law_facts", "_law_a", "_law_b"] ("_law_planted" : Str) (defScope s__law_planted) f cdv Ar outer s H E).xe := passes_of rfl
  have tk := takes_of (X := cxOf (L2.CX Pr w) Pr w K mg base ["_law_state_here", "_law_count", "_law_many", "_law_values", "_law_k", "_law_facts", "_law_a", "_law_b"] ("_law_planted" : Str) (defScope s__law_planted) f cdv Ar outer s H E) rfl rfl rfl rfl
  have hu := hr.units
  have sc := sc__law_planted
  exact (qss_cons (qs_forgetA [4] (qs_setLc [(("_law_k" : Str), 4)] rfl sc.nd (i := 3) rfl rfl (show 3 ∉ ([0, 1, 2] : List Nat) from by decide) (sw_true rfl rfl rfl rfl) (show BlkOk ["_law_state_here", "_law_count", "_law_many", "_law_values", "_law_k", "_law_facts", "_law_a", "_law_b"] (defScope s__law_planted) _ [(("_law_k" : Str), 4)] from blkOk_by (by decide +kernel)) (qi_range1 rfl g_range (qa_cons (qv 1) qa_nil)) (fun _ _ _ _ _ => (qg_name (i := 4) sc.nd rfl (by first | exact Or.inl rfl | exact Or.inr rfl) (show 4 ∉ ([0, 1, 2] : List Nat) from by decide))) (fun _ _ _ _ _ => qts_nil) (fun _ _ _ _ _ => (qe_callC c__law_number (hr.mono (by decide)) rfl passF (qa_cons (qr 0) qa_nil))) (show ∀ v ∈ ([4] : List Nat), v ∉ ([0, 1, 2] : List Nat) from by decide) (show ∀ i ∈ ([4] : List Nat), i ∈ ([4] : List Nat) from by decide)))
    (qss_cons (qs_forgetA [] (qs_set (i := 5) sc.nd rfl (by first | exact Or.inl rfl | exact Or.inr rfl) (qe_lst qa_nil) (show 5 ∉ ([0, 1, 2] : List Nat) from by decide)))
    (qss_cons (qs_forgetA [] (qs_for hp rfl (qi_range1 rfl g_range (qa_cons (qv 2) qa_nil)) (qg_name (i := 4) sc.nd rfl (by first | exact Or.inl rfl | exact Or.inr rfl) (show 4 ∉ ([0, 1, 2] : List Nat) from by decide)) (qss_after [6, 7] (qss_cons (qs_forgetA [4] (qs_set (i := 6) sc.nd rfl (by first | exact Or.inl rfl | exact Or.inr rfl) (qe_callC c__law_draw (hr.mono (by decide)) rfl hx (qa_cons (qr 0) (qa_cons (qv 1) qa_nil))) (show 6 ∉ ([0, 1, 2] : List Nat) from by decide)))
    (qss_cons (qs_forgetA [] (qs_set (i := 7) sc.nd rfl (by first | exact Or.inl rfl | exact Or.inr rfl) (qe_callC c__law_draw (hr.mono (by decide)) rfl hx (qa_cons (qr 0) (qa_cons (qv 1) qa_nil))) (show 7 ∉ ([0, 1, 2] : List Nat) from by decide)))
    (qss_one (qs_forgetA [] (qs_expr (qe_append (qr 5) (qe_tup (qa_cons (qv 6) (qa_cons (qv 7) (qa_cons (qe_op op_plus s_plus (qe_op op_sub s_sub (qe_ix hu (qv 3) (qv 6)) (qe_ix hu (qv 3) (qv 7))) (qe_callC c__law_draw (hr.mono (by decide)) rfl hx (qa_cons (qr 0) (qa_cons qe_int qa_nil)))) qa_nil)))))))))))))
    (qss_one (qs_forgetA [3] (qs_ret (qr 5)))))))
abbrev s__law_bad : Stmt := top 27
theorem sc__law_bad : FnScope ["_law_state_here", "_law_count", "_law_a", "_law_bad_here"] ["_law_state_here", "_law_count"] (defScope s__law_bad) := ⟨rfl, rfl, rfl, by decide +kernel, rfl, by decide +kernel, by decide +kernel⟩
theorem wk__law_bad {f : Addr} {fd : FuncData} {sp : ASp} {sp__law_draw : ASp} (c__law_draw : Cal Pr w K mg base ("_law_draw" : Str) 1 ["_law_state_here", "_law_many"] sp__law_draw) {sp__law_strange : ASp} (c__law_strange : Cal Pr w K mg base ("_law_strange" : Str) 2 ["_law_state_here"] sp__law_strange) (g_len : mg ("len" : Str) = none) (F : FnP K ("_law_bad" : Str) ("_law_bad" : Str) s__law_bad [] f fd) (hlen : ∀ xs, sp.pre xs → xs.length = 2)
    (rd : ∀ xs, sp.pre xs → as__law_bad sp__law_draw sp__law_strange (endsOf [0, 1] sp xs) (startA 4 xs)) : Fok Pr w K mg base 3 f fd ["_law_state_here", "_law_count"] sp := by
  refine fn_mk (N := ["_law_state_here", "_law_count", "_law_a", "_law_bad_here"]) (k := 2) [0, 1] F sc__law_bad hlen (by decide) (fun cdv Ar outer s H E hr => ⟨as__law_bad sp__law_draw sp__law_strange, ?_, rd⟩)
  have hx := fun σ => passAt (X := cxOf (L2.CX Pr w) Pr w K mg base ["_law_state_here", "_law_count", "_law_a", "_law_bad_here"] ("_law_bad" : Str) (defScope s__law_bad) f cdv Ar outer s H E) (W := fun cls d _ H => E cls d H) (takes_of rfl rfl rfl rfl) σ
  have hp : PassesOwn _ _ _ (cxOf (L2.CX Pr w) Pr w K mg base ["_law_state_here", "_law_count", "_law_a", "_law_bad_here"] ("_law_bad" : Str) (defScope s__law_bad) f cdv Ar outer s H E).xe := passes_of rfl
  have tk := takes_of (X := cxOf (L2.CX Pr w) Pr w K mg base ["_law_state_here", "_law_count", "_law_a", "_law_bad_here"] ("_law_bad" : Str) (defScope s__law_bad) f cdv Ar outer s H E) rfl rfl rfl rfl
  have hu := hr.units
  have sc := sc__law_bad
  exact (qss_cons (qs_set (i := 2) sc.nd rfl (by first | exact Or.inl rfl | exact Or.inr rfl) (qe_callC c__law_draw (hr.mono (by decide)) rfl hx (qa_cons (qr 0) (qa_cons (qv 1) qa_nil))) (show 2 ∉ ([0, 1] : List Nat) from by decide))
    (qss_cons (qs_forgetA [] (qs_set (i := 3) sc.nd rfl (by first | exact Or.inl rfl | exact Or.inr rfl) (qe_frz (qe_lst (qa_cons (qe_tup (qa_cons (qv 2) (qa_cons (qv 1) (qa_cons qe_int qa_nil)))) (qa_cons (qe_tup (qa_cons (qv 1) (qa_cons (qv 2) (qa_cons qe_int qa_nil)))) (qa_cons (qe_tup (qa_cons (qe_un un_neg s_neg qe_int) (qa_cons (qv 2) (qa_cons qe_int qa_nil)))) (qa_cons (qe_tup (qa_cons (qv 2) (qa_cons (qe_un un_neg s_neg qe_int) (qa_cons qe_int qa_nil)))) (qa_cons (qe_tup (qa_cons (qv 2) (qa_cons (qv 2) qa_nil))) (qa_cons (qe_tup (qa_cons (qv 2) (qa_cons (qv 2) (qa_cons qe_int (qa_cons qe_int qa_nil))))) (qa_cons (qe_lst (qa_cons (qv 2) (qa_cons (qv 2) (qa_cons qe_int qa_nil)))) (qa_cons (qe_tup (qa_cons (qv 2) (qa_cons (qv 2) (qa_cons qe_non qa_nil)))) (qa_cons (qe_tup (qa_cons (qv 2) (qa_cons (qv 2) (qa_cons qe_str qa_nil)))) qa_nil))))))))))) (show 3 ∉ ([0, 1] : List Nat) from by decide)))
    (qss_cons (qs_forgetA [] (qs_set (i := 3) sc.nd rfl (by first | exact Or.inl rfl | exact Or.inr rfl) (qe_frz (qe_op op_plus s_plus (qv 3) (qe_lst (qa_cons (qe_tup (qa_cons qe_bl (qa_cons (qv 2) (qa_cons qe_int qa_nil)))) (qa_cons (qe_tup (qa_cons (qv 2) (qa_cons qe_bl (qa_cons qe_int qa_nil)))) (qa_cons (qe_tup (qa_cons (qv 2) (qa_cons (qv 2) (qa_cons qe_bl qa_nil)))) (qa_cons (qe_callC c__law_strange (hr.mono (by decide)) rfl hx (qa_cons (qr 0) qa_nil)) qa_nil))))))) (show 3 ∉ ([0, 1] : List Nat) from by decide)))
    (qss_one (qs_forgetA [2] (qs_ret (qe_ix hu (qv 3) (qe_callC c__law_draw (hr.mono (by decide)) rfl hx (qa_cons (qr 0) (qa_cons (qe_callB cr_len s_len rfl g_len boot_len (qa_cons (qv 3) qa_nil)) qa_nil))))))))))
abbrev s_ring : Stmt := top 10
theorem sc_ring : FnScope ["count", "facts", "values", "origins", "lowered", "_"] ["count", "facts"] (defScope s_ring) := ⟨rfl, rfl, rfl, by decide +kernel, rfl, by decide +kernel, by decide +kernel⟩
theorem wk_ring {f : Addr} {fd : FuncData} {sp : ASp} {sp_check_facts : ASp} (c_check_facts : Cal Pr w K mg base ("check_facts" : Str) 3 ["count", "facts"] sp_check_facts) {sp_relaxed : ASp} (c_relaxed : Cal Pr w K mg base ("relaxed" : Str) 1 ["facts", "values", "origins"] sp_relaxed) {sp_ring_behind : ASp} (c_ring_behind : Cal Pr w K mg base ("ring_behind" : Str) 1 ["count", "facts", "origins", "lowered"] sp_ring_behind) (g_range : mg ("range" : Str) = none) (F : FnP K ("ring" : Str) ("ring" : Str) s_ring [] f fd) (hlen : ∀ xs, sp.pre xs → xs.length = 2)
    (rd : ∀ xs, sp.pre xs → as_ring sp_check_facts sp_relaxed sp_ring_behind (endsOf [0, 1] sp xs) (startA 6 xs)) : Fok Pr w K mg base 4 f fd ["count", "facts"] sp := by
  refine fn_mk (N := ["count", "facts", "values", "origins", "lowered", "_"]) (k := 3) [0, 1] F sc_ring hlen (by decide) (fun cdv Ar outer s H E hr => ⟨as_ring sp_check_facts sp_relaxed sp_ring_behind, ?_, rd⟩)
  have hx := fun σ => passAt (X := cxOf (L2.CX Pr w) Pr w K mg base ["count", "facts", "values", "origins", "lowered", "_"] ("ring" : Str) (defScope s_ring) f cdv Ar outer s H E) (W := fun cls d _ H => E cls d H) (takes_of rfl rfl rfl rfl) σ
  have hp : PassesOwn _ _ _ (cxOf (L2.CX Pr w) Pr w K mg base ["count", "facts", "values", "origins", "lowered", "_"] ("ring" : Str) (defScope s_ring) f cdv Ar outer s H E).xe := passes_of rfl
  have tk := takes_of (X := cxOf (L2.CX Pr w) Pr w K mg base ["count", "facts", "values", "origins", "lowered", "_"] ("ring" : Str) (defScope s_ring) f cdv Ar outer s H E) rfl rfl rfl rfl
  have hu := hr.units
  have sc := sc_ring
  exact (qss_cons (qs_expr (qe_callC c_check_facts (hr.mono (by decide)) rfl hx (qa_cons (qv 0) (qa_cons (qr 1) qa_nil))))
    (qss_cons (qs_forgetA [] (qs_set (i := 2) sc.nd rfl (by first | exact Or.inl rfl | exact Or.inr rfl) (qe_op op_rep s_repL (qe_lst (qa_cons qe_int qa_nil)) (qv 0)) (show 2 ∉ ([0, 1] : List Nat) from by decide)))
    (qss_cons (qs_forgetA [] (qs_set (i := 3) sc.nd rfl (by first | exact Or.inl rfl | exact Or.inr rfl) (qe_op op_rep s_repL (qe_lst (qa_cons qe_non qa_nil)) (qv 0)) (show 3 ∉ ([0, 1] : List Nat) from by decide)))
    (qss_cons (qs_forgetA [] (qs_set (i := 4) sc.nd rfl (by first | exact Or.inl rfl | exact Or.inr rfl) qe_non (show 4 ∉ ([0, 1] : List Nat) from by decide)))
    (qss_cons (qs_forgetA [] (qs_for hp rfl (qi_range1 rfl g_range (qa_cons (qv 0) qa_nil)) (qg_name (i := 5) sc.nd rfl (by first | exact Or.inl rfl | exact Or.inr rfl) (show 5 ∉ ([0, 1] : List Nat) from by decide)) (qss_cons (qs_forgetA [4, 5] (qs_set (i := 4) sc.nd rfl (by first | exact Or.inl rfl | exact Or.inr rfl) (qe_frz (qe_callC c_relaxed (hr.mono (by decide)) rfl hx (qa_cons (qr 1) (qa_cons (qr 2) (qa_cons (qr 3) qa_nil))))) (show 4 ∉ ([0, 1] : List Nat) from by decide)))
    (qss_one (qs_forgetA [] (qs_if (qt_cmp op_isN s_is (qv 4) qe_non (nomark _)) (qss_one (qs_forgetA [2, 3, 4] (qs_ret qe_non))) qss_nil))))))
    (qss_one (qs_forgetA [2] (qs_ret (qe_callC c_ring_behind (hr.mono (by decide)) rfl hx (qa_cons (qv 0) (qa_cons (qr 1) (qa_cons (qr 3) (qa_cons (qv 4) qa_nil)))))))))))))
abbrev s_solution : Stmt := top 11
theorem sc_solution : FnScope ["count", "facts", "values", "origins", "_"] ["count", "facts"] (defScope s_solution) := ⟨rfl, rfl, rfl, by decide +kernel, rfl, by decide +kernel, by decide +kernel⟩
theorem wk_solution {f : Addr} {fd : FuncData} {sp : ASp} {sp_check_facts : ASp} (c_check_facts : Cal Pr w K mg base ("check_facts" : Str) 3 ["count", "facts"] sp_check_facts) {sp_relaxed : ASp} (c_relaxed : Cal Pr w K mg base ("relaxed" : Str) 1 ["facts", "values", "origins"] sp_relaxed) (g_range : mg ("range" : Str) = none) (F : FnP K ("solution" : Str) ("solution" : Str) s_solution [] f fd) (hlen : ∀ xs, sp.pre xs → xs.length = 2)
    (rd : ∀ xs, sp.pre xs → as_solution sp_check_facts sp_relaxed (endsOf [0, 1] sp xs) (startA 5 xs)) : Fok Pr w K mg base 4 f fd ["count", "facts"] sp := by
  refine fn_mk (N := ["count", "facts", "values", "origins", "_"]) (k := 3) [0, 1] F sc_solution hlen (by decide) (fun cdv Ar outer s H E hr => ⟨as_solution sp_check_facts sp_relaxed, ?_, rd⟩)
  have hx := fun σ => passAt (X := cxOf (L2.CX Pr w) Pr w K mg base ["count", "facts", "values", "origins", "_"] ("solution" : Str) (defScope s_solution) f cdv Ar outer s H E) (W := fun cls d _ H => E cls d H) (takes_of rfl rfl rfl rfl) σ
  have hp : PassesOwn _ _ _ (cxOf (L2.CX Pr w) Pr w K mg base ["count", "facts", "values", "origins", "_"] ("solution" : Str) (defScope s_solution) f cdv Ar outer s H E).xe := passes_of rfl
  have tk := takes_of (X := cxOf (L2.CX Pr w) Pr w K mg base ["count", "facts", "values", "origins", "_"] ("solution" : Str) (defScope s_solution) f cdv Ar outer s H E) rfl rfl rfl rfl
  have hu := hr.units
  have sc := sc_solution
  exact (qss_cons (qs_expr (qe_callC c_check_facts (hr.mono (by decide)) rfl hx (qa_cons (qv 0) (qa_cons (qr 1) qa_nil))))
    (qss_cons (qs_forgetA [] (qs_set (i := 2) sc.nd rfl (by first | exact Or.inl rfl | exact Or.inr rfl) (qe_op op_rep s_repL (qe_lst (qa_cons qe_int qa_nil)) (qv 0)) (show 2 ∉ ([0, 1] : List Nat) from by decide)))
    (qss_cons (qs_forgetA [] (qs_set (i := 3) sc.nd rfl (by first | exact Or.inl rfl | exact Or.inr rfl) (qe_op op_rep s_repL (qe_lst (qa_cons qe_non qa_nil)) (qv 0)) (show 3 ∉ ([0, 1] : List Nat) from by decide)))
    (qss_cons (qs_forgetA [] (qs_for hp rfl (qi_range1 rfl g_range (qa_cons (qv 0) qa_nil)) (qg_name (i := 4) sc.nd rfl (by first | exact Or.inl rfl | exact Or.inr rfl) (show 4 ∉ ([0, 1] : List Nat) from by decide)) (qss_one (qs_forgetA [4] (qs_if (qt_cmp op_isN s_is (qe_callC c_relaxed (hr.mono (by decide)) rfl hx (qa_cons (qr 1) (qa_cons (qr 2) (qa_cons (qr 3) qa_nil)))) qe_non (nomark _)) (qss_one (qs_forgetA [3] (qs_ret (qr 2)))) qss_nil)))))
    (qss_one (qs_forgetA [2, 3] (qs_ret qe_non)))))))
abbrev s__law_free : Stmt := top 22
theorem sc__law_free : FnScope ["_law_state_here", "_law_count", "_law_many", "_law_facts", "_law_k"] ["_law_state_here", "_law_count", "_law_many"] (defScope s__law_free) := ⟨rfl, rfl, rfl, by decide +kernel, rfl, by decide +kernel, by decide +kernel⟩
theorem wk__law_free {f : Addr} {fd : FuncData} {sp : ASp} {sp__law_draw : ASp} (c__law_draw : Cal Pr w K mg base ("_law_draw" : Str) 1 ["_law_state_here", "_law_many"] sp__law_draw) {sp__law_amount : ASp} (c__law_amount : Cal Pr w K mg base ("_law_amount" : Str) 3 ["_law_state_here"] sp__law_amount) (g_range : mg ("range" : Str) = none) (F : FnP K ("_law_free" : Str) ("_law_free" : Str) s__law_free [] f fd) (hlen : ∀ xs, sp.pre xs → xs.length = 3)
    (rd : ∀ xs, sp.pre xs → as__law_free sp__law_draw sp__law_amount (endsOf [0, 1, 2] sp xs) (startA 5 xs)) : Fok Pr w K mg base 4 f fd ["_law_state_here", "_law_count", "_law_many"] sp := by
  refine fn_mk (N := ["_law_state_here", "_law_count", "_law_many", "_law_facts", "_law_k"]) (k := 3) [0, 1, 2] F sc__law_free hlen (by decide) (fun cdv Ar outer s H E hr => ⟨as__law_free sp__law_draw sp__law_amount, ?_, rd⟩)
  have hx := fun σ => passAt (X := cxOf (L2.CX Pr w) Pr w K mg base ["_law_state_here", "_law_count", "_law_many", "_law_facts", "_law_k"] ("_law_free" : Str) (defScope s__law_free) f cdv Ar outer s H E) (W := fun cls d _ H => E cls d H) (takes_of rfl rfl rfl rfl) σ
  have hp : PassesOwn _ _ _ (cxOf (L2.CX Pr w) Pr w K mg base ["_law_state_here", "_law_count", "_law_many", "_law_facts", "_law_k"] ("_law_free" : Str) (defScope s__law_free) f cdv Ar outer s H E).xe := passes_of rfl
  have tk := takes_of (X := cxOf (L2.CX Pr w) Pr w K mg base ["_law_state_here", "_law_count", "_law_many", "_law_facts", "_law_k"] ("_law_free" : Str) (defScope s__law_free) f cdv Ar outer s H E) rfl rfl rfl rfl
  have hu := hr.units
  have sc := sc__law_free
  exact (qss_cons (qs_set (i := 3) sc.nd rfl (by first | exact Or.inl rfl | exact Or.inr rfl) (qe_lst qa_nil) (show 3 ∉ ([0, 1, 2] : List Nat) from by decide))
    (qss_cons (qs_forgetA [] (qs_for hp rfl (qi_range1 rfl g_range (qa_cons (qv 2) qa_nil)) (qg_name (i := 4) sc.nd rfl (by first | exact Or.inl rfl | exact Or.inr rfl) (show 4 ∉ ([0, 1, 2] : List Nat) from by decide)) (qss_one (qs_forgetA [4] (qs_expr (qe_append (qr 3) (qe_tup (qa_cons (qe_callC c__law_draw (hr.mono (by decide)) rfl hx (qa_cons (qr 0) (qa_cons (qv 1) qa_nil))) (qa_cons (qe_callC c__law_draw (hr.mono (by decide)) rfl hx (qa_cons (qr 0) (qa_cons (qv 1) qa_nil))) (qa_cons (qe_callC c__law_amount (hr.mono (by decide)) rfl hx (qa_cons (qr 0) qa_nil)) qa_nil))))))))))
    (qss_one (qs_forgetA [] (qs_ret (qr 3))))))
abbrev s__law_looped : Stmt := top 23
theorem sc__law_looped : FnScope ["_law_state_here", "_law_count", "_law_facts", "_law_way", "_law_k", "_law_left", "_law_made", "_law_number_here"] ["_law_state_here", "_law_count", "_law_facts"] (defScope s__law_looped) := ⟨rfl, rfl, rfl, by decide +kernel, rfl, by decide +kernel, by decide +kernel⟩
theorem wk__law_looped {f : Addr} {fd : FuncData} {sp : ASp} {sp__law_draw : ASp} (c__law_draw : Cal Pr w K mg base ("_law_draw" : Str) 1 ["_law_state_here", "_law_many"] sp__law_draw) {sp__law_amount : ASp} (c__law_amount : Cal Pr w K mg base ("_law_amount" : Str) 3 ["_law_state_here"] sp__law_amount) (g_range : mg ("range" : Str) = none) (g_list : mg ("list" : Str) = none) (g_len : mg ("len" : Str) = none) (F : FnP K ("_law_looped" : Str) ("_law_looped" : Str) s__law_looped [] f fd) (hlen : ∀ xs, sp.pre xs → xs.length = 3)
    (rd : ∀ xs, sp.pre xs → as__law_looped sp__law_draw sp__law_amount (endsOf [0, 1, 2] sp xs) (startA 8 xs)) : Fok Pr w K mg base 4 f fd ["_law_state_here", "_law_count", "_law_facts"] sp := by
  refine fn_mk (N := ["_law_state_here", "_law_count", "_law_facts", "_law_way", "_law_k", "_law_left", "_law_made", "_law_number_here"]) (k := 3) [0, 1, 2] F sc__law_looped hlen (by decide) (fun cdv Ar outer s H E hr => ⟨as__law_looped sp__law_draw sp__law_amount, ?_, rd⟩)
  have hx := fun σ => passAt (X := cxOf (L2.CX Pr w) Pr w K mg base ["_law_state_here", "_law_count", "_law_facts", "_law_way", "_law_k", "_law_left", "_law_made", "_law_number_here"] ("_law_looped" : Str) (defScope s__law_looped) f cdv Ar outer s H E) (W := fun cls d _ H => E cls d H) (takes_of rfl rfl rfl rfl) σ
  have hp : PassesOwn _ _ _ (cxOf (L2.CX Pr w) Pr w K mg base ["_law_state_here", "_law_count", "_law_facts", "_law_way", "_law_k", "_law_left", "_law_made", "_law_number_here"] ("_law_looped" : Str) (defScope s__law_looped) f cdv Ar outer s H E).xe := passes_of rfl
  have tk := takes_of (X := cxOf (L2.CX Pr w) Pr w K mg base ["_law_state_here", "_law_count", "_law_facts", "_law_way", "_law_k", "_law_left", "_law_made", "_law_number_here"] ("_law_looped" : Str) (defScope s__law_looped) f cdv Ar outer s H E) rfl rfl rfl rfl
  have hu := hr.units
  have sc := sc__law_looped
  exact (qss_cons (qs_forgetA [4] (qs_setLc [(("_law_k" : Str), 4)] rfl sc.nd (i := 3) rfl rfl (show 3 ∉ ([0, 1, 2] : List Nat) from by decide) (sw_true rfl rfl rfl rfl) (show BlkOk ["_law_state_here", "_law_count", "_law_facts", "_law_way", "_law_k", "_law_left", "_law_made", "_law_number_here"] (defScope s__law_looped) _ [(("_law_k" : Str), 4)] from blkOk_by (by decide +kernel)) (qi_range1 rfl g_range (qa_cons (qe_op op_plus s_plus qe_int (qe_callC c__law_draw (hr.mono (by decide)) rfl hx (qa_cons (qr 0) (qa_cons qe_int qa_nil)))) qa_nil)) (fun _ _ _ _ _ => (qg_name (i := 4) sc.nd rfl (by first | exact Or.inl rfl | exact Or.inr rfl) (show 4 ∉ ([0, 1, 2] : List Nat) from by decide))) (fun _ _ _ _ _ => qts_nil) (fun _ _ _ _ _ => (qe_callC c__law_draw (hr.mono (by decide)) rfl passF (qa_cons (qr 0) (qa_cons (qv 1) qa_nil)))) (show ∀ v ∈ ([4] : List Nat), v ∉ ([0, 1, 2] : List Nat) from by decide) (show ∀ i ∈ ([4] : List Nat), i ∈ ([4] : List Nat) from by decide)))
    (qss_cons (qs_forgetA [] (qs_set (i := 5) sc.nd rfl (by first | exact Or.inl rfl | exact Or.inr rfl) (qe_un un_neg s_neg qe_int) (show 5 ∉ ([0, 1, 2] : List Nat) from by decide)))
    (qss_cons (qs_forgetA [] (qs_set (i := 6) sc.nd rfl (by first | exact Or.inl rfl | exact Or.inr rfl) (qe_callTy (cr_list rfl) s_list rfl g_list PyProof.Rows.boot_list (qa_cons (qv 2) qa_nil)) (show 6 ∉ ([0, 1, 2] : List Nat) from by decide)))
    (qss_cons (qs_forgetA [] (qs_for hp rfl (qi_range1 rfl g_range (qa_cons (qe_callB cr_len s_len rfl g_len boot_len (qa_cons (qv 3) qa_nil)) qa_nil)) (qg_name (i := 4) sc.nd rfl (by first | exact Or.inl rfl | exact Or.inr rfl) (show 4 ∉ ([0, 1, 2] : List Nat) from by decide)) (qss_after [4, 7] (qss_cons (qs_forgetA [] (qs_set (i := 7) sc.nd rfl (by first | exact Or.inl rfl | exact Or.inr rfl) (qe_callC c__law_amount (hr.mono (by decide)) rfl hx (qa_cons (qr 0) qa_nil)) (show 7 ∉ ([0, 1, 2] : List Nat) from by decide)))
    (qss_cons (qs_forgetA [] (qs_if (qt_cmp (or_eq hu) s_eq (qv 4) (qe_op op_sub s_sub (qe_callB cr_len s_len rfl g_len boot_len (qa_cons (qv 3) qa_nil)) qe_int) (nomark _)) (qss_one (qs_forgetA [7] (qs_set (i := 7) sc.nd rfl (by first | exact Or.inl rfl | exact Or.inr rfl) (qv 5) (show 7 ∉ ([0, 1, 2] : List Nat) from by decide)))) qss_nil))
    (qss_cons (qs_forgetA [] (qs_set (i := 5) sc.nd rfl (by first | exact Or.inl rfl | exact Or.inr rfl) (qe_op op_sub s_sub (qv 5) (qv 7)) (show 5 ∉ ([0, 1, 2] : List Nat) from by decide)))
    (qss_one (qs_forgetA [] (qs_expr (qe_insert (qr 6) (qe_callC c__law_draw (hr.mono (by decide)) rfl hx (qa_cons (qr 0) (qa_cons (qe_op op_plus s_plus (qe_callB cr_len s_len rfl g_len boot_len (qa_cons (qr 6) qa_nil)) qe_int) qa_nil))) (qe_tup (qa_cons (qe_ix hu (qv 3) (qv 4)) (qa_cons (qe_ix hu (qv 3) (qe_op op_mod s_mod (qe_op op_plus s_plus (qv 4) qe_int) (qe_callB cr_len s_len rfl g_len boot_len (qa_cons (qv 3) qa_nil)))) (qa_cons (qv 7) qa_nil))))))))))))))
    (qss_one (qs_forgetA [3, 5] (qs_ret (qr 6))))))))
abbrev s__law_refused : Stmt := top 26
theorem sc__law_refused : FnScope ["_law_count", "_law_facts", "_law_told", "_law_bad_here"] ["_law_count", "_law_facts"] (defScope s__law_refused) := ⟨rfl, rfl, rfl, by decide +kernel, rfl, by decide +kernel, by decide +kernel⟩
theorem wk__law_refused {f : Addr} {fd : FuncData} {sp : ASp} {C_BadFact : Addr} {sp_ring : ASp} (c_ring : Cal Pr w K mg base ("ring" : Str) 4 ["count", "facts"] sp_ring) {sp_solution : ASp} (c_solution : Cal Pr w K mg base ("solution" : Str) 4 ["count", "facts"] sp_solution) (xf_BadFact : XfC K C_BadFact) (nx_BadFact : PySem.W.findIn K (.ref C_BadFact) ("at" : Str) = some none) (gc_BadFact : mg ("BadFact" : Str) = some (.ref C_BadFact)) (F : FnP K ("_law_refused" : Str) ("_law_refused" : Str) s__law_refused [] f fd) (hlen : ∀ xs, sp.pre xs → xs.length = 2)
    (rd : ∀ xs, sp.pre xs → as__law_refused K C_BadFact sp_ring sp_solution (endsOf [0, 1] sp xs) (startA 4 xs)) : Fok Pr w K mg base 5 f fd ["_law_count", "_law_facts"] sp := by
  refine fn_mk (N := ["_law_count", "_law_facts", "_law_told", "_law_bad_here"]) (k := 4) [0, 1] F sc__law_refused hlen (by decide) (fun cdv Ar outer s H E hr => ⟨as__law_refused K C_BadFact sp_ring sp_solution, ?_, rd⟩)
  have hx := fun σ => passAt (X := cxOf (L2.CX Pr w) Pr w K mg base ["_law_count", "_law_facts", "_law_told", "_law_bad_here"] ("_law_refused" : Str) (defScope s__law_refused) f cdv Ar outer s H E) (W := fun cls d _ H => E cls d H) (takes_of rfl rfl rfl rfl) σ
  have hp : PassesOwn _ _ _ (cxOf (L2.CX Pr w) Pr w K mg base ["_law_count", "_law_facts", "_law_told", "_law_bad_here"] ("_law_refused" : Str) (defScope s__law_refused) f cdv Ar outer s H E).xe := passes_of rfl
  have tk := takes_of (X := cxOf (L2.CX Pr w) Pr w K mg base ["_law_count", "_law_facts", "_law_told", "_law_bad_here"] ("_law_refused" : Str) (defScope s__law_refused) f cdv Ar outer s H E) rfl rfl rfl rfl
  have hu := hr.units
  have sc := sc__law_refused
  exact (qss_cons (qs_set (i := 2) sc.nd rfl (by first | exact Or.inl rfl | exact Or.inr rfl) (qe_lst qa_nil) (show 2 ∉ ([0, 1] : List Nat) from by decide))
    (qss_cons (qs_forgetA [] (qs_tryS (i := 3) rfl rfl sc.nd rfl rfl (show 3 ∉ ([0, 1] : List Nat) from by decide) rfl gc_BadFact tk (fun W pn xe tk2 hp2 => have hx2 := fun σ => passAt tk2 σ; (qss_cons (qs_forgetA [] (qs_expr (qe_callC c_ring (hr.mono (by decide)) rfl hx2 (qa_cons (qv 0) (qa_cons (qr 1) qa_nil)))))
    (qss_one (qs_forgetA [] (qs_expr (qe_append (qr 2) (qe_tup (qa_cons qe_str (qa_cons qe_int qa_nil))))))))) (fun a oe dd pn ws fs hz hfs => (qss_one (qs_forgetA [] (qs_expr (qe_append (qr 2) (qe_tup (qa_cons qe_str (qa_cons (qx_fld xf_BadFact nx_BadFact hz hfs) qa_nil))))))))))
    (qss_cons (qs_forgetA [3] (qs_tryS (i := 3) rfl rfl sc.nd rfl rfl (show 3 ∉ ([0, 1] : List Nat) from by decide) rfl gc_BadFact tk (fun W pn xe tk2 hp2 => have hx2 := fun σ => passAt tk2 σ; (qss_cons (qs_forgetA [] (qs_expr (qe_callC c_solution (hr.mono (by decide)) rfl hx2 (qa_cons (qv 0) (qa_cons (qr 1) qa_nil)))))
    (qss_one (qs_forgetA [] (qs_expr (qe_append (qr 2) (qe_tup (qa_cons qe_str (qa_cons qe_int qa_nil))))))))) (fun a oe dd pn ws fs hz hfs => (qss_one (qs_forgetA [] (qs_expr (qe_append (qr 2) (qe_tup (qa_cons qe_str (qa_cons (qx_fld xf_BadFact nx_BadFact hz hfs) qa_nil))))))))))
    (qss_one (qs_forgetA [3] (qs_ret (qr 2)))))))
abbrev s__law_refuses : Stmt := top 29
theorem sc__law_refuses : FnScope ["_law_state_here", "_law_count", "_law_facts", "_law_handed", "_law_k", "_law_wrong", "_law_due"] ["_law_state_here", "_law_count", "_law_facts"] (defScope s__law_refuses) := ⟨rfl, rfl, rfl, by decide +kernel, rfl, by decide +kernel, by decide +kernel⟩
theorem wk__law_refuses {f : Addr} {fd : FuncData} {sp : ASp} {sp__law_draw : ASp} (c__law_draw : Cal Pr w K mg base ("_law_draw" : Str) 1 ["_law_state_here", "_law_many"] sp__law_draw) {sp__law_bad : ASp} (c__law_bad : Cal Pr w K mg base ("_law_bad" : Str) 3 ["_law_state_here", "_law_count"] sp__law_bad) {sp__law_is_fact : ASp} (c__law_is_fact : Cal Pr w K mg base ("_law_is_fact" : Str) 2 ["_law_count", "_law_thing"] sp__law_is_fact) {sp__law_refused : ASp} (c__law_refused : Cal Pr w K mg base ("_law_refused" : Str) 5 ["_law_count", "_law_facts"] sp__law_refused) (g_list : mg ("list" : Str) = none) (g_range : mg ("range" : Str) = none) (g_len : mg ("len" : Str) = none) (F : FnP K ("_law_refuses" : Str) ("_law_refuses" : Str) s__law_refuses [] f fd) (hlen : ∀ xs, sp.pre xs → xs.length = 3)
    (rd : ∀ xs, sp.pre xs → as__law_refuses sp__law_draw sp__law_bad sp__law_is_fact sp__law_refused (endsOf [0, 1, 2] sp xs) (startA 7 xs)) : Fok Pr w K mg base 6 f fd ["_law_state_here", "_law_count", "_law_facts"] sp := by
  refine fn_mk (N := ["_law_state_here", "_law_count", "_law_facts", "_law_handed", "_law_k", "_law_wrong", "_law_due"]) (k := 5) [0, 1, 2] F sc__law_refuses hlen (by decide) (fun cdv Ar outer s H E hr => ⟨as__law_refuses sp__law_draw sp__law_bad sp__law_is_fact sp__law_refused, ?_, rd⟩)
  have hx := fun σ => passAt (X := cxOf (L2.CX Pr w) Pr w K mg base ["_law_state_here", "_law_count", "_law_facts", "_law_handed", "_law_k", "_law_wrong", "_law_due"] ("_law_refuses" : Str) (defScope s__law_refuses) f cdv Ar outer s H E) (W := fun cls d _ H => E cls d H) (takes_of rfl rfl rfl rfl) σ
  have hp : PassesOwn _ _ _ (cxOf (L2.CX Pr w) Pr w K mg base ["_law_state_here", "_law_count", "_law_facts", "_law_handed", "_law_k", "_law_wrong", "_law_due"] ("_law_refuses" : Str) (defScope s__law_refuses) f cdv Ar outer s H E).xe := passes_of rfl
  have tk := takes_of (X := cxOf (L2.CX Pr w) Pr w K mg base ["_law_state_here", "_law_count", "_law_facts", "_law_handed", "_law_k", "_law_wrong", "_law_due"] ("_law_refuses" : Str) (defScope s__law_refuses) f cdv Ar outer s H E) rfl rfl rfl rfl
  have hu := hr.units
  have sc := sc__law_refuses
  exact (qss_cons (qs_set (i := 3) sc.nd rfl (by first | exact Or.inl rfl | exact Or.inr rfl) (qe_callTy (cr_list rfl) s_list rfl g_list PyProof.Rows.boot_list (qa_cons (qv 2) qa_nil)) (show 3 ∉ ([0, 1, 2] : List Nat) from by decide))
    (qss_cons (qs_forgetA [] (qs_for hp rfl (qi_range1 rfl g_range (qa_cons (qe_op op_plus s_plus qe_int (qe_callC c__law_draw (hr.mono (by decide)) rfl hx (qa_cons (qr 0) (qa_cons qe_int qa_nil)))) qa_nil)) (qg_name (i := 4) sc.nd rfl (by first | exact Or.inl rfl | exact Or.inr rfl) (show 4 ∉ ([0, 1, 2] : List Nat) from by decide)) (qss_one (qs_forgetA [] (qs_expr (qe_insert (qr 3) (qe_callC c__law_draw (hr.mono (by decide)) rfl hx (qa_cons (qr 0) (qa_cons (qe_op op_plus s_plus (qe_callB cr_len s_len rfl g_len boot_len (qa_cons (qr 3) qa_nil)) qe_int) qa_nil))) (qe_callC c__law_bad (hr.mono (by decide)) rfl hx (qa_cons (qr 0) (qa_cons (qv 1) qa_nil)))))))))
    (qss_cons (qs_forgetA [4] (qs_setLc [(("_law_k" : Str), 4)] rfl sc.nd (i := 5) rfl rfl (show 5 ∉ ([0, 1, 2] : List Nat) from by decide) (sw_true rfl rfl rfl rfl) (show BlkOk ["_law_state_here", "_law_count", "_law_facts", "_law_handed", "_law_k", "_law_wrong", "_law_due"] (defScope s__law_refuses) _ [(("_law_k" : Str), 4)] from blkOk_by (by decide +kernel)) (qi_range1 rfl g_range (qa_cons (qe_callB cr_len s_len rfl g_len boot_len (qa_cons (qr 3) qa_nil)) qa_nil)) (fun _ _ _ _ _ => (qg_name (i := 4) sc.nd rfl (by first | exact Or.inl rfl | exact Or.inr rfl) (show 4 ∉ ([0, 1, 2] : List Nat) from by decide))) (fun _ _ _ _ _ => (qts_one (qt_not (qt_val (qe_callC c__law_is_fact (hr.mono (by decide)) rfl passF (qa_cons (qv 1) (qa_cons (qe_ix hu (qr 3) (qv 4)) qa_nil))))))) (fun _ _ _ _ _ => (qv 4)) (show ∀ v ∈ ([4] : List Nat), v ∉ ([0, 1, 2] : List Nat) from by decide) (show ∀ i ∈ ([4] : List Nat), i ∈ ([4] : List Nat) from by decide)))
    (qss_cons (qs_forgetA [4] (qs_set (i := 6) sc.nd rfl (by first | exact Or.inl rfl | exact Or.inr rfl) (qe_tup (qa_cons qe_str (qa_cons qe_int qa_nil))) (show 6 ∉ ([0, 1, 2] : List Nat) from by decide)))
    (qss_cons (qs_forgetA [] (qs_if (qt_cmp op_gt s_gt (qe_callB cr_len s_len rfl g_len boot_len (qa_cons (qv 5) qa_nil)) qe_int (nomark _)) (qss_one (qs_forgetA [6] (qs_set (i := 6) sc.nd rfl (by first | exact Or.inl rfl | exact Or.inr rfl) (qe_tup (qa_cons qe_str (qa_cons (qe_ix hu (qv 5) qe_int) qa_nil))) (show 6 ∉ ([0, 1, 2] : List Nat) from by decide)))) qss_nil))
    (qss_one (qs_forgetA [5] (qs_ret (qe_and (qe_cmp (or_eq hu) s_eq (qe_callC c__law_refused (hr.mono (by decide)) rfl hx (qa_cons (qv 1) (qa_cons (qr 3) qa_nil))) (qe_lst (qa_cons (qv 6) (qa_cons (qv 6) qa_nil))) (nomark _)) (qe_one (qe_cmp (or_eq hu) s_eq (qe_callC c__law_refused (hr.mono (by decide)) rfl hx (qa_cons (qv 1) (qa_cons (qe_callTy (cr_list rfl) s_list rfl g_list PyProof.Rows.boot_list (qa_cons (qv 2) qa_nil)) qa_nil))) (qe_lst (qa_cons (qe_tup (qa_cons qe_str (qa_cons qe_int qa_nil))) (qa_cons (qe_tup (qa_cons qe_str (qa_cons qe_int qa_nil))) qa_nil))) (nomark _))))))))))))
abbrev s_law : Stmt := top 30
theorem sc_law : FnScope ["_law_script", "_law_state_here", "_law_turn", "_law_count", "_law_kind", "_law_many", "_law_facts", "_law_handed", "_law_loop", "_law_values"] ["_law_script"] (defScope s_law) := ⟨rfl, rfl, rfl, by decide +kernel, rfl, by decide +kernel, by decide +kernel⟩
theorem wk_law {f : Addr} {fd : FuncData} {sp : ASp} {sp__law_state : ASp} (c__law_state : Cal Pr w K mg base ("_law_state" : Str) 1 ["_law_script"] sp__law_state) {sp__law_draw : ASp} (c__law_draw : Cal Pr w K mg base ("_law_draw" : Str) 1 ["_law_state_here", "_law_many"] sp__law_draw) {sp__law_size : ASp} (c__law_size : Cal Pr w K mg base ("_law_size" : Str) 2 ["_law_state_here"] sp__law_size) {sp__law_planted : ASp} (c__law_planted : Cal Pr w K mg base ("_law_planted" : Str) 3 ["_law_state_here", "_law_count", "_law_many"] sp__law_planted) {sp__law_free : ASp} (c__law_free : Cal Pr w K mg base ("_law_free" : Str) 4 ["_law_state_here", "_law_count", "_law_many"] sp__law_free) {sp__law_looped : ASp} (c__law_looped : Cal Pr w K mg base ("_law_looped" : Str) 4 ["_law_state_here", "_law_count", "_law_facts"] sp__law_looped) {sp_ring : ASp} (c_ring : Cal Pr w K mg base ("ring" : Str) 4 ["count", "facts"] sp_ring) {sp_solution : ASp} (c_solution : Cal Pr w K mg base ("solution" : Str) 4 ["count", "facts"] sp_solution) {sp__law_keeps : ASp} (c__law_keeps : Cal Pr w K mg base ("_law_keeps" : Str) 2 ["_law_count", "_law_facts", "_law_found"] sp__law_keeps) {sp__law_is_closed : ASp} (c__law_is_closed : Cal Pr w K mg base ("_law_is_closed" : Str) 2 ["_law_facts", "_law_found"] sp__law_is_closed) {sp_is_ring : ASp} (c_is_ring : Cal Pr w K mg base ("is_ring" : Str) 2 ["facts", "thing"] sp_is_ring) {sp__law_refuses : ASp} (c__law_refuses : Cal Pr w K mg base ("_law_refuses" : Str) 6 ["_law_state_here", "_law_count", "_law_facts"] sp__law_refuses) (g_range : mg ("range" : Str) = none) (g_list : mg ("list" : Str) = none) (F : FnP K ("law" : Str) ("law" : Str) s_law [] f fd) (hlen : ∀ xs, sp.pre xs → xs.length = 1)
    (rd : ∀ xs, sp.pre xs → as_law sp__law_state sp__law_draw sp__law_size sp__law_planted sp__law_free sp__law_looped sp_ring sp_solution sp__law_keeps sp__law_is_closed sp_is_ring sp__law_refuses (endsOf [0] sp xs) (startA 10 xs)) : Fok Pr w K mg base 7 f fd ["_law_script"] sp := by
  refine fn_mk (N := ["_law_script", "_law_state_here", "_law_turn", "_law_count", "_law_kind", "_law_many", "_law_facts", "_law_handed", "_law_loop", "_law_values"]) (k := 6) [0] F sc_law hlen (by decide) (fun cdv Ar outer s H E hr => ⟨as_law sp__law_state sp__law_draw sp__law_size sp__law_planted sp__law_free sp__law_looped sp_ring sp_solution sp__law_keeps sp__law_is_closed sp_is_ring sp__law_refuses, ?_, rd⟩)
  have hx := fun σ => passAt (X := cxOf (L2.CX Pr w) Pr w K mg base ["_law_script", "_law_state_here", "_law_turn", "_law_count", "_law_kind", "_law_many", "_law_facts", "_law_handed", "_law_loop", "_law_values"] ("law" : Str) (defScope s_law) f cdv Ar outer s H E) (W := fun cls d _ H => E cls d H) (takes_of rfl rfl rfl rfl) σ
  have hp : PassesOwn _ _ _ (cxOf (L2.CX Pr w) Pr w K mg base ["_law_script", "_law_state_here", "_law_turn", "_law_count", "_law_kind", "_law_many", "_law_facts", "_law_handed", "_law_loop", "_law_values"] ("law" : Str) (defScope s_law) f cdv Ar outer s H E).xe := passes_of rfl
  have tk := takes_of (X := cxOf (L2.CX Pr w) Pr w K mg base ["_law_script", "_law_state_here", "_law_turn", "_law_count", "_law_kind", "_law_many", "_law_facts", "_law_handed", "_law_loop", "_law_values"] ("law" : Str) (defScope s_law) f cdv Ar outer s H E) rfl rfl rfl rfl
  have hu := hr.units
  have sc := sc_law
  exact (qss_cons (qs_set (i := 1) sc.nd rfl (by first | exact Or.inl rfl | exact Or.inr rfl) (qe_callC c__law_state (hr.mono (by decide)) rfl hx (qa_cons (qv 0) qa_nil)) (show 1 ∉ ([0] : List Nat) from by decide))
    (qss_cons (qs_forgetA [] (qs_for hp rfl (qi_range1 rfl g_range (qa_cons (qe_op op_plus s_plus qe_int (qe_callC c__law_draw (hr.mono (by decide)) rfl hx (qa_cons (qr 1) (qa_cons qe_int qa_nil)))) qa_nil)) (qg_name (i := 2) sc.nd rfl (by first | exact Or.inl rfl | exact Or.inr rfl) (show 2 ∉ ([0] : List Nat) from by decide)) (qss_after [3, 6] (qss_cons (qs_forgetA [2] (qs_set (i := 3) sc.nd rfl (by first | exact Or.inl rfl | exact Or.inr rfl) (qe_op op_plus s_plus qe_int (qe_callC c__law_draw (hr.mono (by decide)) rfl hx (qa_cons (qr 1) (qa_cons qe_int qa_nil)))) (show 3 ∉ ([0] : List Nat) from by decide)))
    (qss_cons (qs_forgetA [] (qs_set (i := 4) sc.nd rfl (by first | exact Or.inl rfl | exact Or.inr rfl) (qe_callC c__law_draw (hr.mono (by decide)) rfl hx (qa_cons (qr 1) (qa_cons qe_int qa_nil))) (show 4 ∉ ([0] : List Nat) from by decide)))
    (qss_cons (qs_forgetA [] (qs_set (i := 5) sc.nd rfl (by first | exact Or.inl rfl | exact Or.inr rfl) (qe_frz (qe_callC c__law_size (hr.mono (by decide)) rfl hx (qa_cons (qr 1) qa_nil))) (show 5 ∉ ([0] : List Nat) from by decide)))
    (qss_cons (qs_forgetA [] (qs_if (qt_cmp (or_eq hu) s_eq (qv 4) qe_int (nomark _)) (qss_one (qs_forgetA [] (qs_set (i := 6) sc.nd rfl (by first | exact Or.inl rfl | exact Or.inr rfl) (qe_frz (qe_callC c__law_planted (hr.mono (by decide)) rfl hx (qa_cons (qr 1) (qa_cons (qv 3) (qa_cons (qv 5) qa_nil))))) (show 6 ∉ ([0] : List Nat) from by decide)))) (qss_one (qs_forgetA [] (qs_set (i := 6) sc.nd rfl (by first | exact Or.inl rfl | exact Or.inr rfl) (qe_frz (qe_callC c__law_free (hr.mono (by decide)) rfl hx (qa_cons (qr 1) (qa_cons (qv 3) (qa_cons (qv 5) qa_nil))))) (show 6 ∉ ([0] : List Nat) from by decide))))))
    (qss_cons (qs_forgetA [5] (qs_if (qt_cmp (or_eq hu) s_eq (qv 4) qe_int (nomark _)) (qss_one (qs_forgetA [] (qs_set (i := 6) sc.nd rfl (by first | exact Or.inl rfl | exact Or.inr rfl) (qe_frz (qe_callC c__law_looped (hr.mono (by decide)) rfl hx (qa_cons (qr 1) (qa_cons (qv 3) (qa_cons (qe_frz (qe_slice (qv 6) qo_none (qo_some qe_int))) qa_nil))))) (show 6 ∉ ([0] : List Nat) from by decide)))) qss_nil))
    (qss_cons (qs_forgetA [] (qs_set (i := 7) sc.nd rfl (by first | exact Or.inl rfl | exact Or.inr rfl) (qe_callTy (cr_list rfl) s_list rfl g_list PyProof.Rows.boot_list (qa_cons (qv 6) qa_nil)) (show 7 ∉ ([0] : List Nat) from by decide)))
    (qss_cons (qs_forgetA [] (qs_set (i := 8) sc.nd rfl (by first | exact Or.inl rfl | exact Or.inr rfl) (qe_frz (qe_callC c_ring (hr.mono (by decide)) rfl hx (qa_cons (qv 3) (qa_cons (qr 7) qa_nil)))) (show 8 ∉ ([0] : List Nat) from by decide)))
    (qss_cons (qs_forgetA [] (qs_set (i := 9) sc.nd rfl (by first | exact Or.inl rfl | exact Or.inr rfl) (qe_frz (qe_callC c_solution (hr.mono (by decide)) rfl hx (qa_cons (qv 3) (qa_cons (qr 7) qa_nil)))) (show 9 ∉ ([0] : List Nat) from by decide)))
    (qss_cons (qs_forgetA [] (qs_if (qt_w (qw_or (qt_cmp (or_ne hu) s_ne (qr 7) (qv 6) (nomark _)) (qw_or1 (qt_cmp (or_eq hu) s_eq (qe_cmp op_isN s_is (qv 8) qe_non (nomark _)) (qe_cmp op_isN s_is (qv 9) qe_non (nomark _)) (nomark _))))) (qss_one (qs_forgetA [1, 3, 4, 6, 7, 8, 9] (qs_ret qe_bl))) qss_nil))
    (qss_cons (qs_forgetA [] (qs_if (qt_w (qw_or (qt_cmp (or_ne hu) s_ne (qe_callC c_ring (hr.mono (by decide)) rfl hx (qa_cons (qv 3) (qa_cons (qr 7) qa_nil))) (qv 8) (nomark _)) (qw_or1 (qt_cmp (or_ne hu) s_ne (qe_callC c_solution (hr.mono (by decide)) rfl hx (qa_cons (qv 3) (qa_cons (qr 7) qa_nil))) (qv 9) (nomark _))))) (qss_one (qs_forgetA [1, 3, 4, 6, 7, 8, 9] (qs_ret qe_bl))) qss_nil))
    (qss_cons (qs_forgetA [7] (qs_if (qt_w (qw_and (qt_cmp op_lt s_lt (qv 4) qe_int (nomark _)) (qw_and1 (qt_cmp (or_ne hu) s_ne (qe_cmp op_isN s_is (qv 8) qe_non (nomark _)) (qe_cmp (or_eq hu) s_eq (qv 4) qe_int (nomark _)) (nomark _))))) (qss_one (qs_forgetA [1, 3, 4, 6, 8, 9] (qs_ret qe_bl))) qss_nil))
    (qss_cons (qs_forgetA [4] (qs_if (qt_w (qw_and (qt_cmp op_isN s_is (qv 8) qe_non (nomark _)) (qw_and1 (qt_not (qt_val (qe_callC c__law_keeps (hr.mono (by decide)) rfl hx (qa_cons (qv 3) (qa_cons (qv 6) (qa_cons (qv 9) qa_nil))))))))) (qss_one (qs_forgetA [1, 3, 6, 8, 9] (qs_ret qe_bl))) qss_nil))
    (qss_cons (qs_forgetA [9] (qs_if (qt_w (qw_and (qt_cmp op_notN s_isNot (qv 8) qe_non (nomark _)) (qw_and1 (qt_w (qw_or (qt_not (qt_val (qe_callC c__law_is_closed (hr.mono (by decide)) rfl hx (qa_cons (qv 6) (qa_cons (qv 8) qa_nil))))) (qw_or1 (qt_cmp op_notB s_isNotB (qe_callC c_is_ring (hr.mono (by decide)) rfl hx (qa_cons (qv 6) (qa_cons (qv 8) qa_nil))) qe_bl (nomark _)))))))) (qss_one (qs_forgetA [1, 3, 6, 8] (qs_ret qe_bl))) qss_nil))
    (qss_one (qs_forgetA [8] (qs_if (qt_not (qt_val (qe_callC c__law_refuses (hr.mono (by decide)) rfl hx (qa_cons (qr 1) (qa_cons (qv 3) (qa_cons (qe_frz (qe_slice (qv 6) qo_none (qo_some qe_int))) qa_nil)))))) (qss_one (qs_forgetA [1, 3, 6] (qs_ret qe_bl))) qss_nil)))))))))))))))))))
    (qss_one (qs_forgetA [1] (qs_ret qe_bl)))))
end
end Law

set_option Elab.async false
set_option linter.all false
set_option maxRecDepth 100000
set_option maxHeartbeats 1000000
/-! rings: lowering values round by round -/
namespace Law
open Vs
/-- a fact (a, b, c): a is at most b plus c -/
structure Fc where
  a : Nat
  b : Nat
  c : Int
/-- values and origins -/
structure Lw where
  v : List Int
  o : List (Option Nat)
def vAt (v : List Int) (i : Nat) : Int := v.getD i 0
def low1 (s : Lw) (last : Option Nat) (p : Nat) (f : Fc) : Lw × Option Nat :=
  if vAt s.v f.b + f.c < vAt s.v f.a then (⟨s.v.set f.a (vAt s.v f.b + f.c), s.o.set f.a (some p)⟩, some f.a) else (s, last)
def lowE : List Fc → Nat → Lw → Option Nat → Lw × Option Nat
  | [], _, s, last => (s, last)
  | f :: fs, p, s, last => lowE fs (p + 1) (low1 s last p f).1 (low1 s last p f).2
def keeps (v : List Int) (fs : List Fc) : Prop := ∀ f ∈ fs, vAt v f.a ≤ vAt v f.b + f.c
/-- nothing was lowered: all facts are kept -/
theorem low_none : ∀ (fs : List Fc) (p : Nat) (s : Lw), (lowE fs p s none).2 = none → (lowE fs p s none).1 = s ∧ keeps s.v fs
  | [], p, s, _ => ⟨rfl, fun _ h => nomatch h⟩
  | f :: fs, p, s, h => by
    unfold lowE at h ⊢
    unfold low1 at h ⊢
    by_cases c : vAt s.v f.b + f.c < vAt s.v f.a
    · exfalso
      rw [if_pos c] at h
      have : ∀ (fs : List Fc) (p : Nat) (s : Lw) (x : Nat), (lowE fs p s (some x)).2 ≠ none := by
        intro fs
        induction fs with
        | nil => intro p s x; simp [lowE]
        | cons g fs ih =>
          intro p s x
          unfold lowE
          unfold low1
          split
          · exact ih _ _ _
          · exact ih _ _ _
      exact this _ _ _ _ h
    · rw [if_neg c] at h ⊢
      obtain ⟨h1, h2⟩ := low_none fs (p + 1) s h
      refine ⟨h1, fun g hg => ?_⟩
      rcases List.mem_cons.mp hg with rfl | hg
      · omega
      · exact h2 g hg
/-- a way of facts: each one's b is the next one's a -/
def wayE (fs : List Fc) : List Nat → Prop
  | [] => True
  | [_] => True
  | i :: j :: r => (∃ f g, fs[i]? = some f ∧ fs[j]? = some g ∧ f.b = g.a) ∧ wayE fs (j :: r)
def cOf (fs : List Fc) (i : Nat) : Int := match fs[i]? with
  | some f => f.c
  | none => 0
def sumE (fs : List Fc) (is : List Nat) : Int := (is.map (cOf fs)).foldr (· + ·) 0
theorem way_sum {fs : List Fc} {v : List Int} (hk : keeps v fs) : ∀ (is : List Nat) (i j : Nat) (f g : Fc), wayE fs (i :: is) → fs[i]? = some f → (i :: is).getLast? = some j → fs[j]? = some g → (∀ k ∈ i :: is, k < fs.length) → vAt v f.a ≤ vAt v g.b + sumE fs (i :: is)
  | [], i, j, f, g, _, hf, hl, hg, _ => by
    simp at hl
    subst hl
    rw [hf] at hg
    cases hg
    have := hk f (List.mem_of_getElem? hf)
    simp [sumE, cOf, hf]
    omega
  | k :: is, i, j, f, g, hw, hf, hl, hg, hb => by
    obtain ⟨⟨f', g', h1, h2, h3⟩, hw2⟩ := hw
    rw [hf] at h1
    cases h1
    have hl' : (k :: is).getLast? = some j := by simpa using hl
    have ih := way_sum hk is k j g' g hw2 h2 hl' hg fun x hx => hb x (List.mem_cons_of_mem _ hx)
    have h4 := hk f (List.mem_of_getElem? hf)
    have e : sumE fs (i :: k :: is) = f.c + sumE fs (k :: is) := by simp [sumE, cOf, hf]
    rw [e]
    rw [h3] at h4
    omega
end Law

set_option Elab.async false
set_option linter.all false
set_option maxRecDepth 100000
set_option maxHeartbeats 1000000
/-! rings: the origins run into a ring -/
namespace Law
open Vs
theorem vAt_set {v : List Int} {i j : Nat} {x : Int} (h : i < v.length) : vAt (v.set i x) j = if i = j then x else vAt v j := by
  unfold vAt
  rw [List.getD_eq_getElem?_getD, List.getD_eq_getElem?_getD]
  by_cases e : i = j
  · subst e
    rw [if_pos rfl, List.getElem?_set_self h]
    rfl
  · rw [if_neg e, List.getElem?_set_ne e]
structure Fs (fs : List Fc) (n : Nat) : Prop where
  a : ∀ f ∈ fs, f.a < n
  b : ∀ f ∈ fs, f.b < n
structure RI (fs : List Fc) (n r p : Nat) (s : Lw) (R : Nat → Nat) : Prop where
  lv : s.v.length = n
  lo : s.o.length = n
  le : ∀ v, R v ≤ r + 1
  og : ∀ v, 1 ≤ R v → ∃ q f, s.o[v]? = some (some q) ∧ fs[q]? = some f ∧ f.a = v ∧ R v ≤ R f.b + 1
  old : ∀ f ∈ fs, R f.b < r → vAt s.v f.a ≤ vAt s.v f.b + f.c
  new : ∀ i f, i < p → fs[i]? = some f → R f.b < r + 1 → vAt s.v f.a ≤ vAt s.v f.b + f.c
variable {fs : List Fc} {n r p : Nat} {s : Lw} {R : Nat → Nat}
theorem RI.step (F : Fs fs n) (h : RI fs n r p s R) {f : Fc} (hf : fs[p]? = some f) (last : Option Nat) :
    ∃ R', RI fs n r (p + 1) (low1 s last p f).1 R' ∧ (∀ v, R v = r + 1 → R' v = r + 1) ∧ ((low1 s last p f).2 = last ∨ ((low1 s last p f).2 = some f.a ∧ R' f.a = r + 1)) := by
  have hm := List.mem_of_getElem? hf
  have ha := F.a f hm
  have hb := F.b f hm
  unfold low1
  by_cases c : vAt s.v f.b + f.c < vAt s.v f.a
  · rw [if_pos c]
    have hRb : r ≤ R f.b := by
      rcases Nat.lt_or_ge (R f.b) r with q | q
      · have := h.old f hm q
        omega
      · exact q
    refine ⟨fun v => if v = f.a then r + 1 else R v, ⟨by simpa using h.lv, by simpa using h.lo, fun v => ?_, fun v hv => ?_, fun g hg hgr => ?_, fun i g hi hg hgr => ?_⟩, fun v hv => ?_, .inr ⟨rfl, by simp⟩⟩
    · show (if v = f.a then r + 1 else R v) ≤ r + 1
      split
      · exact Nat.le_refl _
      · exact h.le v
    · simp only at hv ⊢
      by_cases e : v = f.a
      · rw [if_pos e]
        refine ⟨p, f, ?_, hf, e.symm, ?_⟩
        · rw [e, List.getElem?_set_self (by rw [h.lo]; exact ha)]
        · split <;> omega
      · rw [if_neg e] at hv ⊢
        obtain ⟨q, g, h1, h2, h3, h4⟩ := h.og v hv
        refine ⟨q, g, by rw [List.getElem?_set_ne (Ne.symm e)]; exact h1, h2, h3, ?_⟩
        split
        · have := h.le v
          omega
        · exact h4
    · try simp only at hgr
      have ne : g.b ≠ f.a := fun e => by rw [if_pos e] at hgr; omega
      rw [if_neg ne] at hgr
      have := h.old g hg hgr
      rw [vAt_set (by rw [h.lv]; exact ha), vAt_set (by rw [h.lv]; exact ha), if_neg (Ne.symm ne)]
      split
      · rename_i e
        rw [← e] at this
        omega
      · exact this
    · try simp only at hgr
      have ne : g.b ≠ f.a := fun e => by rw [if_pos e] at hgr; omega
      rw [if_neg ne] at hgr
      rw [vAt_set (by rw [h.lv]; exact ha), vAt_set (by rw [h.lv]; exact ha), if_neg (Ne.symm ne)]
      rcases Nat.lt_or_ge i p with q | q
      · have := h.new i g q hg hgr
        split
        · rename_i e
          rw [← e] at this
          omega
        · exact this
      · have e : i = p := by omega
        subst e
        rw [hf] at hg
        cases hg
        rw [if_pos rfl]
        omega
    · show (if v = f.a then r + 1 else R v) = r + 1
      split
      · rfl
      · exact hv
  · rw [if_neg c]
    refine ⟨R, ⟨h.lv, h.lo, h.le, h.og, h.old, fun i g hi hg hgr => ?_⟩, fun _ h => h, .inl rfl⟩
    rcases Nat.lt_or_ge i p with q | q
    · exact h.new i g q hg hgr
    · have e : i = p := by omega
      subst e
      rw [hf] at hg
      have e2 := Option.some.inj hg
      subst e2
      exact Int.not_lt.mp c
theorem RI.run (F : Fs fs n) : ∀ (gs : List Fc) (p : Nat) (s : Lw) (R : Nat → Nat) (last : Option Nat), gs = fs.drop p → p ≤ fs.length → RI fs n r p s R → (∀ x, last = some x → x < n ∧ R x = r + 1) →
    ∃ R', RI fs n r fs.length (lowE gs p s last).1 R' ∧ ∀ x, (lowE gs p s last).2 = some x → x < n ∧ R' x = r + 1
  | [], p, s, R, last, e, hp, h, hl => by
    have : p = fs.length := by
      have := congrArg List.length e
      simp at this
      omega
    subst this
    exact ⟨R, h, hl⟩
  | f :: gs, p, s, R, last, e, hp, h, hl => by
    have hf : fs[p]? = some f := by
      have : (fs.drop p)[0]? = some f := by rw [← e]; rfl
      simpa using this
    have hm := List.mem_of_getElem? hf
    have hlt : p < fs.length := (List.getElem?_eq_some_iff.mp hf).1
    obtain ⟨R', h1, h2, h3⟩ := h.step F hf last
    refine RI.run F gs (p + 1) _ R' _ ?_ hlt h1 fun x hx => ?_
    · have e2 : fs.drop p = f :: fs.drop (p + 1) := by
        rw [List.drop_eq_getElem_cons hlt]
        congr 1
        rw [List.getElem?_eq_getElem hlt] at hf
        exact Option.some.inj hf
      rw [e2] at e
      exact (List.cons.inj e).2
    · rcases h3 with h3 | ⟨h3, h4⟩
      · rw [h3] at hx
        obtain ⟨a, b⟩ := hl x hx
        exact ⟨a, h2 x b⟩
      · rw [h3] at hx
        cases hx
        exact ⟨F.a f hm, h4⟩
/-- one round behind r of them -/
theorem RI.round (F : Fs fs n) (h : RI fs n r 0 s R) : ∃ R', RI fs n (r + 1) 0 (lowE fs 0 s none).1 R' ∧ ∀ x, (lowE fs 0 s none).2 = some x → x < n ∧ R' x = r + 1 := by
  obtain ⟨R', h1, h2⟩ := RI.run F fs 0 s R none rfl (Nat.zero_le _) h (fun _ h => nomatch h)
  refine ⟨R', ⟨h1.lv, h1.lo, fun v => Nat.le_succ_of_le (h1.le v), h1.og, fun f hf hr => ?_, fun i f hi => absurd hi (Nat.not_lt_zero _)⟩, h2⟩
  obtain ⟨i, hi⟩ := List.getElem?_of_mem hf
  exact h1.new i f (List.getElem?_eq_some_iff.mp hi).1 hi hr
def s0 (n : Nat) : Lw := ⟨List.replicate n 0, List.replicate n none⟩
theorem RI.start : RI fs n 0 0 (s0 n) fun _ => 0 := ⟨by simp [s0], by simp [s0], fun _ => Nat.zero_le _, fun v h => absurd h (by decide), fun _ _ h => absurd h (Nat.not_lt_zero _), fun _ _ h => absurd h (Nat.not_lt_zero _)⟩
/-! the way back -/
def backTo (fs : List Fc) (o : List (Option Nat)) (v : Nat) : Nat := match o[v]? with
  | some (some q) => (match fs[q]? with
    | some f => f.b
    | none => 0)
  | _ => 0
def iter (f : Nat → Nat) : Nat → Nat → Nat
  | 0, x => x
  | k + 1, x => iter f k (f x)
theorem iter_succ (f : Nat → Nat) : ∀ (k x : Nat), iter f (k + 1) x = f (iter f k x)
  | 0, x => rfl
  | k + 1, x => iter_succ f k (f x)
theorem iter_add (f : Nat → Nat) (a : Nat) : ∀ (b x : Nat), iter f (a + b) x = iter f a (iter f b x)
  | 0, x => rfl
  | b + 1, x => by
    show iter f (a + b) (f x) = iter f a (iter f b (f x))
    exact iter_add f a b (f x)
theorem pigeon {f : Nat → Nat} {n : Nat} (h : ∀ k, k ≤ n → f k < n) : ∃ i j, i < j ∧ j ≤ n ∧ f i = f j := by
  refine Classical.byContradiction fun hn => ?_
  have hd : ((List.range (n + 1)).map f).Nodup := by
    unfold List.Nodup
    rw [List.pairwise_map]
    refine List.Pairwise.imp_of_mem (fun {a b} ha hb hab => ?_) (List.pairwise_lt_range (n := n + 1))
    intro e
    exact hn ⟨a, b, hab, by have := List.mem_range.mp hb; omega, e⟩
  have := Vs.sub_len _ (List.range n) hd fun x hx => by
    obtain ⟨k, hk, rfl⟩ := List.mem_map.mp hx
    exact List.mem_range.mpr (h k (by have := List.mem_range.mp hk; omega))
  simp at this
  omega
/-- a variable with an origin -/
def hasO (fs : List Fc) (o : List (Option Nat)) (v : Nat) : Prop := ∃ q f, o[v]? = some (some q) ∧ fs[q]? = some f ∧ f.a = v
theorem hasO.to {o : List (Option Nat)} {v : Nat} (h : hasO fs o v) : ∃ q f, o[v]? = some (some q) ∧ fs[q]? = some f ∧ f.a = v ∧ backTo fs o v = f.b := by
  obtain ⟨q, f, h1, h2, h3⟩ := h
  refine ⟨q, f, h1, h2, h3, ?_⟩
  unfold backTo
  rw [h1]
  simp only [h2]
theorem ring_way (F : Fs fs n) (h : RI fs n n 0 s R) {x : Nat} (hx : x < n) (hR : R x = n) :
    (∀ k, hasO fs s.o (iter (backTo fs s.o) k x) ∧ iter (backTo fs s.o) k x < n) ∧ ∃ L, 1 ≤ L ∧ L ≤ n ∧ iter (backTo fs s.o) L (iter (backTo fs s.o) n x) = iter (backTo fs s.o) n x := by
  have lt : ∀ k, iter (backTo fs s.o) k x < n := fun k => by
    cases k with
    | zero => exact hx
    | succ k =>
      rw [iter_succ]
      unfold backTo
      split
      · rename_i q hq
        split
        · rename_i f hf
          exact F.b f (List.mem_of_getElem? hf)
        · omega
      · omega
  have hk : ∀ k, k < n → n ≤ R (iter (backTo fs s.o) k x) + k := fun k => by
    induction k with
    | zero => intro _; rw [show iter (backTo fs s.o) 0 x = x from rfl, hR]; omega
    | succ k ih =>
      intro hk
      have h0 := ih (by omega)
      obtain ⟨q, f, h1, h2, h3, h4⟩ := h.og (iter (backTo fs s.o) k x) (by omega)
      rw [iter_succ]
      have e : backTo fs s.o (iter (backTo fs s.o) k x) = f.b := by
        generalize iter (backTo fs s.o) k x = y at h1
        unfold backTo
        rw [h1]
        simp only [h2]
      rw [e]
      omega
  have hO : ∀ k, k < n → hasO fs s.o (iter (backTo fs s.o) k x) := fun k hkn => by
    have := hk k hkn
    obtain ⟨q, f, h1, h2, h3, _⟩ := h.og (iter (backTo fs s.o) k x) (by omega)
    exact ⟨q, f, h1, h2, h3⟩
  obtain ⟨i, j, hij, hjn, e⟩ := pigeon (f := fun k => iter (backTo fs s.o) k x) (n := n) fun k _ => lt k
  try simp only at e
  have per : ∀ k, i ≤ k → iter (backTo fs s.o) (k + (j - i)) x = iter (backTo fs s.o) k x := fun k hik => by
    have e1 : k + (j - i) = (k - i) + j := by omega
    have e2 : k = (k - i) + i := by omega
    rw [e1, iter_add, ← e, ← iter_add, ← e2]
  refine ⟨fun k => ⟨?_, lt k⟩, j - i, by omega, by omega, ?_⟩
  · induction k using Nat.strongRecOn with
    | _ k ih =>
      rcases Nat.lt_or_ge k n with q | q
      · exact hO k q
      · have := per (k - (j - i)) (by omega)
        rw [show k - (j - i) + (j - i) = k by omega] at this
        rw [this]
        exact ih _ (by omega)
  · rw [← iter_add, Nat.add_comm]
    exact per n (by omega)
end Law

set_option Elab.async false
set_option linter.all false
set_option maxRecDepth 100000
set_option maxHeartbeats 2000000
namespace Law
open PySem PySem.Spec PyProof.Rows L2 Vs
set_option hygiene false in
local macro_rules | `(tactic| walk_at "vs1") => `(tactic| (first|((with_reducible first|apply i_seq|apply i_next|apply i_expr|apply i_ret|apply i_retN|apply i_if|apply i_break|apply i_cont|apply i_set|apply i_putX|apply i_for|apply i_retv|apply i_retl|apply i_retd|apply i_reto|apply i_setv|apply i_setl|apply i_setd|apply i_seto|apply i_usev|apply i_usel|apply i_used|apply i_useo|apply i_uses0|apply i_uses1|apply i_c|apply i_op|apply i_un|apply i_test|apply i_tand|apply i_tor|apply i_tnot|apply i_and|apply i_or|apply i_not|apply i_ifx|apply i_chain|apply i_chnK|apply i_nil|apply i_cons|apply i_tup|apply i_lst|apply i_dict0|apply i_cb|apply i_frz|apply i_addi|apply i_adds|apply i_addt|apply i_addl|apply i_raise|apply i_after|apply i_lc|apply i_dc|apply i_agName|apply i_yes|apply i_aiSeqV|apply i_append|apply i_meth0|apply i_make0|apply i_slice|apply i_aoNone|apply i_aoSome|apply i_agCons|apply i_agNil|apply i_asFld|apply i_get1|apply i_call0|apply i_insert|apply i_revT|apply i_disp|apply i_dspN|apply i_dspC|apply i_tryS|apply i_tnx|apply i_snx))|((with_reducible apply i_putK);rfl;(first|exact datV|exact datIv rfl|exact datL|exact datIl rfl|exact datD|exact datId rfl|exact datO|exact datIo rfl);(first|assumption|rfl))|((with_reducible first|apply i_reti|apply i_val|apply i_ref|apply i_appK|apply i_agTup|apply i_aug|apply i_dspK|apply i_xf);rfl)|((with_reducible first|apply i_isB|apply i_neg|apply i_int|apply i_isL|apply i_isI|apply i_isDc|apply i_augK|apply i_repL);(first|exact datV|exact datIv rfl|exact datL|exact datIl rfl|exact datD|exact datId rfl|exact datO|exact datIo rfl))|((with_reducible apply i_ix);(first|exact datV|exact datIv rfl|exact datL|exact datIl rfl|exact datD|exact datId rfl|exact datO|exact datIo rfl);(first|exact datV|exact datIv rfl|exact datL|exact datIl rfl|exact datD|exact datId rfl|exact datO|exact datIo rfl);(first|assumption|rfl))|((with_reducible first|apply i_plus|apply i_sub|apply i_lt|apply i_le|apply i_gt|apply i_ge|apply i_mul|apply i_mod|apply i_pow|apply i_div|apply i_eq|apply i_ne|apply i_is|apply i_isnot|apply i_max|apply i_min|apply i_repT|apply i_isTB|apply i_isnotB);(first|exact datV|exact datIv rfl|exact datL|exact datIl rfl|exact datD|exact datId rfl|exact datO|exact datIo rfl);(first|exact datV|exact datIv rfl|exact datL|exact datIl rfl|exact datD|exact datId rfl|exact datO|exact datIo rfl))|((with_reducible apply i_isi);(first|exact datV|exact datIv rfl|exact datL|exact datIl rfl|exact datD|exact datId rfl|exact datO|exact datIo rfl);(first|exact isi1 (by first|assumption|rfl) (by decide)|exact isi_lt (by first|assumption|rfl)|exact isi_own (by assumption) (by assumption)))|((with_reducible apply i_fldV);rfl;rfl)|((with_reducible apply i_forgetN);((try simp only [clearA, give, List.set_cons_zero, List.set_cons_succ]);rfl))|((with_reducible first|apply i_len|apply i_list);(first|exact datV|exact datIv rfl|exact datL|exact datIl rfl|exact datD|exact datId rfl|exact datO|exact datIo rfl);(first|assumption|rfl))|((with_reducible apply i_objK);(first|exact datV|exact datIv rfl|exact datL|exact datIl rfl|exact datD|exact datId rfl|exact datO|exact datIo rfl);rfl)|((with_reducible apply i_fldK);rfl;(first|exact fs_nil|exact fs_one);exact Nat.le_of_ble_eq_true rfl)|((with_reducible apply i_getK);(first|exact datV|exact datIv rfl|exact datL|exact datIl rfl|exact datD|exact datId rfl|exact datO|exact datIo rfl);(first|exact datV|exact datIv rfl|exact datL|exact datIl rfl|exact datD|exact datId rfl|exact datO|exact datIo rfl);rfl;(first|assumption|rfl))|((with_reducible apply i_inD);(first|exact datV|exact datIv rfl|exact datL|exact datIl rfl|exact datD|exact datId rfl|exact datO|exact datIo rfl);(first|exact datV|exact datIv rfl|exact datL|exact datIl rfl|exact datD|exact datId rfl|exact datO|exact datIo rfl);rfl)|((with_reducible apply i_insK);rfl;(first|exact datV|exact datIv rfl|exact datL|exact datIl rfl|exact datD|exact datId rfl|exact datO|exact datIo rfl))|((with_reducible apply i_useiv);rfl)|((with_reducible apply i_useil);rfl)|((with_reducible apply i_useid);rfl)|((with_reducible apply i_tuplel);(first|exact datV|exact datIv rfl|exact datL|exact datIl rfl|exact datD|exact datId rfl|exact datO|exact datIo rfl))|((with_reducible apply i_tuplet);(first|exact datV|exact datIv rfl|exact datL|exact datIl rfl|exact datD|exact datId rfl|exact datO|exact datIo rfl))|((with_reducible apply i_slcT);(first|exact datV|exact datIv rfl|exact datL|exact datIl rfl|exact datD|exact datId rfl|exact datO|exact datIo rfl))|((with_reducible apply i_slcL);(first|exact datV|exact datIv rfl|exact datL|exact datIl rfl|exact datD|exact datId rfl|exact datO|exact datIo rfl))|((with_reducible apply i_ninD);(first|exact datV|exact datIv rfl|exact datL|exact datIl rfl|exact datD|exact datId rfl|exact datO|exact datIo rfl);(first|exact datV|exact datIv rfl|exact datL|exact datIl rfl|exact datD|exact datId rfl|exact datO|exact datIo rfl);rfl)|((with_reducible apply i_revK);(first|exact datV|exact datIv rfl|exact datL|exact datIl rfl|exact datD|exact datId rfl|exact datO|exact datIo rfl))|((with_reducible first|apply i_sz|apply i_sz15);exact Nat.le_of_ble_eq_true rfl)|exact pl_int|exact pl_str|exact pl_bl|exact pl_non|exact lenA_l|((with_reducible first|apply lenA_h|apply plD_h|apply len_h|apply ins_h);assumption)|((with_reducible apply cpow_h);(unfold CPow; decide))|((with_reducible apply cmul_h);(unfold CMul; first|decide|omega))|(with_reducible first|apply i_itet|apply i_itef)|((with_reducible refine i_itepB ?_ ?_);(first|assumption|rfl))|((with_reducible refine i_itenB ?_ ?_);(first|assumption|rfl))|((with_reducible apply i_ite)<;>intro hif)))
theorem cpow_h {i j : Int} (h : CPow i j) : CPow i j := h
theorem cmul_h {i j : Int} (h : CMul i j) : CMul i j := h
theorem none1 {i : Nat} {ρ : AEnv} (h : ρ[i]? = some none) : NoneAt [i] ρ := fun v hv => by
  have e : v = i := by simpa using hv
  subst e
  exact h
section
variable {EA : AX} {ρ ρ' : AEnv} {Q : AK} {DA : AEnds} {g : Gm} [Gok g]
theorem set2 {i : Nat} {x y : Option A} : (ρ.set i x).set i y = ρ.set i y := List.set_set ..
theorem pass2 {i : Nat} {p x : A} (hp : ρ[i]? = some (some p)) (hx : isLoc x = false) : pass [.loc i, x] ρ = some ([p, x], ρ.set i none) := by
  cases x <;> first | (simp only [pass, hp]; done) | (cases hx; done)
theorem cdivw {i j : Int} (h : 0 < j) (h2 : j.natAbs < 2 ^ 200) : CDivW i j := wide_div (b := 200) h h2 (by decide) (by decide)
theorem at_ints {ns : List Int} {a : Int} (h0 : 0 ≤ a) (h1 : a < ns.length) : ∃ z, itD (.lst (ns.map .int)) (.int a) = some (.int z) := by
  obtain ⟨x, hx, e⟩ := at_mem (xs := ns.map D.int) h0 (by simpa using h1)
  obtain ⟨z, _, rfl⟩ := List.mem_map.mp hx
  exact ⟨z, e⟩
/-! draws -/
def stA (ns : List Int) (a b c d e : Int) : A := .lst [.lst (ns.map .int), .int a, .int b, .int c, .int d, .int e]
def isSt (x : A) : Prop := ∃ (ns : List Int) (a b c d e : Int), x = stA ns a b c d e ∧ 0 ≤ a ∧ 0 ≤ b ∧ 0 ≤ e ∧ e < 10 ^ 18
theorem T_state {ns : List Int} : Val (S__law_state g) [.v (.lst (ns.map .int))] isSt := by
  refine Sat.mk' rfl ?_
  show as__law_state _ [some (.v (.lst (ns.map .int)))]
  unfold as__law_state
  have hi : itemsD (.lst (ns.map .int)) = some (ns.map .int) := rfl
  (repeat' walk_at "vs1")
  exact e_rt rfl ⟨rfl, ns, 0, 0, 0, 0, 0, rfl, by omega, by omega, by omega, by omega⟩
theorem draw_4 {ns : List Int} {a b c d e m : Int} {o2 o3 o4 : Option A} (hR : ∀ z p' o2 o3 o4, 0 ≤ z → z < m → isSt p' → DA.rt (.v (.int z)) [some p', some (.v (.int m)), o2, o3, o4]) (hp : isSt (stA ns a b c d e)) (he : 0 ≤ e) (he2 : e < 10 ^ 18) (hm : 0 < m) : rs__law_draw_4 DA [some (stA ns a b c d e), some (.v (.int m)), o2, o3, o4] := by
  unfold rs__law_draw_4 rs__law_draw_5 rs__law_draw_6 rs__law_draw_7
  have h0 : ∀ x : Int, 0 ≤ x % 2147483647 ∧ x % 2147483647 < 2147483647 := fun x => ⟨Int.emod_nonneg _ (by decide), Int.emod_lt_of_pos _ (by decide)⟩
  unfold stA
  (repeat' walk_at "vs1")
  all_goals first | assumption | exact cdivw (by decide) (by decide) | decide | exact .inl ⟨by have := h0 ((e * 1000003 + 7919 * d + 1) * 48271); omega, by have := h0 ((e * 1000003 + 7919 * d + 1) * 48271); omega⟩ | skip
  all_goals first | (refine .inl ⟨?_, ?_⟩ <;> (generalize ((e * 1000003 + 7919 * d + 1) * 48271 % 2147483647 * ((e * 1000003 + 7919 * d + 1) * 48271 % 2147483647 / 1009 + 69621)) = y; have := h0 y; omega)) | skip
  exact hR _ _ _ _ _ (Int.emod_nonneg _ (by omega)) (Int.emod_lt_of_pos _ hm) hp
theorem T_draw {p : A} {m : Int} (hp : isSt p) (hm : 0 < m) (hm2 : m.natAbs < 2 ^ 200) : Sat (S__law_draw g) [p, .v (.int m)] (fun r o => ∃ z p', r = .v (.int z) ∧ 0 ≤ z ∧ z < m ∧ isSt p' ∧ o = [p', .v (.int m)]) noO := by
  obtain ⟨ns, a, b, c, d, e, rfl, ha, hb, he, he2⟩ := hp
  refine fnP rfl fun DA hR hN hX => ?_
  have hR' : ∀ z p' o2 o3 o4, 0 ≤ z → z < m → isSt p' → DA.rt (.v (.int z)) [some p', some (.v (.int m)), o2, o3, o4] := fun z p' o2 o3 o4 h0 h1 h2 => hR _ _ _ (by simp [fin]) ⟨z, p', rfl, h0, h1, h2, rfl⟩
  show as__law_draw _ [some (stA ns a b c d e), some (.v (.int m)), none, none, none]
  have go : ∀ {o2 o3 o4}, rs__law_draw_2 DA [some (stA ns a b c d e), some (.v (.int m)), o2, o3, o4] := fun {o2 o3 o4} => by
    unfold rs__law_draw_2 rs__law_draw_3
    have g4 : ∀ {o2 o3 o4}, rs__law_draw_4 DA [some (stA ns a b c (d + 1) e), some (.v (.int m)), o2, o3, o4] := draw_4 hR' ⟨ns, a, b, c, d + 1, e, rfl, ha, hb, he, he2⟩ he he2 hm
    unfold stA at g4 ⊢
    (repeat' walk_at "vs1")
    · obtain ⟨z, hz⟩ := at_ints (ns := ns) ha (by simpa using hif)
      refine i_ix datV datV hz ?_
      have h18 : (0 : Int) < 10 ^ Int.toNat 18 := by decide
      have e1 : 0 ≤ (e * 31 + z) % 10 ^ Int.toNat 18 := Int.emod_nonneg _ (by decide)
      have e2 : (e * 31 + z) % 10 ^ Int.toNat 18 < 10 ^ 18 := Int.emod_lt_of_pos _ (by decide)
      (repeat' walk_at "vs1")
      all_goals first | assumption | exact cdivw hm hm2 | exact .inr (by decide) | skip
      · have h4 : (10 : Int) ^ Int.toNat 18 ≤ z := of_decide_eq_true hif
        have h5 : (0 : Int) ≤ z := Int.le_trans (by decide) h4
        exact hR' _ _ _ _ _ (Int.emod_nonneg _ (by omega)) (Int.emod_lt_of_pos _ hm) ⟨ns, a + 1, z / m, 1, d + 1, _, rfl, by omega, Int.ediv_nonneg h5 (by omega), e1, e2⟩
      · exact draw_4 (ns := ns) (a := a + 1) (b := b) (c := c) hR' ⟨ns, a + 1, b, c, d + 1, _, rfl, by omega, hb, e1, e2⟩ e1 e2 hm
    · exact g4
  unfold as__law_draw
  unfold stA at go ⊢
  (repeat' walk_at "vs1")
  all_goals first | assumption | exact cdivw hm hm2 | exact go | skip
  exact hR' _ _ _ _ _ (Int.emod_nonneg _ (by omega)) (Int.emod_lt_of_pos _ hm) ⟨ns, a, b / m, c + 1, d, e, rfl, ha, Int.ediv_nonneg hb (by omega), he, he2⟩
theorem k_draw {i : Nat} {p : A} {m : Int} (hp : ρ[i]? = some (some p)) (h : isSt p) (h0 : 0 < m) (h1 : m.natAbs < 2 ^ 200) (k : ∀ z p', 0 ≤ z → z < m → isSt p' → Q (.v (.int z)) (ρ.set i (some p'))) : callA (S__law_draw g) [.loc i, .v (.int m)] EA ρ Q := by
  refine kSat (ρ' := ρ.set i none) (pass2 hp rfl) (T_draw h h0 h1) (fun r ys' q => ?_) (fun _ _ _ h => h.elim)
  obtain ⟨z, p', rfl, hz0, hz1, hp', rfl⟩ := q
  show Q _ ((ρ.set i none).set i (some p'))
  rw [set2]
  exact k z p' hz0 hz1 hp'
theorem T_number {p : A} (hp : isSt p) : Sat (S__law_number g) [p] (fun r o => ∃ z p', r = .v (.int z) ∧ isSt p' ∧ o = [p']) noO := by
  refine fnP rfl fun DA hR hN hX => ?_
  show as__law_number _ _ [some p, none]
  unfold as__law_number rs__law_number_2 rs__law_number_3 rs__law_number_4
  (repeat' first|((with_reducible apply k_draw);rfl;assumption;(first|assumption|decide|omega);(first|assumption|decide|omega);intro zz pp hz0 hz1 hpp)|walk_at "vs1")
  all_goals first | exact hR _ _ _ rfl ⟨_, _, rfl, by assumption, rfl⟩ | exact .inr (by decide) | skip
theorem k_number {i : Nat} {p : A} (hp : ρ[i]? = some (some p)) (h : isSt p) (k : ∀ z p', isSt p' → Q (.v (.int z)) (ρ.set i (some p'))) : callA (S__law_number g) [.loc i] EA ρ Q := by
  refine kSat (ρ' := ρ.set i none) (by simp only [pass, hp]) (T_number h) (fun r ys' q => ?_) (fun _ _ _ h => h.elim)
  obtain ⟨z, p', rfl, hp', rfl⟩ := q
  show Q _ ((ρ.set i none).set i (some p'))
  rw [set2]
  exact k z p' hp'
end
end Law

set_option Elab.async false
set_option linter.all false
set_option maxRecDepth 100000
set_option maxHeartbeats 2000000
namespace Law
open PySem PySem.Spec PyProof.Rows L2 Vs
set_option hygiene false in
local macro_rules | `(tactic| walk_at "vs1") => `(tactic| (first|((with_reducible first|apply i_seq|apply i_next|apply i_expr|apply i_ret|apply i_retN|apply i_if|apply i_break|apply i_cont|apply i_set|apply i_putX|apply i_for|apply i_retv|apply i_retl|apply i_retd|apply i_reto|apply i_setv|apply i_setl|apply i_setd|apply i_seto|apply i_usev|apply i_usel|apply i_used|apply i_useo|apply i_uses0|apply i_uses1|apply i_c|apply i_op|apply i_un|apply i_test|apply i_tand|apply i_tor|apply i_tnot|apply i_and|apply i_or|apply i_not|apply i_ifx|apply i_chain|apply i_chnK|apply i_nil|apply i_cons|apply i_tup|apply i_lst|apply i_dict0|apply i_cb|apply i_frz|apply i_addi|apply i_adds|apply i_addt|apply i_addl|apply i_raise|apply i_after|apply i_lc|apply i_dc|apply i_agName|apply i_yes|apply i_aiSeqV|apply i_append|apply i_meth0|apply i_make0|apply i_slice|apply i_aoNone|apply i_aoSome|apply i_agCons|apply i_agNil|apply i_asFld|apply i_get1|apply i_call0|apply i_insert|apply i_revT|apply i_disp|apply i_dspN|apply i_dspC|apply i_tryS|apply i_tnx|apply i_snx))|((with_reducible apply i_putK);rfl;(first|exact datV|exact datIv rfl|exact datL|exact datIl rfl|exact datD|exact datId rfl|exact datO|exact datIo rfl);(first|assumption|rfl))|((with_reducible first|apply i_reti|apply i_val|apply i_ref|apply i_appK|apply i_agTup|apply i_aug|apply i_dspK|apply i_xf);rfl)|((with_reducible first|apply i_isB|apply i_neg|apply i_int|apply i_isL|apply i_isI|apply i_isDc|apply i_augK|apply i_repL);(first|exact datV|exact datIv rfl|exact datL|exact datIl rfl|exact datD|exact datId rfl|exact datO|exact datIo rfl))|((with_reducible apply i_ix);(first|exact datV|exact datIv rfl|exact datL|exact datIl rfl|exact datD|exact datId rfl|exact datO|exact datIo rfl);(first|exact datV|exact datIv rfl|exact datL|exact datIl rfl|exact datD|exact datId rfl|exact datO|exact datIo rfl);(first|assumption|rfl))|((with_reducible first|apply i_plus|apply i_sub|apply i_lt|apply i_le|apply i_gt|apply i_ge|apply i_mul|apply i_mod|apply i_pow|apply i_div|apply i_eq|apply i_ne|apply i_is|apply i_isnot|apply i_max|apply i_min|apply i_repT|apply i_isTB|apply i_isnotB);(first|exact datV|exact datIv rfl|exact datL|exact datIl rfl|exact datD|exact datId rfl|exact datO|exact datIo rfl);(first|exact datV|exact datIv rfl|exact datL|exact datIl rfl|exact datD|exact datId rfl|exact datO|exact datIo rfl))|((with_reducible apply i_isi);(first|exact datV|exact datIv rfl|exact datL|exact datIl rfl|exact datD|exact datId rfl|exact datO|exact datIo rfl);(first|exact isi1 (by first|assumption|rfl) (by decide)|exact isi_lt (by first|assumption|rfl)|exact isi_own (by assumption) (by assumption)))|((with_reducible apply i_fldV);rfl;rfl)|((with_reducible apply i_forgetN);((try simp only [clearA, give, List.set_cons_zero, List.set_cons_succ]);rfl))|((with_reducible first|apply i_len|apply i_list);(first|exact datV|exact datIv rfl|exact datL|exact datIl rfl|exact datD|exact datId rfl|exact datO|exact datIo rfl);(first|assumption|rfl))|((with_reducible apply i_objK);(first|exact datV|exact datIv rfl|exact datL|exact datIl rfl|exact datD|exact datId rfl|exact datO|exact datIo rfl);rfl)|((with_reducible apply i_fldK);rfl;(first|exact fs_nil|exact fs_one);exact Nat.le_of_ble_eq_true rfl)|((with_reducible apply i_getK);(first|exact datV|exact datIv rfl|exact datL|exact datIl rfl|exact datD|exact datId rfl|exact datO|exact datIo rfl);(first|exact datV|exact datIv rfl|exact datL|exact datIl rfl|exact datD|exact datId rfl|exact datO|exact datIo rfl);rfl;(first|assumption|rfl))|((with_reducible apply i_inD);(first|exact datV|exact datIv rfl|exact datL|exact datIl rfl|exact datD|exact datId rfl|exact datO|exact datIo rfl);(first|exact datV|exact datIv rfl|exact datL|exact datIl rfl|exact datD|exact datId rfl|exact datO|exact datIo rfl);rfl)|((with_reducible apply i_insK);rfl;(first|exact datV|exact datIv rfl|exact datL|exact datIl rfl|exact datD|exact datId rfl|exact datO|exact datIo rfl))|((with_reducible apply i_useiv);rfl)|((with_reducible apply i_useil);rfl)|((with_reducible apply i_useid);rfl)|((with_reducible apply i_tuplel);(first|exact datV|exact datIv rfl|exact datL|exact datIl rfl|exact datD|exact datId rfl|exact datO|exact datIo rfl))|((with_reducible apply i_tuplet);(first|exact datV|exact datIv rfl|exact datL|exact datIl rfl|exact datD|exact datId rfl|exact datO|exact datIo rfl))|((with_reducible apply i_slcT);(first|exact datV|exact datIv rfl|exact datL|exact datIl rfl|exact datD|exact datId rfl|exact datO|exact datIo rfl))|((with_reducible apply i_slcL);(first|exact datV|exact datIv rfl|exact datL|exact datIl rfl|exact datD|exact datId rfl|exact datO|exact datIo rfl))|((with_reducible apply i_ninD);(first|exact datV|exact datIv rfl|exact datL|exact datIl rfl|exact datD|exact datId rfl|exact datO|exact datIo rfl);(first|exact datV|exact datIv rfl|exact datL|exact datIl rfl|exact datD|exact datId rfl|exact datO|exact datIo rfl);rfl)|((with_reducible apply i_revK);(first|exact datV|exact datIv rfl|exact datL|exact datIl rfl|exact datD|exact datId rfl|exact datO|exact datIo rfl))|((with_reducible first|apply i_sz|apply i_sz15);exact Nat.le_of_ble_eq_true rfl)|exact pl_int|exact pl_str|exact pl_bl|exact pl_non|exact lenA_l|((with_reducible first|apply lenA_h|apply plD_h|apply len_h|apply ins_h);assumption)|((with_reducible apply cpow_h);(unfold CPow; decide))|((with_reducible apply cmul_h);(unfold CMul; first|decide|omega))|(with_reducible first|apply i_itet|apply i_itef)|((with_reducible refine i_itepB ?_ ?_);(first|assumption|rfl))|((with_reducible refine i_itenB ?_ ?_);(first|assumption|rfl))|((with_reducible apply i_ite)<;>intro hif)))
def isIntD : D → Bool
  | .int _ => true
  | _ => false
def okT (d : D) : Prop := (tyN d).isSome = true
def fcD (f : Fc) : D := .tup [.int f.a, .int f.b, .int f.c]
def fcsD (fs : List Fc) : List D := fs.map fcD
def one (n : Nat) : D → Option Nat
  | .int z => if 0 ≤ z ∧ z < n then some z.toNat else none
  | _ => none
theorem one_some {n i : Nat} {d : D} (h : one n d = some i) : d = .int (i : Int) ∧ i < n := by
  cases d with
  | int z =>
    simp only [one] at h
    split at h
    · rename_i hz
      cases h
      refine ⟨?_, by omega⟩
      congr 1
      omega
    · cases h
  | _ => cases h
def idxs (n : Nat) : List D → Option (List Nat)
  | [] => some []
  | d :: r => match one n d, idxs n r with
    | some i, some is => some (i :: is)
    | _, _ => none
theorem idxs_some {n : Nat} : ∀ {xs : List D} {is : List Nat}, idxs n xs = some is → xs = is.map (fun i : Nat => D.int (i : Int)) ∧ ∀ i ∈ is, i < n
  | [], is, h => by
    cases h
    exact ⟨rfl, fun _ h => nomatch h⟩
  | d :: r, is, h => by
    simp only [idxs] at h
    split at h
    · rename_i i js h1 h2
      cases h
      obtain ⟨e1, e2⟩ := one_some h1
      obtain ⟨e3, e4⟩ := idxs_some h2
      refine ⟨by rw [e1, e3]; rfl, fun k hk => ?_⟩
      rcases List.mem_cons.mp hk with rfl | hk
      · exact e2
      · exact e4 k hk
    · cases h
theorem idxs_none {n : Nat} : ∀ {xs : List D}, idxs n xs = none → ∃ x ∈ xs, one n x = none
  | [], h => by cases h
  | d :: r, h => by
    simp only [idxs] at h
    cases h1 : one n d with
    | none => exact ⟨d, List.mem_cons_self .., h1⟩
    | some i =>
      cases h2 : idxs n r with
      | none =>
        obtain ⟨x, hx, e⟩ := idxs_none h2
        exact ⟨x, List.mem_cons_of_mem _ hx, e⟩
      | some js =>
        rw [h1, h2] at h
        cases h
theorem idxs_map {n : Nat} : ∀ {is : List Nat}, (∀ i ∈ is, i < n) → idxs n (is.map (fun i : Nat => D.int (i : Int))) = some is
  | [], _ => rfl
  | i :: is, h => by
    have h1 := idxs_map (n := n) (is := is) fun k hk => h k (List.mem_cons_of_mem _ hk)
    have h2 := h i (List.mem_cons_self ..)
    simp only [List.map_cons, idxs, one, h1]
    rw [if_pos ⟨by omega, by omega⟩]
    simp
def aOf (fs : List Fc) (i : Nat) : Nat := (fs[i]?.map Fc.a).getD 0
def bOf (fs : List Fc) (i : Nat) : Nat := (fs[i]?.map Fc.b).getD 0
def linkB (fs : List Fc) : Nat → List Nat → Bool
  | _, [] => true
  | p, i :: r => decide (aOf fs i = bOf fs p) && linkB fs i r
def ringB (fs : List Fc) : List Nat → Bool
  | [] => false
  | i :: r => linkB fs ((i :: r).getLast (by simp)) (i :: r) && decide (sumE fs (i :: r) < 0)
def dueB (fs : List Fc) : D → Bool
  | .tup xs => match idxs fs.length xs with
    | some is => ringB fs is
    | none => false
  | _ => false
structure okTh (d : D) : Prop where
  t : okT d
  e : ∀ xs, d = .tup xs → xs.length ≤ 100000 ∧ ∀ x ∈ xs, okT x
section
variable {EA : AX} {ρ ρ' : AEnv} {Q : AK} {DA : AEnds} {g : Gm} [Gok g]
theorem T_is_integer {d : D} (hd : okT d) : Ev (S_is_integer g) [.v d] (.v (.bl (isIntD d))) := by
  refine Sat.mk' rfl ?_
  have hd' : (tyN d).isSome = true := hd
  show as_is_integer g.K _ [some (.v d)]
  unfold as_is_integer
  (repeat' walk_at "vs1")
  all_goals (refine e_rt rfl ⟨rfl, ?_⟩; cases d <;> first | (cases hd'; done) | rfl | (simp only [isiF] at hif; exact absurd hif (by decide)))
theorem T_law_is_integer {d : D} (hd : okT d) : Ev (S__law_is_integer g) [.v d] (.v (.bl (isIntD d))) := by
  refine Sat.mk' rfl ?_
  have hd' : (tyN d).isSome = true := hd
  show as__law_is_integer g.K _ [some (.v d)]
  unfold as__law_is_integer
  (repeat' walk_at "vs1")
  all_goals (refine e_rt rfl ⟨rfl, ?_⟩; cases d <;> first | (cases hd'; done) | rfl | (simp only [isiF] at hif; exact absurd hif (by decide)))
theorem fc_at {fs : List Fc} {i : Nat} (h : i < fs.length) : itD (.lst (fcsD fs)) (.int (i : Int)) = some (.tup [.int (aOf fs i), .int (bOf fs i), .int (cOf fs i)]) := by
  show atI (fcsD fs) (i : Int) = _
  rw [at_nat (by simpa [fcsD] using h)]
  simp [fcsD, List.getElem?_eq_getElem h, fcD, aOf, bOf, cOf]
theorem last_at {is : List Nat} {i : Nat} (h : is.getLast? = some i) : itD (.tup (is.map (fun i : Nat => D.int (i : Int)))) (.int (-1)) = some (.int i) := by
  obtain ⟨js, rfl⟩ := List.getLast?_eq_some_iff.mp h
  show atI _ (-1) = _
  have e2 : ixN ((js ++ [i]).map (fun i : Nat => D.int (i : Int))).length (-1) = some js.length := by
    unfold ixN
    rw [if_neg (by omega), if_pos (by simp; omega)]
    congr 1
    simp
    omega
  unfold atI
  rw [e2]
  simp
theorem isi_tup {d : D} (h : okT d) : isiF d "tuple" = (match d with | .tup _ => true | _ => false) := by
  have h' : (tyN d).isSome = true := h
  cases d <;> first | (cases h'; done) | rfl
theorem len0F {n : Nat} (h : n ≠ 0) : deq (.int (n : Int)) (.int 0) = false := by
  rw [deq_int]
  exact decide_eq_false (by omega)
theorem T_is_ring {fs : List Fc} {d : D} (hl : fs.length ≤ 100000) (hd : okTh d) : Ev (S_is_ring g) [.v (.lst (fcsD fs)), .v d] (.v (.bl (dueB fs d))) := by
  refine evI rfl fun DA hR hN => ?_
  show as_is_ring g.K _ _ [some (.v (.lst (fcsD fs))), some (.v d), none, none, none]
  have hlf : lenD (.lst (fcsD fs)) = some fs.length := by simp [lenD, fcsD]
  obtain ⟨ht, he⟩ := hd
  have ht' : (tyN d).isSome = true := ht
  have hno : (∀ xs, d ≠ .tup xs) → as_is_ring g.K (S_is_integer g) DA [some (.v (.lst (fcsD fs))), some (.v d), none, none, none] := fun hn => by
    have h0 : isiF d "tuple" = false := by
      rw [isi_tup ht]
      cases d <;> first | rfl | exact absurd rfl (hn _)
    have h1 : dueB fs d = false := by cases d <;> first | rfl | exact absurd rfl (hn _)
    have h2 : (!isiF d "tuple") = true := by rw [h0]; rfl
    unfold as_is_ring
    (repeat' walk_at "vs1")
    exact hR _ _ rfl (by rw [h1])
  cases d with
  | tup xs =>
    obtain ⟨hxl, hx⟩ := he xs rfl
    unfold as_is_ring rs_is_ring_2 rs_is_ring_3 rs_is_ring_4 rs_is_ring_5 rs_is_ring_6
    cases xs with
    | nil =>
      (repeat' walk_at "vs1")
      exact hR _ _ rfl rfl
    | cons x0 xr =>
      have hz := len0F (n := (x0 :: xr).length) (by simp)
      (repeat' walk_at "vs1")
      refine ⟨_, rfl, ?_⟩
      cases hid : idxs fs.length (x0 :: xr) with
      | none =>
        have hdb : dueB fs (.tup (x0 :: xr)) = false := by simp only [dueB, hid]
        have hm := List.map_id (x0 :: xr)
        rw [← hm]
        refine for_map id (fun r ρ => (∃ x ∈ r, one fs.length x = none) ∧ (∀ x ∈ r, okT x) ∧ ρ = [some (.v (.lst (fcsD fs))), some (.v (.tup (x0 :: xr))), none, none, none]) ?_ ?_ _ _ ⟨idxs_none hid, hx, by rw [hm]⟩
        · rintro _ ⟨⟨x, h, _⟩, _⟩
          cases h
        · rintro x r _ ⟨hex, hok, rfl⟩ ih
          refine ⟨trivial, ?_⟩
          have hT := T_is_integer (g := g) (hok x (List.mem_cons_self ..))
          unfold bd_is_ring_1
          have next : one fs.length x ≠ none → (∃ y ∈ r, one fs.length y = none) ∧ (∀ y ∈ r, okT y) := fun h => by
            obtain ⟨y, hy, e⟩ := hex
            rcases List.mem_cons.mp hy with rfl | hy
            · exact absurd e h
            · exact ⟨⟨y, hy, e⟩, fun z hz => hok z (List.mem_cons_of_mem _ hz)⟩
          simp only [id]
          cases hi : isIntD x with
          | false =>
            rw [hi] at hT
            (repeat' first|((with_reducible apply kEv);rfl;exact hT)|walk_at "vs1")
            exact hR _ _ rfl (by rw [hdb])
          | true =>
            cases x with
            | int z =>
              rw [hi] at hT
              (repeat' first|((with_reducible apply kEv);rfl;exact hT)|walk_at "vs1")
              · exact hR _ _ rfl (by rw [hdb])
              · have hz' : 0 ≤ z ∧ z < fs.length := by
                  simp only [decide_eq_true_eq, Bool.not_eq_true', decide_eq_false_iff_not] at *
                  omega
                obtain ⟨h1, h2⟩ := next (by simp only [one]; rw [if_pos hz']; simp)
                exact ih _ ⟨h1, h2, rfl⟩
              · exact hR _ _ rfl (by rw [hdb])
            | _ => cases hi
      | some is =>
        obtain ⟨exs, hin⟩ := idxs_some hid
        have hdb : dueB fs (.tup (x0 :: xr)) = ringB fs is := by simp only [dueB, hid]
        rw [hdb] at hR
        obtain ⟨i0, ir, rfl⟩ : ∃ i r, is = i :: r := by
          cases is with
          | nil => cases exs
          | cons i r => exact ⟨i, r, rfl⟩
        generalize hL : (i0 :: ir).getLast (by simp) = lst
        have hL' : (i0 :: ir).getLast? = some lst := by rw [List.getLast?_eq_some_getLast (by simp), hL]
        have hlst : lst < fs.length := hin lst (List.mem_of_getLast? hL')
        have hat1 := last_at hL'
        have hat2 := fc_at hlst
        rw [exs] at hR ⊢
        refine for_each (fun i : Nat => D.int (i : Int)) trivial (i0 :: ir) (fun i hi D' hrt hex hnx hct => ?_) ?_
        · have hlt := hin i hi
          have hT := T_is_integer (g := g) (d := .int (i : Int)) rfl
          have hif1 : decide ((0 : Int) ≤ (i : Int)) = true := decide_eq_true (by omega)
          have hif2 : (!decide ((i : Int) < (fs.length : Nat))) = false := by rw [decide_eq_true (by omega)]; rfl
          unfold bd_is_ring_1
          (repeat' first|((with_reducible apply kEv);rfl;exact hT)|walk_at "vs1")
          exact hnx
        · (repeat' walk_at "vs1")
          refine ⟨_, rfl, ?_⟩
          refine for_map (fun i : Nat => D.int (i : Int)) (fun r ρ => ∃ (p : Nat) (t : Int), p < fs.length ∧ (∀ i ∈ r, i < fs.length) ∧ ringB fs (i0 :: ir) = (linkB fs p r && decide (t + sumE fs r < 0)) ∧ ρ = [some (.v (.lst (fcsD fs))), some (.v (.tup ((i0 :: ir).map (fun i : Nat => D.int (i : Int))))), none, some (.v (.int t)), some (.v (.tup [.int (aOf fs p), .int (bOf fs p), .int (cOf fs p)]))]) ?_ ?_ _ _ ⟨lst, 0, hlst, hin, by simp only [ringB, hL, Int.zero_add], rfl⟩
          · rintro _ ⟨p, t, _, _, hr, rfl⟩
            refine ⟨trivial, ?_⟩
            (repeat' walk_at "vs1")
            refine hR _ _ rfl ?_
            rw [hr]
            simp [linkB, sumE]
          · rintro i r _ ⟨p, t, hp, hir, hr, rfl⟩ ih
            refine ⟨trivial, ?_⟩
            have hlt := hir i (List.mem_cons_self ..)
            have hat3 := fc_at hlt
            unfold bd_is_ring_2
            have hd1 : (!deq (.int (aOf fs i : Int)) (.int (bOf fs p : Int))) = !decide (aOf fs i = bOf fs p) := by
              rw [deq_int]
              congr 1
              simp only [decide_eq_decide]
              omega
            by_cases hab : aOf fs i = bOf fs p
            · have hz2 : (!deq (.int (aOf fs i : Int)) (.int (bOf fs p : Int))) = false := by rw [hd1, decide_eq_true hab]; rfl
              (repeat' walk_at "vs1")
              refine ih _ ⟨i, t + cOf fs i, hlt, fun k hk => hir k (List.mem_cons_of_mem _ hk), ?_, rfl⟩
              rw [hr]
              simp only [linkB, hab, decide_true, Bool.true_and]
              congr 2
              simp only [sumE, List.map_cons, List.foldr_cons]
              congr 1
              omega
            · have hz2 : (!deq (.int (aOf fs i : Int)) (.int (bOf fs p : Int))) = true := by rw [hd1, decide_eq_false hab]; rfl
              (repeat' walk_at "vs1")
              refine hR _ _ rfl ?_
              rw [hr]
              simp [linkB, hab]
  | _ => exact hno (fun _ h => by cases h)
end
end Law

set_option Elab.async false
set_option linter.all false
set_option maxRecDepth 100000
set_option maxHeartbeats 1000000
/-! rings: the ring that is found has a sum below 0 -/
namespace Law
open Vs
/-- the origins' facts are kept, strictly if the other variable was lowered later; t: when a variable was lowered last -/
structure TI (fs : List Fc) (n : Nat) (s : Lw) (t : Nat → Nat) (T : Nat) : Prop where
  lv : s.v.length = n
  lo : s.o.length = n
  le : ∀ v, t v ≤ T
  og : ∀ v q, s.o[v]? = some (some q) → ∃ f, fs[q]? = some f ∧ f.a = v ∧ vAt s.v f.b + f.c ≤ vAt s.v v ∧ (t v ≤ t f.b → vAt s.v f.b + f.c < vAt s.v v)
variable {fs : List Fc} {n : Nat} {s : Lw} {t : Nat → Nat} {T : Nat}
theorem TI.step (F : Fs fs n) (h : TI fs n s t T) {p : Nat} {f : Fc} (hf : fs[p]? = some f) (last : Option Nat) : ∃ t' T', TI fs n (low1 s last p f).1 t' T' := by
  have hm := List.mem_of_getElem? hf
  have ha := F.a f hm
  have hb := F.b f hm
  unfold low1
  by_cases c : vAt s.v f.b + f.c < vAt s.v f.a
  · rw [if_pos c]
    refine ⟨fun v => if v = f.a then T + 1 else t v, T + 1, by simpa using h.lv, by simpa using h.lo, fun v => ?_, fun v q hq => ?_⟩
    · show (if v = f.a then T + 1 else t v) ≤ T + 1
      split
      · exact Nat.le_refl _
      · exact Nat.le_succ_of_le (h.le v)
    · have hlv : f.a < s.v.length := by rw [h.lv]; exact ha
      simp only at hq
      by_cases e : v = f.a
      · rw [e, List.getElem?_set_self (by rw [h.lo]; exact ha)] at hq
        cases hq
        refine ⟨f, hf, e.symm, ?_⟩
        subst e
        simp only [vAt_set hlv, if_pos]
        by_cases e2 : f.a = f.b
        · rw [if_pos e2, ← e2, if_pos rfl]
          rw [← e2] at c
          constructor
          · omega
          · intro _; omega
        · rw [if_neg e2, if_neg (Ne.symm e2)]
          constructor
          · omega
          · intro z
            have := h.le f.b
            omega
      · rw [List.getElem?_set_ne (Ne.symm e)] at hq
        obtain ⟨g, h1, h2, h3, h4⟩ := h.og v q hq
        refine ⟨g, h1, h2, ?_⟩
        simp only [vAt_set hlv, if_neg (Ne.symm e), if_neg e]
        by_cases e2 : f.a = g.b
        · rw [if_pos e2]
          rw [← e2] at h3
          constructor
          · omega
          · intro _; omega
        · rw [if_neg e2, if_neg (Ne.symm e2)]
          exact ⟨h3, h4⟩
  · rw [if_neg c]
    exact ⟨t, T, h⟩
theorem TI.run (F : Fs fs n) : ∀ (gs : List Fc) (p : Nat) (s : Lw) (t : Nat → Nat) (T : Nat) (last : Option Nat), gs = fs.drop p → TI fs n s t T → ∃ t' T', TI fs n (lowE gs p s last).1 t' T'
  | [], p, s, t, T, last, e, h => ⟨t, T, h⟩
  | f :: gs, p, s, t, T, last, e, h => by
    have hf : fs[p]? = some f := by
      have : (fs.drop p)[0]? = some f := by rw [← e]; rfl
      simpa using this
    have hlt : p < fs.length := (List.getElem?_eq_some_iff.mp hf).1
    obtain ⟨t', T', h1⟩ := h.step F hf last
    refine TI.run F gs (p + 1) _ t' T' _ ?_ h1
    have e2 : fs.drop p = f :: fs.drop (p + 1) := by
      rw [List.drop_eq_getElem_cons hlt]
      congr 1
      rw [List.getElem?_eq_getElem hlt] at hf
      exact Option.some.inj hf
    rw [e2] at e
    exact (List.cons.inj e).2
theorem TI.start : TI fs n (s0 n) (fun _ => 0) 0 := ⟨by simp [s0], by simp [s0], fun _ => Nat.le_refl _, fun v q h => by
  simp only [s0, List.getElem?_replicate] at h
  split at h <;> cases h⟩
/-! rounds -/
def stN (fs : List Fc) (n : Nat) : Nat → Lw
  | 0 => s0 n
  | k + 1 => (lowE fs 0 (stN fs n k) none).1
def lastN (fs : List Fc) (n k : Nat) : Option Nat := (lowE fs 0 (stN fs n k) none).2
theorem ti_N (F : Fs fs n) : ∀ k, ∃ t T, TI fs n (stN fs n k) t T
  | 0 => ⟨_, _, TI.start⟩
  | k + 1 => by
    obtain ⟨t, T, h⟩ := ti_N F k
    exact TI.run F fs 0 _ t T none rfl h
theorem ri_N (F : Fs fs n) : ∀ k, ∃ R, RI fs n k 0 (stN fs n k) R ∧ ∀ x, 0 < k → lastN fs n (k - 1) = some x → x < n ∧ R x = k
  | 0 => ⟨_, RI.start, fun _ h => absurd h (by decide)⟩
  | k + 1 => by
    obtain ⟨R, h, _⟩ := ri_N F k
    obtain ⟨R', h1, h2⟩ := h.round F
    exact ⟨R', h1, fun x _ hx => h2 x hx⟩
theorem len_N (F : Fs fs n) (k : Nat) : (stN fs n k).v.length = n ∧ (stN fs n k).o.length = n := by
  obtain ⟨R, h, _⟩ := ri_N F k
  exact ⟨h.lv, h.lo⟩
/-! the ring -/
def qOf (o : List (Option Nat)) (v : Nat) : Nat := match o[v]? with
  | some (some q) => q
  | _ => 0
def ringL (fs : List Fc) (o : List (Option Nat)) (y L : Nat) : List Nat := (List.range L).map fun k => qOf o (iter (backTo fs o) k y)
theorem hasO.q {o : List (Option Nat)} {v : Nat} (h : hasO fs o v) : ∃ f, o[v]? = some (some (qOf o v)) ∧ fs[qOf o v]? = some f ∧ f.a = v ∧ backTo fs o v = f.b := by
  obtain ⟨q, f, h1, h2, h3, h4⟩ := h.to
  have e : qOf o v = q := by unfold qOf; rw [h1]
  exact ⟨f, by rw [e]; exact h1, by rw [e]; exact h2, h3, h4⟩
theorem sumE_app {is js : List Nat} : sumE fs (is ++ js) = sumE fs is + sumE fs js := by
  unfold sumE
  induction is with
  | nil => simp
  | cons i is ih => simp only [List.cons_append, List.map_cons, List.foldr_cons, ih]; omega
theorem ringL_succ {o : List (Option Nat)} {y L : Nat} : ringL fs o y (L + 1) = ringL fs o y L ++ [qOf o (iter (backTo fs o) L y)] := by
  unfold ringL
  rw [List.range_succ]
  simp
theorem sum_neg {o : List (Option Nat)} {t : Nat → Nat} {T y L : Nat} {v : List Int} (h : TI fs n ⟨v, o⟩ t T) (hh : ∀ k, hasO fs o (iter (backTo fs o) k y)) (hL : 1 ≤ L) (he : iter (backTo fs o) L y = y) : sumE fs (ringL fs o y L) < 0 := by
  have key : ∀ m, vAt v (iter (backTo fs o) m y) + sumE fs (ringL fs o y m) < vAt v y ∨ (vAt v (iter (backTo fs o) m y) + sumE fs (ringL fs o y m) ≤ vAt v y ∧ t (iter (backTo fs o) m y) + m ≤ t y) := fun m => by
    induction m with
    | zero => right; exact ⟨by simp [ringL, sumE, iter], by simp [iter]⟩
    | succ m ih =>
      obtain ⟨f, h1, h2, h3, h4⟩ := (hh m).q
      obtain ⟨f', g1, g2, g3, g4⟩ := h.og _ _ h1
      rw [h2] at g1
      cases g1
      simp only at g3 g4
      have e1 : iter (backTo fs o) (m + 1) y = f.b := by rw [iter_succ, h4]
      have e2 : sumE fs (ringL fs o y (m + 1)) = sumE fs (ringL fs o y m) + f.c := by
        rw [ringL_succ, sumE_app]
        simp [sumE, cOf, h2]
      rw [e1, e2]
      rcases ih with ih | ⟨ih1, ih2⟩
      · left; omega
      · by_cases z : t (iter (backTo fs o) m y) ≤ t f.b
        · have := g4 z
          left; omega
        · right; exact ⟨by omega, by omega⟩
  rcases key L with k | ⟨_, k⟩
  · rw [he] at k; omega
  · rw [he] at k; omega
end Law

set_option Elab.async false
set_option linter.all false
set_option maxRecDepth 100000
set_option maxHeartbeats 2000000
namespace Law
open PySem PySem.Spec PyProof.Rows L2 Vs
set_option hygiene false in
local macro_rules | `(tactic| walk_at "vs1") => `(tactic| (first|((with_reducible first|apply i_seq|apply i_next|apply i_expr|apply i_ret|apply i_retN|apply i_if|apply i_break|apply i_cont|apply i_set|apply i_putX|apply i_for|apply i_retv|apply i_retl|apply i_retd|apply i_reto|apply i_setv|apply i_setl|apply i_setd|apply i_seto|apply i_usev|apply i_usel|apply i_used|apply i_useo|apply i_uses0|apply i_uses1|apply i_c|apply i_op|apply i_un|apply i_test|apply i_tand|apply i_tor|apply i_tnot|apply i_and|apply i_or|apply i_not|apply i_ifx|apply i_chain|apply i_chnK|apply i_nil|apply i_cons|apply i_tup|apply i_lst|apply i_dict0|apply i_cb|apply i_frz|apply i_addi|apply i_adds|apply i_addt|apply i_addl|apply i_raise|apply i_after|apply i_lc|apply i_dc|apply i_agName|apply i_yes|apply i_aiSeqV|apply i_append|apply i_meth0|apply i_make0|apply i_slice|apply i_aoNone|apply i_aoSome|apply i_agCons|apply i_agNil|apply i_asFld|apply i_get1|apply i_call0|apply i_insert|apply i_revT|apply i_disp|apply i_dspN|apply i_dspC|apply i_tryS|apply i_tnx|apply i_snx))|((with_reducible apply i_putK);rfl;(first|exact datV|exact datIv rfl|exact datL|exact datIl rfl|exact datD|exact datId rfl|exact datO|exact datIo rfl);(first|assumption|rfl))|((with_reducible first|apply i_reti|apply i_val|apply i_ref|apply i_appK|apply i_agTup|apply i_aug|apply i_dspK|apply i_xf);rfl)|((with_reducible first|apply i_isB|apply i_neg|apply i_int|apply i_isL|apply i_isI|apply i_isDc|apply i_augK|apply i_repL);(first|exact datV|exact datIv rfl|exact datL|exact datIl rfl|exact datD|exact datId rfl|exact datO|exact datIo rfl))|((with_reducible apply i_ix);(first|exact datV|exact datIv rfl|exact datL|exact datIl rfl|exact datD|exact datId rfl|exact datO|exact datIo rfl);(first|exact datV|exact datIv rfl|exact datL|exact datIl rfl|exact datD|exact datId rfl|exact datO|exact datIo rfl);(first|assumption|rfl))|((with_reducible first|apply i_plus|apply i_sub|apply i_lt|apply i_le|apply i_gt|apply i_ge|apply i_mul|apply i_mod|apply i_pow|apply i_div|apply i_eq|apply i_ne|apply i_is|apply i_isnot|apply i_max|apply i_min|apply i_repT|apply i_isTB|apply i_isnotB);(first|exact datV|exact datIv rfl|exact datL|exact datIl rfl|exact datD|exact datId rfl|exact datO|exact datIo rfl);(first|exact datV|exact datIv rfl|exact datL|exact datIl rfl|exact datD|exact datId rfl|exact datO|exact datIo rfl))|((with_reducible apply i_isi);(first|exact datV|exact datIv rfl|exact datL|exact datIl rfl|exact datD|exact datId rfl|exact datO|exact datIo rfl);(first|exact isi1 (by first|assumption|rfl) (by decide)|exact isi_lt (by first|assumption|rfl)|exact isi_own (by assumption) (by assumption)))|((with_reducible apply i_fldV);rfl;rfl)|((with_reducible apply i_forgetN);((try simp only [clearA, give, List.set_cons_zero, List.set_cons_succ]);rfl))|((with_reducible first|apply i_len|apply i_list);(first|exact datV|exact datIv rfl|exact datL|exact datIl rfl|exact datD|exact datId rfl|exact datO|exact datIo rfl);(first|assumption|rfl))|((with_reducible apply i_objK);(first|exact datV|exact datIv rfl|exact datL|exact datIl rfl|exact datD|exact datId rfl|exact datO|exact datIo rfl);rfl)|((with_reducible apply i_fldK);rfl;(first|exact fs_nil|exact fs_one);exact Nat.le_of_ble_eq_true rfl)|((with_reducible apply i_getK);(first|exact datV|exact datIv rfl|exact datL|exact datIl rfl|exact datD|exact datId rfl|exact datO|exact datIo rfl);(first|exact datV|exact datIv rfl|exact datL|exact datIl rfl|exact datD|exact datId rfl|exact datO|exact datIo rfl);rfl;(first|assumption|rfl))|((with_reducible apply i_inD);(first|exact datV|exact datIv rfl|exact datL|exact datIl rfl|exact datD|exact datId rfl|exact datO|exact datIo rfl);(first|exact datV|exact datIv rfl|exact datL|exact datIl rfl|exact datD|exact datId rfl|exact datO|exact datIo rfl);rfl)|((with_reducible apply i_insK);rfl;(first|exact datV|exact datIv rfl|exact datL|exact datIl rfl|exact datD|exact datId rfl|exact datO|exact datIo rfl))|((with_reducible apply i_useiv);rfl)|((with_reducible apply i_useil);rfl)|((with_reducible apply i_useid);rfl)|((with_reducible apply i_tuplel);(first|exact datV|exact datIv rfl|exact datL|exact datIl rfl|exact datD|exact datId rfl|exact datO|exact datIo rfl))|((with_reducible apply i_tuplet);(first|exact datV|exact datIv rfl|exact datL|exact datIl rfl|exact datD|exact datId rfl|exact datO|exact datIo rfl))|((with_reducible apply i_slcT);(first|exact datV|exact datIv rfl|exact datL|exact datIl rfl|exact datD|exact datId rfl|exact datO|exact datIo rfl))|((with_reducible apply i_slcL);(first|exact datV|exact datIv rfl|exact datL|exact datIl rfl|exact datD|exact datId rfl|exact datO|exact datIo rfl))|((with_reducible apply i_ninD);(first|exact datV|exact datIv rfl|exact datL|exact datIl rfl|exact datD|exact datId rfl|exact datO|exact datIo rfl);(first|exact datV|exact datIv rfl|exact datL|exact datIl rfl|exact datD|exact datId rfl|exact datO|exact datIo rfl);rfl)|((with_reducible apply i_revK);(first|exact datV|exact datIv rfl|exact datL|exact datIl rfl|exact datD|exact datId rfl|exact datO|exact datIo rfl))|((with_reducible first|apply i_sz|apply i_sz15);exact Nat.le_of_ble_eq_true rfl)|exact pl_int|exact pl_str|exact pl_bl|exact pl_non|exact lenA_l|((with_reducible first|apply lenA_h|apply plD_h|apply len_h|apply ins_h);assumption)|((with_reducible apply cpow_h);(unfold CPow; decide))|((with_reducible apply cmul_h);(unfold CMul; first|decide|omega))|(with_reducible first|apply i_itet|apply i_itef)|((with_reducible refine i_itepB ?_ ?_);(first|assumption|rfl))|((with_reducible refine i_itenB ?_ ?_);(first|assumption|rfl))|((with_reducible apply i_ite)<;>intro hif)))
def allInt : D → Bool
  | .tup xs => xs.all isIntD
  | _ => false
def factB (n : Nat) : D → Option Fc
  | .tup [.int a, .int b, .int c] => if (0 ≤ a ∧ a < n) ∧ (0 ≤ b ∧ b < n) then some ⟨a.toNat, b.toNat, c⟩ else none
  | _ => none
theorem factB_some {n : Nat} {d : D} {f : Fc} (h : factB n d = some f) : d = fcD f ∧ f.a < n ∧ f.b < n := by
  unfold factB at h
  split at h
  · split at h
    · rename_i a b c hz
      cases h
      refine ⟨?_, by simp only; omega, by simp only; omega⟩
      simp only [fcD]
      congr 3
      · omega
      · congr 2
        omega
    · cases h
  · cases h
theorem factB_fc {n : Nat} {f : Fc} (ha : f.a < n) (hb : f.b < n) : factB n (fcD f) = some f := by
  show (if ((0 : Int) ≤ (f.a : Int) ∧ (f.a : Int) < n) ∧ ((0 : Int) ≤ (f.b : Int) ∧ (f.b : Int) < n) then some (⟨((f.a : Int)).toNat, ((f.b : Int)).toNat, f.c⟩ : Fc) else none) = some f
  rw [if_pos ⟨⟨by omega, by omega⟩, ⟨by omega, by omega⟩⟩]
  simp
/-- the facts of a list, or the place of the first thing that is none -/
def factsB (n : Nat) : List D → Nat → Except Nat (List Fc)
  | [], _ => .ok []
  | d :: r, p => match factB n d with
    | none => .error p
    | some f => match factsB n r (p + 1) with
      | .ok fs => .ok (f :: fs)
      | .error q => .error q
theorem factsB_ok {n : Nat} : ∀ {xs : List D} {p : Nat} {fs : List Fc}, factsB n xs p = .ok fs → xs = fcsD fs ∧ Fs fs n
  | [], p, fs, h => by
    cases h
    exact ⟨rfl, ⟨(fun _ h => nomatch h), (fun _ h => nomatch h)⟩⟩
  | d :: r, p, fs, h => by
    unfold factsB at h
    split at h
    · cases h
    · rename_i f hf
      split at h
      · rename_i gs hg
        cases h
        obtain ⟨e, h1, h2⟩ := factB_some hf
        obtain ⟨e2, F⟩ := factsB_ok hg
        refine ⟨by rw [e, e2]; rfl, ⟨fun g hg => ?_, fun g hg => ?_⟩⟩
        · rcases List.mem_cons.mp hg with rfl | hg
          · exact h1
          · exact F.a g hg
        · rcases List.mem_cons.mp hg with rfl | hg
          · exact h2
          · exact F.b g hg
      · cases h
theorem factsB_fcs {n : Nat} : ∀ {fs : List Fc} {p : Nat}, Fs fs n → factsB n (fcsD fs) p = .ok fs
  | [], p, _ => rfl
  | f :: fs, p, F => by
    show factsB n (fcD f :: fcsD fs) p = _
    unfold factsB
    rw [factB_fc (F.a f (List.mem_cons_self ..)) (F.b f (List.mem_cons_self ..))]
    simp only [factsB_fcs (p := p + 1) ⟨fun g hg => F.a g (List.mem_cons_of_mem _ hg), fun g hg => F.b g (List.mem_cons_of_mem _ hg)⟩]
section
variable {EA : AX} {ρ ρ' : AEnv} {Q : AK} {DA : AEnds} {g : Gm} [Gok g]
theorem T_is_fact {n : Nat} {d : D} (hd : okTh d) : Ev (S_is_fact g) [.v (.int n), .v d] (.v (.bl (factB n d).isSome)) := by
  refine evI rfl fun DA hR hN => ?_
  show as_is_fact g.K _ _ [some (.v (.int n)), some (.v d), none]
  obtain ⟨ht, he⟩ := hd
  have ht' : (tyN d).isSome = true := ht
  have hno : (∀ xs, d ≠ .tup xs) → as_is_fact g.K (S_is_integer g) DA [some (.v (.int n)), some (.v d), none] := fun hn => by
    have h0 : isiF d "tuple" = false := by
      rw [isi_tup ht]
      cases d <;> first | rfl | exact absurd rfl (hn _)
    have h1 : factB n d = none := by cases d <;> first | rfl | exact absurd rfl (hn _)
    have h2 : (!isiF d "tuple") = true := by rw [h0]; rfl
    unfold as_is_fact
    (repeat' walk_at "vs1")
    exact hR _ _ rfl (by rw [h1]; rfl)
  cases d with
  | tup xs =>
    obtain ⟨hxl, hx⟩ := he xs rfl
    have hlx : lenD (.tup xs) = some xs.length := rfl
    unfold as_is_fact rs_is_fact_2 rs_is_fact_3
    by_cases h3 : xs.length = 3
    · obtain ⟨x, y, z, rfl⟩ : ∃ x y z, xs = [x, y, z] := by
        match xs, h3 with
        | [x, y, z], _ => exact ⟨x, y, z, rfl⟩
      have h4 : (!deq (.int (([x, y, z] : List D).length : Nat)) (.int 3)) = false := by rw [deq_int]; rfl
      (repeat' walk_at "vs1")
      refine ⟨_, rfl, none1 rfl, ?_⟩
      have hm := List.map_id [x, y, z]
      rw [← hm]
      refine lc_typed id (fun _ => true) (fun d => .bl (isIntD d)) (xs := [x, y, z]) trivial (by simp) (fun e he R N hR hN => ?_) ?_
      · have hT := T_is_integer (g := g) (hx e he)
        simp only [id]
        (repeat' first|((with_reducible apply kEv);rfl;exact hT)|walk_at "vs1")
        exact hR _ rfl rfl
      · rw [hm]
        (repeat' walk_at "vs1")
        refine i_all (bs := [isIntD x, isIntD y, isIntD z]) datL ?_
        have hall : ([isIntD x, isIntD y, isIntD z] : List Bool).all id = (isIntD x && (isIntD y && isIntD z)) := by simp
        cases hi : ([isIntD x, isIntD y, isIntD z] : List Bool).all id with
        | false =>
          have h5 : (!false) = true := rfl
          (repeat' walk_at "vs1")
          refine hR _ _ rfl ?_
          have : factB n (.tup [x, y, z]) = none := by
            rw [hall] at hi
            cases x <;> cases y <;> cases z <;> first | rfl | (simp [isIntD] at hi; done)
          rw [this]; rfl
        | true =>
          rw [hall] at hi
          have h5 : (!true) = false := rfl
          obtain ⟨a, b, c, rfl, rfl, rfl⟩ : ∃ a b c, x = .int a ∧ y = .int b ∧ z = .int c := by
            cases x <;> cases y <;> cases z <;> first | exact ⟨_, _, _, rfl, rfl, rfl⟩ | (simp [isIntD] at hi; done)
          have hf : (factB n (.tup [.int a, .int b, .int c])).isSome = decide ((0 ≤ a ∧ a < n) ∧ (0 ≤ b ∧ b < n)) := by
            show (if (0 ≤ a ∧ a < n) ∧ (0 ≤ b ∧ b < n) then some (⟨a.toNat, b.toNat, c⟩ : Fc) else none).isSome = _
            by_cases h : (0 ≤ a ∧ a < n) ∧ (0 ≤ b ∧ b < n)
            · rw [if_pos h, decide_eq_true h]; rfl
            · rw [if_neg h, decide_eq_false h]; rfl
          rw [hf] at hR
          (repeat' walk_at "vs1")
          all_goals (refine hR _ _ rfl ?_; simp only [decide_eq_true_eq, decide_eq_false_iff_not] at *; congr 2; first | (symm; simp only [decide_eq_false_iff_not, decide_eq_true_eq]; omega) | (simp only [decide_eq_decide]; omega))
    · have h4 : (!deq (.int (xs.length : Nat)) (.int 3)) = true := by
        rw [deq_int]
        simp
        omega
      (repeat' walk_at "vs1")
      refine hR _ _ rfl ?_
      have : factB n (.tup xs) = none := by
        unfold factB
        split
        · rename_i heq
          cases heq
          exact absurd rfl h3
        · rfl
      rw [this]; rfl
  | _ => exact hno (fun _ h => by cases h)
end
end Law

set_option Elab.async false
set_option linter.all false
set_option maxRecDepth 100000
set_option maxHeartbeats 2000000
namespace Law
open PySem PySem.Spec PyProof.Rows L2 Vs
set_option hygiene false in
local macro_rules | `(tactic| walk_at "vs1") => `(tactic| (first|((with_reducible first|apply i_seq|apply i_next|apply i_expr|apply i_ret|apply i_retN|apply i_if|apply i_break|apply i_cont|apply i_set|apply i_putX|apply i_for|apply i_retv|apply i_retl|apply i_retd|apply i_reto|apply i_setv|apply i_setl|apply i_setd|apply i_seto|apply i_usev|apply i_usel|apply i_used|apply i_useo|apply i_uses0|apply i_uses1|apply i_c|apply i_op|apply i_un|apply i_test|apply i_tand|apply i_tor|apply i_tnot|apply i_and|apply i_or|apply i_not|apply i_ifx|apply i_chain|apply i_chnK|apply i_nil|apply i_cons|apply i_tup|apply i_lst|apply i_dict0|apply i_cb|apply i_frz|apply i_addi|apply i_adds|apply i_addt|apply i_addl|apply i_raise|apply i_after|apply i_lc|apply i_dc|apply i_agName|apply i_yes|apply i_aiSeqV|apply i_append|apply i_meth0|apply i_make0|apply i_slice|apply i_aoNone|apply i_aoSome|apply i_agCons|apply i_agNil|apply i_asFld|apply i_get1|apply i_call0|apply i_insert|apply i_revT|apply i_disp|apply i_dspN|apply i_dspC|apply i_tryS|apply i_tnx|apply i_snx))|((with_reducible apply i_putK);rfl;(first|exact datV|exact datIv rfl|exact datL|exact datIl rfl|exact datD|exact datId rfl|exact datO|exact datIo rfl);(first|assumption|rfl))|((with_reducible first|apply i_reti|apply i_val|apply i_ref|apply i_appK|apply i_agTup|apply i_aug|apply i_dspK|apply i_xf);rfl)|((with_reducible first|apply i_isB|apply i_neg|apply i_int|apply i_isL|apply i_isI|apply i_isDc|apply i_augK|apply i_repL);(first|exact datV|exact datIv rfl|exact datL|exact datIl rfl|exact datD|exact datId rfl|exact datO|exact datIo rfl))|((with_reducible apply i_ix);(first|exact datV|exact datIv rfl|exact datL|exact datIl rfl|exact datD|exact datId rfl|exact datO|exact datIo rfl);(first|exact datV|exact datIv rfl|exact datL|exact datIl rfl|exact datD|exact datId rfl|exact datO|exact datIo rfl);(first|assumption|rfl))|((with_reducible first|apply i_plus|apply i_sub|apply i_lt|apply i_le|apply i_gt|apply i_ge|apply i_mul|apply i_mod|apply i_pow|apply i_div|apply i_eq|apply i_ne|apply i_is|apply i_isnot|apply i_max|apply i_min|apply i_repT|apply i_isTB|apply i_isnotB);(first|exact datV|exact datIv rfl|exact datL|exact datIl rfl|exact datD|exact datId rfl|exact datO|exact datIo rfl);(first|exact datV|exact datIv rfl|exact datL|exact datIl rfl|exact datD|exact datId rfl|exact datO|exact datIo rfl))|((with_reducible apply i_isi);(first|exact datV|exact datIv rfl|exact datL|exact datIl rfl|exact datD|exact datId rfl|exact datO|exact datIo rfl);(first|exact isi1 (by first|assumption|rfl) (by decide)|exact isi_lt (by first|assumption|rfl)|exact isi_own (by assumption) (by assumption)))|((with_reducible apply i_fldV);rfl;rfl)|((with_reducible apply i_forgetN);((try simp only [clearA, give, List.set_cons_zero, List.set_cons_succ]);rfl))|((with_reducible first|apply i_len|apply i_list);(first|exact datV|exact datIv rfl|exact datL|exact datIl rfl|exact datD|exact datId rfl|exact datO|exact datIo rfl);(first|assumption|rfl))|((with_reducible apply i_objK);(first|exact datV|exact datIv rfl|exact datL|exact datIl rfl|exact datD|exact datId rfl|exact datO|exact datIo rfl);rfl)|((with_reducible apply i_fldK);rfl;(first|exact fs_nil|exact fs_one);exact Nat.le_of_ble_eq_true rfl)|((with_reducible apply i_getK);(first|exact datV|exact datIv rfl|exact datL|exact datIl rfl|exact datD|exact datId rfl|exact datO|exact datIo rfl);(first|exact datV|exact datIv rfl|exact datL|exact datIl rfl|exact datD|exact datId rfl|exact datO|exact datIo rfl);rfl;(first|assumption|rfl))|((with_reducible apply i_inD);(first|exact datV|exact datIv rfl|exact datL|exact datIl rfl|exact datD|exact datId rfl|exact datO|exact datIo rfl);(first|exact datV|exact datIv rfl|exact datL|exact datIl rfl|exact datD|exact datId rfl|exact datO|exact datIo rfl);rfl)|((with_reducible apply i_insK);rfl;(first|exact datV|exact datIv rfl|exact datL|exact datIl rfl|exact datD|exact datId rfl|exact datO|exact datIo rfl))|((with_reducible apply i_useiv);rfl)|((with_reducible apply i_useil);rfl)|((with_reducible apply i_useid);rfl)|((with_reducible apply i_tuplel);(first|exact datV|exact datIv rfl|exact datL|exact datIl rfl|exact datD|exact datId rfl|exact datO|exact datIo rfl))|((with_reducible apply i_tuplet);(first|exact datV|exact datIv rfl|exact datL|exact datIl rfl|exact datD|exact datId rfl|exact datO|exact datIo rfl))|((with_reducible apply i_slcT);(first|exact datV|exact datIv rfl|exact datL|exact datIl rfl|exact datD|exact datId rfl|exact datO|exact datIo rfl))|((with_reducible apply i_slcL);(first|exact datV|exact datIv rfl|exact datL|exact datIl rfl|exact datD|exact datId rfl|exact datO|exact datIo rfl))|((with_reducible apply i_ninD);(first|exact datV|exact datIv rfl|exact datL|exact datIl rfl|exact datD|exact datId rfl|exact datO|exact datIo rfl);(first|exact datV|exact datIv rfl|exact datL|exact datIl rfl|exact datD|exact datId rfl|exact datO|exact datIo rfl);rfl)|((with_reducible apply i_revK);(first|exact datV|exact datIv rfl|exact datL|exact datIl rfl|exact datD|exact datId rfl|exact datO|exact datIo rfl))|((with_reducible first|apply i_sz|apply i_sz15);exact Nat.le_of_ble_eq_true rfl)|exact pl_int|exact pl_str|exact pl_bl|exact pl_non|exact lenA_l|((with_reducible first|apply lenA_h|apply plD_h|apply len_h|apply ins_h);assumption)|((with_reducible apply cpow_h);(unfold CPow; decide))|((with_reducible apply cmul_h);(unfold CMul; first|decide|omega))|(with_reducible first|apply i_itet|apply i_itef)|((with_reducible refine i_itepB ?_ ?_);(first|assumption|rfl))|((with_reducible refine i_itenB ?_ ?_);(first|assumption|rfl))|((with_reducible apply i_ite)<;>intro hif)))
section
variable {EA : AX} {ρ ρ' : AEnv} {Q : AK} {DA : AEnds} {g : Gm} [Gok g]
theorem T_law_is_fact {n : Nat} {d : D} (hd : okTh d) : Ev (S__law_is_fact g) [.v (.int n), .v d] (.v (.bl (factB n d).isSome)) := by
  refine evI rfl fun DA hR hN => ?_
  show as__law_is_fact g.K _ _ [some (.v (.int n)), some (.v d), none]
  obtain ⟨ht, he⟩ := hd
  have ht' : (tyN d).isSome = true := ht
  have hno : (∀ xs, d ≠ .tup xs) → as__law_is_fact g.K (S__law_is_integer g) DA [some (.v (.int n)), some (.v d), none] := fun hn => by
    have h0 : isiF d "tuple" = false := by
      rw [isi_tup ht]
      cases d <;> first | rfl | exact absurd rfl (hn _)
    have h1 : factB n d = none := by cases d <;> first | rfl | exact absurd rfl (hn _)
    have h2 : (!isiF d "tuple") = true := by rw [h0]; rfl
    unfold as__law_is_fact
    (repeat' walk_at "vs1")
    exact hR _ _ rfl (by rw [h1]; rfl)
  cases d with
  | tup xs =>
    obtain ⟨hxl, hx⟩ := he xs rfl
    have hlx : lenD (.tup xs) = some xs.length := rfl
    unfold as__law_is_fact rs__law_is_fact_2
    by_cases h3 : xs.length = 3
    · obtain ⟨x, y, z, rfl⟩ : ∃ x y z, xs = [x, y, z] := by
        match xs, h3 with
        | [x, y, z], _ => exact ⟨x, y, z, rfl⟩
      have h4 : (!deq (.int (([x, y, z] : List D).length : Nat)) (.int 3)) = false := by rw [deq_int]; rfl
      (repeat' walk_at "vs1")
      refine ⟨_, rfl, none1 rfl, ?_⟩
      have hm := List.map_id [x, y, z]
      rw [← hm]
      refine lc_typed id (fun _ => true) (fun d => .bl (isIntD d)) (xs := [x, y, z]) trivial (by simp) (fun e he R N hR hN => ?_) ?_
      · have hT := T_law_is_integer (g := g) (hx e he)
        simp only [id]
        (repeat' first|((with_reducible apply kEv);rfl;exact hT)|walk_at "vs1")
        exact hR _ rfl rfl
      · rw [hm]
        (repeat' walk_at "vs1")
        refine i_all (bs := [isIntD x, isIntD y, isIntD z]) datL ?_
        have hall : ([isIntD x, isIntD y, isIntD z] : List Bool).all id = (isIntD x && (isIntD y && isIntD z)) := by simp
        cases hi : ([isIntD x, isIntD y, isIntD z] : List Bool).all id with
        | false =>
          have h5 : (!false) = true := rfl
          (repeat' walk_at "vs1")
          refine hR _ _ rfl ?_
          have : factB n (.tup [x, y, z]) = none := by
            rw [hall] at hi
            cases x <;> cases y <;> cases z <;> first | rfl | (simp [isIntD] at hi; done)
          rw [this]; rfl
        | true =>
          rw [hall] at hi
          have h5 : (!true) = false := rfl
          obtain ⟨a, b, c, rfl, rfl, rfl⟩ : ∃ a b c, x = .int a ∧ y = .int b ∧ z = .int c := by
            cases x <;> cases y <;> cases z <;> first | exact ⟨_, _, _, rfl, rfl, rfl⟩ | (simp [isIntD] at hi; done)
          have hf : (factB n (.tup [.int a, .int b, .int c])).isSome = decide ((0 ≤ a ∧ a < n) ∧ (0 ≤ b ∧ b < n)) := by
            show (if (0 ≤ a ∧ a < n) ∧ (0 ≤ b ∧ b < n) then some (⟨a.toNat, b.toNat, c⟩ : Fc) else none).isSome = _
            by_cases h : (0 ≤ a ∧ a < n) ∧ (0 ≤ b ∧ b < n)
            · rw [if_pos h, decide_eq_true h]; rfl
            · rw [if_neg h, decide_eq_false h]; rfl
          rw [hf] at hR
          (repeat' walk_at "vs1")
          all_goals (refine hR _ _ rfl ?_; simp only [decide_eq_true_eq, decide_eq_false_iff_not] at *; congr 2; first | (symm; simp only [decide_eq_false_iff_not, decide_eq_true_eq]; omega) | (simp only [decide_eq_decide]; omega))
    · have h4 : (!deq (.int (xs.length : Nat)) (.int 3)) = true := by
        rw [deq_int]
        simp
        omega
      (repeat' walk_at "vs1")
      refine hR _ _ rfl ?_
      have : factB n (.tup xs) = none := by
        unfold factB
        split
        · rename_i heq
          cases heq
          exact absurd rfl h3
        · rfl
      rw [this]; rfl
  | _ => exact hno (fun _ h => by cases h)

def fcx (g : Gm) (q : Nat) : Addr × List (Str × D) := (g.C_BadFact, [("at", .int (q : Nat))])
theorem T_check_facts {n : Nat} {xs : List D} (hx : ∀ x ∈ xs, okTh x) : Sat (S_check_facts g) [.v (.int n), .lst xs] (fun r o => (∃ fs, factsB n xs 0 = .ok fs) ∧ r = .v .non ∧ o = [.v (.int n), .lst xs]) (fun C fs o => ∃ q, factsB n xs 0 = .error q ∧ C = g.C_BadFact ∧ fs = [(("at" : Str), .int (q : Nat))] ∧ o = [.v (.int n), .lst xs]) := by
  refine fnP rfl fun DA hR hN hX => ?_
  show as_check_facts _ _ _ [some (.v (.int n)), some (.lst xs), none, none]
  unfold as_check_facts
  refine i_for ⟨_, _, datIl rfl, .inl rfl, ?_⟩
  have he : enumD xs = (xs.zipIdx 0).map fun q => .tup [.int (q.2 : Nat), id q.1] := by
    have := enum_map id xs
    rwa [List.map_id] at this
  rw [he]
  refine for_enum id (fun p gs ρ => (∀ x ∈ gs, okTh x) ∧ ((∃ fs, factsB n gs p = .ok fs) → ∃ fs, factsB n xs 0 = .ok fs) ∧ (∀ q, factsB n gs p = .error q → factsB n xs 0 = .error q) ∧ ρ = [some (.v (.int n)), some (.lst xs), none, none]) ?_ ?_ xs 0 _ ⟨hx, fun h => h, fun _ h => h, rfl⟩
  · rintro p _ ⟨_, h, _, rfl⟩
    exact ⟨rfl, hN _ _ rfl ⟨h ⟨[], rfl⟩, rfl, rfl⟩⟩
  · rintro p d gs _ ⟨h, h1, h2, rfl⟩ K ih
    refine ⟨rfl, ?_⟩
    have hT := T_is_fact (g := g) (n := n) (h d (List.mem_cons_self ..))
    unfold bd_check_facts_1
    simp only [id]
    cases hf : factB n d with
    | none =>
      rw [hf] at hT
      (repeat' first|((with_reducible apply kEv);rfl;exact hT)|walk_at "vs1")
      exact hX _ _ _ _ rfl ⟨p, h2 p (by unfold factsB; rw [hf]), rfl, rfl, rfl⟩
    | some f =>
      rw [hf] at hT
      (repeat' first|((with_reducible apply kEv);rfl;exact hT)|walk_at "vs1")
      refine ih _ ⟨fun x hx => h x (List.mem_cons_of_mem _ hx), fun ⟨fs, hfs⟩ => h1 ⟨f :: fs, by unfold factsB; rw [hf]; simp only [hfs]⟩, fun q hq => h2 q (by unfold factsB; rw [hf]; simp only [hq]), rfl⟩
/-! relaxed -/
def vsD (v : List Int) : List D := v.map .int
def orD : Option Nat → D
  | some n => .int (n : Nat)
  | none => .non
def osD (o : List (Option Nat)) : List D := o.map orD
theorem vs_at {v : List Int} {i : Nat} (h : i < v.length) : itD (.lst (vsD v)) (.int (i : Int)) = some (.int (vAt v i)) := by
  show atI (vsD v) (i : Int) = _
  rw [at_nat (by simpa [vsD] using h)]
  simp [vsD, vAt, List.getElem?_eq_getElem h]
theorem vs_put {v : List Int} {i : Nat} {x : Int} (h : i < v.length) : putX (.lst (vsD v)) (.int (i : Int)) (.int x) = some (.lst (vsD (v.set i x))) := by
  show (ixN (vsD v).length (i : Int)).map _ = _
  have : ixN (vsD v).length (i : Int) = some i := by
    unfold ixN
    rw [if_pos (by omega), if_pos (by simp [vsD]; omega)]
    simp
  rw [this]
  simp [vsD, List.map_set]
theorem os_put {v : List (Option Nat)} {i p : Nat} (h : i < v.length) : putX (.lst (osD v)) (.int (i : Int)) (.int (p : Nat)) = some (.lst (osD (v.set i (some p)))) := by
  show (ixN (osD v).length (i : Int)).map _ = _
  have : ixN (osD v).length (i : Int) = some i := by
    unfold ixN
    rw [if_pos (by omega), if_pos (by simp [osD]; omega)]
    simp
  rw [this]
  simp [osD, List.map_set, orD]
theorem low_len (n : Nat) : ∀ (fs : List Fc) (p : Nat) (s : Lw) (last : Option Nat), s.v.length = n → s.o.length = n → (lowE fs p s last).1.v.length = n ∧ (lowE fs p s last).1.o.length = n
  | [], p, s, last, h1, h2 => ⟨h1, h2⟩
  | f :: fs, p, s, last, h1, h2 => by
    unfold lowE
    refine low_len n fs (p + 1) _ _ ?_ ?_
    · unfold low1
      split
      · simpa using h1
      · exact h1
    · unfold low1
      split
      · simpa using h2
      · exact h2
theorem T_relaxed {n : Nat} {fs : List Fc} {s : Lw} (F : Fs fs n) (h1 : s.v.length = n) (h2 : s.o.length = n) : Sat (S_relaxed g) [.lst (fcsD fs), .lst (vsD s.v), .lst (osD s.o)] (fun r o => r = .v (orD (lowE fs 0 s none).2) ∧ o = [.lst (fcsD fs), .lst (vsD (lowE fs 0 s none).1.v), .lst (osD (lowE fs 0 s none).1.o)]) noO := by
  refine fnP rfl fun DA hR hN hX => ?_
  show as_relaxed _ [some (.lst (fcsD fs)), some (.lst (vsD s.v)), some (.lst (osD s.o)), none, none, none, none, none]
  unfold as_relaxed rs_relaxed_2 rs_relaxed_3
  (repeat' walk_at "vs1")
  refine ⟨_, _, datIl rfl, .inl rfl, ?_⟩
  have he : enumD (fcsD fs) = (fs.zipIdx 0).map fun q => .tup [.int (q.2 : Nat), fcD q.1] := enum_map fcD fs
  rw [he]
  refine for_enum fcD (fun p gs ρ => ∃ (s' : Lw) (last : Option Nat), s'.v.length = n ∧ s'.o.length = n ∧ (∀ f ∈ gs, f.a < n ∧ f.b < n) ∧ lowE fs 0 s none = lowE gs p s' last ∧ ρ = [some (.lst (fcsD fs)), some (.lst (vsD s'.v)), some (.lst (osD s'.o)), some (.v (orD last)), none, none, none, none]) ?_ ?_ fs 0 _ ⟨s, none, h1, h2, fun f hf => ⟨F.a f hf, F.b f hf⟩, rfl, rfl⟩
  · rintro p _ ⟨s', last, _, _, _, e, rfl⟩
    refine ⟨rfl, ?_⟩
    (repeat' walk_at "vs1")
    exact hR _ _ _ rfl ⟨by rw [e]; rfl, by rw [e]; rfl⟩
  · rintro p f gs _ ⟨s', last, l1, l2, hf, e, rfl⟩ K ih
    refine ⟨rfl, ?_⟩
    have hf0 := hf f (List.mem_cons_self ..)
    have hb := vs_at (v := s'.v) (i := f.b) (by omega)
    have ha := vs_at (v := s'.v) (i := f.a) (by omega)
    have hp := vs_put (v := s'.v) (i := f.a) (x := vAt s'.v f.b + f.c) (by omega)
    have ho := os_put (v := s'.o) (i := f.a) (p := p) (by omega)
    unfold bd_relaxed_1
    simp only [fcD]
    (repeat' walk_at "vs1")
    · have hc : vAt s'.v f.b + f.c < vAt s'.v f.a := of_decide_eq_true hif
      refine ih _ ⟨⟨s'.v.set f.a (vAt s'.v f.b + f.c), s'.o.set f.a (some p)⟩, some f.a, by simpa using l1, by simpa using l2, fun f hf' => hf f (List.mem_cons_of_mem _ hf'), ?_, rfl⟩
      rw [e]
      show lowE gs (p + 1) (low1 s' last p f).1 (low1 s' last p f).2 = _
      unfold low1
      rw [if_pos hc]
    · have hc : ¬(vAt s'.v f.b + f.c < vAt s'.v f.a) := by simpa using hif
      refine ih _ ⟨s', last, l1, l2, fun f hf' => hf f (List.mem_cons_of_mem _ hf'), ?_, rfl⟩
      rw [e]
      show lowE gs (p + 1) (low1 s' last p f).1 (low1 s' last p f).2 = _
      unfold low1
      rw [if_neg hc]
/-! ring_behind -/
theorem os_at {o : List (Option Nat)} {i q : Nat} (h : o[i]? = some (some q)) : itD (.lst (osD o)) (.int (i : Int)) = some (.int (q : Nat)) := by
  have hi : i < o.length := (List.getElem?_eq_some_iff.mp h).1
  show atI (osD o) (i : Int) = _
  rw [at_nat (by simpa [osD] using hi)]
  simp [osD, h, orD]
theorem fc_of {fs : List Fc} {q : Nat} {f : Fc} (h : fs[q]? = some f) : itD (.lst (fcsD fs)) (.int (q : Int)) = some (.tup [.int f.a, .int f.b, .int f.c]) := by
  have hq : q < fs.length := (List.getElem?_eq_some_iff.mp h).1
  show atI (fcsD fs) (q : Int) = _
  rw [at_nat (by simpa [fcsD] using hq)]
  simp [fcsD, h, fcD]
end
end Law

set_option Elab.async false
set_option linter.all false
set_option maxRecDepth 100000
set_option maxHeartbeats 2000000
namespace Law
open PySem PySem.Spec PyProof.Rows L2 Vs
set_option hygiene false in
local macro_rules | `(tactic| walk_at "vs1") => `(tactic| (first|((with_reducible first|apply i_seq|apply i_next|apply i_expr|apply i_ret|apply i_retN|apply i_if|apply i_break|apply i_cont|apply i_set|apply i_putX|apply i_for|apply i_retv|apply i_retl|apply i_retd|apply i_reto|apply i_setv|apply i_setl|apply i_setd|apply i_seto|apply i_usev|apply i_usel|apply i_used|apply i_useo|apply i_uses0|apply i_uses1|apply i_c|apply i_op|apply i_un|apply i_test|apply i_tand|apply i_tor|apply i_tnot|apply i_and|apply i_or|apply i_not|apply i_ifx|apply i_chain|apply i_chnK|apply i_nil|apply i_cons|apply i_tup|apply i_lst|apply i_dict0|apply i_cb|apply i_frz|apply i_addi|apply i_adds|apply i_addt|apply i_addl|apply i_raise|apply i_after|apply i_lc|apply i_dc|apply i_agName|apply i_yes|apply i_aiSeqV|apply i_append|apply i_meth0|apply i_make0|apply i_slice|apply i_aoNone|apply i_aoSome|apply i_agCons|apply i_agNil|apply i_asFld|apply i_get1|apply i_call0|apply i_insert|apply i_revT|apply i_disp|apply i_dspN|apply i_dspC|apply i_tryS|apply i_tnx|apply i_snx))|((with_reducible apply i_putK);rfl;(first|exact datV|exact datIv rfl|exact datL|exact datIl rfl|exact datD|exact datId rfl|exact datO|exact datIo rfl);(first|assumption|rfl))|((with_reducible first|apply i_reti|apply i_val|apply i_ref|apply i_appK|apply i_agTup|apply i_aug|apply i_dspK|apply i_xf);rfl)|((with_reducible first|apply i_isB|apply i_neg|apply i_int|apply i_isL|apply i_isI|apply i_isDc|apply i_augK|apply i_repL);(first|exact datV|exact datIv rfl|exact datL|exact datIl rfl|exact datD|exact datId rfl|exact datO|exact datIo rfl))|((with_reducible apply i_ix);(first|exact datV|exact datIv rfl|exact datL|exact datIl rfl|exact datD|exact datId rfl|exact datO|exact datIo rfl);(first|exact datV|exact datIv rfl|exact datL|exact datIl rfl|exact datD|exact datId rfl|exact datO|exact datIo rfl);(first|assumption|rfl))|((with_reducible first|apply i_plus|apply i_sub|apply i_lt|apply i_le|apply i_gt|apply i_ge|apply i_mul|apply i_mod|apply i_pow|apply i_div|apply i_eq|apply i_ne|apply i_is|apply i_isnot|apply i_max|apply i_min|apply i_repT|apply i_isTB|apply i_isnotB);(first|exact datV|exact datIv rfl|exact datL|exact datIl rfl|exact datD|exact datId rfl|exact datO|exact datIo rfl);(first|exact datV|exact datIv rfl|exact datL|exact datIl rfl|exact datD|exact datId rfl|exact datO|exact datIo rfl))|((with_reducible apply i_isi);(first|exact datV|exact datIv rfl|exact datL|exact datIl rfl|exact datD|exact datId rfl|exact datO|exact datIo rfl);(first|exact isi1 (by first|assumption|rfl) (by decide)|exact isi_lt (by first|assumption|rfl)|exact isi_own (by assumption) (by assumption)))|((with_reducible apply i_fldV);rfl;rfl)|((with_reducible apply i_forgetN);((try simp only [clearA, give, List.set_cons_zero, List.set_cons_succ]);rfl))|((with_reducible first|apply i_len|apply i_list);(first|exact datV|exact datIv rfl|exact datL|exact datIl rfl|exact datD|exact datId rfl|exact datO|exact datIo rfl);(first|assumption|rfl))|((with_reducible apply i_objK);(first|exact datV|exact datIv rfl|exact datL|exact datIl rfl|exact datD|exact datId rfl|exact datO|exact datIo rfl);rfl)|((with_reducible apply i_fldK);rfl;(first|exact fs_nil|exact fs_one);exact Nat.le_of_ble_eq_true rfl)|((with_reducible apply i_getK);(first|exact datV|exact datIv rfl|exact datL|exact datIl rfl|exact datD|exact datId rfl|exact datO|exact datIo rfl);(first|exact datV|exact datIv rfl|exact datL|exact datIl rfl|exact datD|exact datId rfl|exact datO|exact datIo rfl);rfl;(first|assumption|rfl))|((with_reducible apply i_inD);(first|exact datV|exact datIv rfl|exact datL|exact datIl rfl|exact datD|exact datId rfl|exact datO|exact datIo rfl);(first|exact datV|exact datIv rfl|exact datL|exact datIl rfl|exact datD|exact datId rfl|exact datO|exact datIo rfl);rfl)|((with_reducible apply i_insK);rfl;(first|exact datV|exact datIv rfl|exact datL|exact datIl rfl|exact datD|exact datId rfl|exact datO|exact datIo rfl))|((with_reducible apply i_useiv);rfl)|((with_reducible apply i_useil);rfl)|((with_reducible apply i_useid);rfl)|((with_reducible apply i_tuplel);(first|exact datV|exact datIv rfl|exact datL|exact datIl rfl|exact datD|exact datId rfl|exact datO|exact datIo rfl))|((with_reducible apply i_tuplet);(first|exact datV|exact datIv rfl|exact datL|exact datIl rfl|exact datD|exact datId rfl|exact datO|exact datIo rfl))|((with_reducible apply i_slcT);(first|exact datV|exact datIv rfl|exact datL|exact datIl rfl|exact datD|exact datId rfl|exact datO|exact datIo rfl))|((with_reducible apply i_slcL);(first|exact datV|exact datIv rfl|exact datL|exact datIl rfl|exact datD|exact datId rfl|exact datO|exact datIo rfl))|((with_reducible apply i_ninD);(first|exact datV|exact datIv rfl|exact datL|exact datIl rfl|exact datD|exact datId rfl|exact datO|exact datIo rfl);(first|exact datV|exact datIv rfl|exact datL|exact datIl rfl|exact datD|exact datId rfl|exact datO|exact datIo rfl);rfl)|((with_reducible apply i_revK);(first|exact datV|exact datIv rfl|exact datL|exact datIl rfl|exact datD|exact datId rfl|exact datO|exact datIo rfl))|((with_reducible first|apply i_sz|apply i_sz15);exact Nat.le_of_ble_eq_true rfl)|exact pl_int|exact pl_str|exact pl_bl|exact pl_non|exact lenA_l|((with_reducible first|apply lenA_h|apply plD_h|apply len_h|apply ins_h);assumption)|((with_reducible apply cpow_h);(unfold CPow; decide))|((with_reducible apply cmul_h);(unfold CMul; first|decide|omega))|(with_reducible first|apply i_itet|apply i_itef)|((with_reducible refine i_itepB ?_ ?_);(first|assumption|rfl))|((with_reducible refine i_itenB ?_ ?_);(first|assumption|rfl))|((with_reducible apply i_ite)<;>intro hif)))
def isD (is : List Nat) : List D := is.map fun i : Nat => D.int (i : Int)
theorem isD_app {is js : List Nat} : isD (is ++ js) = isD is ++ isD js := List.map_append
theorem min_per {P : Nat → Prop} {L : Nat} (h1 : 1 ≤ L) (h : P L) : ∃ M, 1 ≤ M ∧ M ≤ L ∧ P M ∧ ∀ k, 1 ≤ k → k < M → ¬ P k := by
  induction L using Nat.strongRecOn with
  | _ L ih =>
    by_cases c : ∃ k, 1 ≤ k ∧ k < L ∧ P k
    · obtain ⟨k, a, b, d⟩ := c
      obtain ⟨M, m1, m2, m3, m4⟩ := ih k b a d
      exact ⟨M, m1, by omega, m3, m4⟩
    · exact ⟨L, h1, Nat.le_refl _, h, fun k a b d => c ⟨k, a, b, d⟩⟩
def prevN (fs : List Fc) (n : Nat) : Nat → Option Nat
  | 0 => none
  | k + 1 => lastN fs n k
section
variable {EA : AX} {ρ ρ' : AEnv} {Q : AK} {DA : AEnds} {g : Gm} [Gok g]
theorem T_ring_behind {n x : Nat} {fs : List Fc} {o : List (Option Nat)} {y : Nat} (hn : n ≤ 1000) (hy : y = iter (backTo fs o) n x) (h1 : ∀ k, hasO fs o (iter (backTo fs o) k x)) {L : Nat} (hL : 1 ≤ L ∧ L ≤ n) (h2 : iter (backTo fs o) L y = y) (h3 : ∀ k, 1 ≤ k → k < L → ¬ iter (backTo fs o) k y = y) : Ev (S_ring_behind g) [.v (.int n), .lst (fcsD fs), .lst (osD o), .v (.int x)] (.v (.tup (isD (ringL fs o y L)))) := by
  refine evI rfl fun DA hR hN => ?_
  show as_ring_behind _ [some (.v (.int n)), some (.lst (fcsD fs)), some (.lst (osD o)), some (.v (.int x)), none, none, none, none]
  have hh : ∀ k, hasO fs o (iter (backTo fs o) k y) := fun k => by
    rw [hy, ← iter_add]
    exact h1 _
  unfold as_ring_behind rs_ring_behind_2 rs_ring_behind_3 rs_ring_behind_4 rs_ring_behind_5 rs_ring_behind_6
  (repeat' walk_at "vs1")
  refine i_rng1 ?_
  (repeat' walk_at "vs1")
  refine ⟨_, (n : Int), rfl, rfl, by omega, by omega, ?_⟩
  rw [Int.toNat_natCast]
  refine for_rng0 (fun k ρ => ρ = [some (.v (.int n)), some (.lst (fcsD fs)), some (.lst (osD o)), some (.v (.int x)), some (.v (.int (iter (backTo fs o) k x : Nat))), none, none, none]) ?_ ?_ rfl
  · rintro _ rfl
    refine ⟨trivial, ?_⟩
    rw [← hy]
    obtain ⟨f0, a0, b0, c0, d0⟩ := (hh 0).q
    simp only [iter] at a0 b0 c0 d0
    have e1 := os_at a0
    have e2 := fc_of b0
    (repeat' walk_at "vs1")
    refine i_while (fun m ρ => ∃ (k : Nat), 1 ≤ k ∧ k ≤ L ∧ m = L - k ∧ ρ = [some (.v (.int n)), some (.lst (fcsD fs)), some (.lst (osD o)), some (.v (.int x)), some (.v (.int (y : Nat))), none, some (.lst (isD (ringL fs o y k))), some (.v (.int (iter (backTo fs o) k y : Nat)))]) (L - 1) ⟨1, by omega, by omega, rfl, by rw [show iter (backTo fs o) 1 y = f0.b from d0]; rfl⟩ ?_
    rintro m _ ⟨k, hk1, hkL, rfl, rfl⟩
    obtain ⟨f, a1, b1, c1, d1⟩ := (hh k).q
    have e3 := os_at a1
    have e4 := fc_of b1
    have hxs : (isD (ringL fs o y k)).length ≤ 100000 := by simp [isD, ringL]; omega
    unfold bd_ring_behind_2
    (repeat' walk_at "vs1")
    · have hne : iter (backTo fs o) k y ≠ y := by
        rw [deq_int] at hif
        simp at hif
        exact fun e => hif (by rw [e])
      have hkl : k ≠ L := fun e => hne (by rw [e]; exact h2)
      refine ⟨L - (k + 1), by omega, k + 1, by omega, by omega, rfl, ?_⟩
      rw [iter_succ, d1, ringL_succ, isD_app]
      rfl
    · have he : iter (backTo fs o) k y = y := by
        rw [deq_int] at hif
        simp at hif
        omega
      have hkl : k = L := Classical.byContradiction fun hne => h3 k hk1 (by omega) he
      rw [hkl]
      exact hR _ _ rfl rfl
  · rintro k _ hk rfl K ih
    refine ⟨trivial, ?_⟩
    obtain ⟨q, f, a1, b1, c1, d1⟩ := (h1 k).to
    have e3 := os_at a1
    have e4 := fc_of b1
    unfold bd_ring_behind_1
    (repeat' walk_at "vs1")
    refine ih _ ?_
    rw [iter_succ, d1]
    rfl
theorem ok_fc {f : Fc} : okTh (fcD f) := ⟨rfl, fun _ e => by
  cases e
  exact ⟨by simp, fun x hx => by simp at hx; rcases hx with rfl | rfl | rfl <;> rfl⟩⟩
theorem ok_fcs {fs : List Fc} : ∀ x ∈ fcsD fs, okTh x := fun x hx => by
  obtain ⟨f, _, rfl⟩ := List.mem_map.mp hx
  exact ok_fc
theorem k_check {n : Nat} {fs : List Fc} (F : Fs fs n) : Ev (S_check_facts g) [.v (.int n), .lst (fcsD fs)] (.v .non) := by
  obtain ⟨h1, h2, h3⟩ := T_check_facts (g := g) (n := n) (ok_fcs (fs := fs))
  refine ⟨h1, fun r o p => ?_, fun C es o p => ?_⟩
  · obtain ⟨_, e1, e2⟩ := h2 r o p
    exact ⟨e2, e1⟩
  · obtain ⟨q, e, _⟩ := h3 C es o p
    rw [factsB_fcs F] at e
    cases e
theorem T_ring_bad {n q : Nat} {xs : List D} (hx : ∀ x ∈ xs, okTh x) (hb : factsB n xs 0 = .error q) : Rz (S_ring g) [.v (.int n), .lst xs] g.C_BadFact [(("at" : Str), .int (q : Nat))] := by
  refine fnP rfl fun DA hR hN hX => ?_
  show as_ring _ _ _ _ [some (.v (.int n)), some (.lst xs), none, none, none, none]
  unfold as_ring
  (repeat' walk_at "vs1")
  refine kSat rfl (T_check_facts (g := g) hx) (fun r o ⟨⟨fs, e⟩, _⟩ => ?_) (fun C es o ⟨q', e, e1, e2, e3⟩ => ?_)
  · rw [hb] at e; cases e
  · rw [hb] at e
    cases e
    subst e1 e2 e3
    exact hX _ _ _ _ rfl ⟨rfl, rfl, rfl⟩
theorem T_sol_bad {n q : Nat} {xs : List D} (hx : ∀ x ∈ xs, okTh x) (hb : factsB n xs 0 = .error q) : Rz (S_solution g) [.v (.int n), .lst xs] g.C_BadFact [(("at" : Str), .int (q : Nat))] := by
  refine fnP rfl fun DA hR hN hX => ?_
  show as_solution _ _ _ [some (.v (.int n)), some (.lst xs), none, none, none]
  unfold as_solution
  (repeat' walk_at "vs1")
  refine kSat rfl (T_check_facts (g := g) hx) (fun r o ⟨⟨fs, e⟩, _⟩ => ?_) (fun C es o ⟨q', e, e1, e2, e3⟩ => ?_)
  · rw [hb] at e; cases e
  · rw [hb] at e
    cases e
    subst e1 e2 e3
    exact hX _ _ _ _ rfl ⟨rfl, rfl, rfl⟩
/-- what ring tells -/
structure RgD (fs : List Fc) (n : Nat) (r : D) : Prop where
  a : ∀ k, k < n → lastN fs n k = none → (∀ j, j < k → lastN fs n j ≠ none) → r = .non
  b : (∀ j, j < n → lastN fs n j ≠ none) → ∃ x y L, lastN fs n (n - 1) = some x ∧ y = iter (backTo fs (stN fs n n).o) n x ∧ (1 ≤ L ∧ L ≤ n) ∧ iter (backTo fs (stN fs n n).o) L y = y ∧ (∀ k, 1 ≤ k → k < L → ¬ iter (backTo fs (stN fs n n).o) k y = y) ∧ r = .tup (isD (ringL fs (stN fs n n).o y L))
theorem T_ring {n : Nat} {fs : List Fc} {r : D} (hn1 : 1 ≤ n) (hn : n ≤ 1000) (F : Fs fs n) (hr : RgD fs n r) : Ev (S_ring g) [.v (.int n), .lst (fcsD fs)] (.v r) := by
  refine evI rfl fun DA hR hN => ?_
  show as_ring _ _ _ _ [some (.v (.int n)), some (.lst (fcsD fs)), none, none, none, none]
  unfold as_ring rs_ring_2 rs_ring_3 rs_ring_4 rs_ring_5 rs_ring_6
  have hc := k_check (g := g) F
  have hv : (List.replicate ((n : Int)).toNat [D.int 0]).flatten = vsD (s0 n).v := by
    simp [vsD, s0, List.flatten_replicate_singleton]
  have ho : (List.replicate ((n : Int)).toNat [D.non]).flatten = osD (s0 n).o := by
    simp [osD, s0, List.flatten_replicate_singleton, orD]
  have hb1 : 0 ≤ (n : Int) ∧ ([D.int 0] : List D).length * ((n : Int)).toNat ≤ 100000 ∧ (n : Int) ≤ 100000 := ⟨by omega, by simp; omega, by omega⟩
  have hb2 : 0 ≤ (n : Int) ∧ ([D.non] : List D).length * ((n : Int)).toNat ≤ 100000 ∧ (n : Int) ≤ 100000 := ⟨by omega, by simp; omega, by omega⟩
  (repeat' first|((with_reducible apply kEv);rfl;exact hc)|walk_at "vs1")
  all_goals first | assumption | skip
  rw [hv, ho]
  refine i_rng1 ?_
  (repeat' walk_at "vs1")
  refine ⟨_, (n : Int), rfl, rfl, by omega, by omega, ?_⟩
  rw [Int.toNat_natCast]
  refine for_rng0 (fun k ρ => (∀ j, j < k → lastN fs n j ≠ none) ∧ ρ = [some (.v (.int n)), some (.lst (fcsD fs)), some (.lst (vsD (stN fs n k).v)), some (.lst (osD (stN fs n k).o)), some (.v (orD (prevN fs n k))), none]) ?_ ?_ ⟨fun _ h => absurd h (Nat.not_lt_zero _), rfl⟩
  · rintro _ ⟨hl, rfl⟩
    refine ⟨trivial, ?_⟩
    obtain ⟨x, y, L, h1, h2, h3, h4, h5, rfl⟩ := hr.b hl
    obtain ⟨R, hI, hRx⟩ := ri_N F n
    obtain ⟨hx, hRx⟩ := hRx x (by omega) h1
    obtain ⟨w1, _⟩ := ring_way F hI hx hRx
    have hT := T_ring_behind (g := g) (n := n) (x := x) (fs := fs) (o := (stN fs n n).o) hn h2 (fun k => (w1 k).1) h3 h4 h5
    have e : prevN fs n n = some x := by
      rw [← h1]
      obtain ⟨m, rfl⟩ : ∃ m, n = m + 1 := ⟨n - 1, by omega⟩
      rfl
    rw [e]
    simp only [orD]
    (repeat' first|((with_reducible apply kEv);rfl;exact hT)|walk_at "vs1")
    exact hR _ _ rfl rfl
  · rintro k _ hk ⟨hl, rfl⟩ K ih
    refine ⟨trivial, ?_⟩
    obtain ⟨l1, l2⟩ := len_N F k
    have hT := T_relaxed (g := g) F l1 l2
    unfold bd_ring_1
    (repeat' walk_at "vs1")
    refine kSat rfl hT (fun r o q => ?_) (fun _ _ _ h => h.elim)
    obtain ⟨rfl, rfl⟩ := q
    (simp only [clearA, give, List.set_cons_zero, List.set_cons_succ])
    cases hz : (lowE fs 0 (stN fs n k) none).2 with
    | none =>
      have e := hr.a k hk hz hl
      simp only [orD]
      (repeat' walk_at "vs1")
      exact hR _ _ rfl (by rw [e])
    | some x =>
      simp only [orD]
      (repeat' walk_at "vs1")
      refine ih _ ⟨fun j hj => ?_, ?_⟩
      · rcases Nat.lt_or_ge j k with q | q
        · exact hl j q
        · have : j = k := by omega
          rw [this]
          show (lowE fs 0 (stN fs n k) none).2 ≠ none
          rw [hz]
          exact fun z => nomatch z
      · have e1 : prevN fs n (k + 1) = some x := hz
        rw [e1]
        rfl
/-- what solution tells -/
structure SlD (fs : List Fc) (n : Nat) (r : A) : Prop where
  a : ∀ k, k < n → lastN fs n k = none → (∀ j, j < k → lastN fs n j ≠ none) → r = .lst (vsD (stN fs n k).v)
  b : (∀ j, j < n → lastN fs n j ≠ none) → r = .v .non
theorem T_solution {n : Nat} {fs : List Fc} {r : A} (hn1 : 1 ≤ n) (hn : n ≤ 1000) (F : Fs fs n) (hr : SlD fs n r) : Ev (S_solution g) [.v (.int n), .lst (fcsD fs)] r := by
  refine evI rfl fun DA hR hN => ?_
  show as_solution _ _ _ [some (.v (.int n)), some (.lst (fcsD fs)), none, none, none]
  unfold as_solution rs_solution_2 rs_solution_3 rs_solution_4 rs_solution_5
  have hc := k_check (g := g) F
  have hv : (List.replicate ((n : Int)).toNat [D.int 0]).flatten = vsD (s0 n).v := by
    simp [vsD, s0, List.flatten_replicate_singleton]
  have ho : (List.replicate ((n : Int)).toNat [D.non]).flatten = osD (s0 n).o := by
    simp [osD, s0, List.flatten_replicate_singleton, orD]
  have hb1 : 0 ≤ (n : Int) ∧ ([D.int 0] : List D).length * ((n : Int)).toNat ≤ 100000 ∧ (n : Int) ≤ 100000 := ⟨by omega, by simp; omega, by omega⟩
  have hb2 : 0 ≤ (n : Int) ∧ ([D.non] : List D).length * ((n : Int)).toNat ≤ 100000 ∧ (n : Int) ≤ 100000 := ⟨by omega, by simp; omega, by omega⟩
  (repeat' first|((with_reducible apply kEv);rfl;exact hc)|walk_at "vs1")
  all_goals first | assumption | skip
  rw [hv, ho]
  refine i_rng1 ?_
  (repeat' walk_at "vs1")
  refine ⟨_, (n : Int), rfl, rfl, by omega, by omega, ?_⟩
  rw [Int.toNat_natCast]
  refine for_rng0 (fun k ρ => (∀ j, j < k → lastN fs n j ≠ none) ∧ ρ = [some (.v (.int n)), some (.lst (fcsD fs)), some (.lst (vsD (stN fs n k).v)), some (.lst (osD (stN fs n k).o)), none]) ?_ ?_ ⟨fun _ h => absurd h (Nat.not_lt_zero _), rfl⟩
  · rintro _ ⟨hl, rfl⟩
    refine ⟨trivial, ?_⟩
    have e := hr.b hl
    (repeat' walk_at "vs1")
    exact hR _ _ rfl e.symm
  · rintro k _ hk ⟨hl, rfl⟩ K ih
    refine ⟨trivial, ?_⟩
    obtain ⟨l1, l2⟩ := len_N F k
    have hT := T_relaxed (g := g) F l1 l2
    unfold bd_solution_1
    (repeat' walk_at "vs1")
    refine kSat rfl hT (fun r o q => ?_) (fun _ _ _ h => h.elim)
    obtain ⟨rfl, rfl⟩ := q
    (simp only [clearA, give, List.set_cons_zero, List.set_cons_succ])
    cases hz : (lowE fs 0 (stN fs n k) none).2 with
    | none =>
      have e := hr.a k hk hz hl
      obtain ⟨e2, _⟩ := low_none fs 0 _ hz
      rw [e2]
      simp only [orD]
      (repeat' walk_at "vs1")
      exact hR _ _ rfl e.symm
    | some x =>
      simp only [orD]
      (repeat' walk_at "vs1")
      refine ih _ ⟨fun j hj => ?_, rfl⟩
      rcases Nat.lt_or_ge j k with q | q
      · exact hl j q
      · have : j = k := by omega
        rw [this]
        show (lowE fs 0 (stN fs n k) none).2 ≠ none
        rw [hz]
        exact fun z => nomatch z
end
end Law

set_option Elab.async false
set_option linter.all false
set_option maxRecDepth 100000
set_option maxHeartbeats 2000000
namespace Law
open PySem PySem.Spec PyProof.Rows L2 Vs
set_option hygiene false in
local macro_rules | `(tactic| walk_at "vs1") => `(tactic| (first|((with_reducible first|apply i_seq|apply i_next|apply i_expr|apply i_ret|apply i_retN|apply i_if|apply i_break|apply i_cont|apply i_set|apply i_putX|apply i_for|apply i_retv|apply i_retl|apply i_retd|apply i_reto|apply i_setv|apply i_setl|apply i_setd|apply i_seto|apply i_usev|apply i_usel|apply i_used|apply i_useo|apply i_uses0|apply i_uses1|apply i_c|apply i_op|apply i_un|apply i_test|apply i_tand|apply i_tor|apply i_tnot|apply i_and|apply i_or|apply i_not|apply i_ifx|apply i_chain|apply i_chnK|apply i_nil|apply i_cons|apply i_tup|apply i_lst|apply i_dict0|apply i_cb|apply i_frz|apply i_addi|apply i_adds|apply i_addt|apply i_addl|apply i_raise|apply i_after|apply i_lc|apply i_dc|apply i_agName|apply i_yes|apply i_aiSeqV|apply i_append|apply i_meth0|apply i_make0|apply i_slice|apply i_aoNone|apply i_aoSome|apply i_agCons|apply i_agNil|apply i_asFld|apply i_get1|apply i_call0|apply i_insert|apply i_revT|apply i_disp|apply i_dspN|apply i_dspC|apply i_tryS|apply i_tnx|apply i_snx))|((with_reducible apply i_putK);rfl;(first|exact datV|exact datIv rfl|exact datL|exact datIl rfl|exact datD|exact datId rfl|exact datO|exact datIo rfl);(first|assumption|rfl))|((with_reducible first|apply i_reti|apply i_val|apply i_ref|apply i_appK|apply i_agTup|apply i_aug|apply i_dspK|apply i_xf);rfl)|((with_reducible first|apply i_isB|apply i_neg|apply i_int|apply i_isL|apply i_isI|apply i_isDc|apply i_augK|apply i_repL);(first|exact datV|exact datIv rfl|exact datL|exact datIl rfl|exact datD|exact datId rfl|exact datO|exact datIo rfl))|((with_reducible apply i_ix);(first|exact datV|exact datIv rfl|exact datL|exact datIl rfl|exact datD|exact datId rfl|exact datO|exact datIo rfl);(first|exact datV|exact datIv rfl|exact datL|exact datIl rfl|exact datD|exact datId rfl|exact datO|exact datIo rfl);(first|assumption|rfl))|((with_reducible first|apply i_plus|apply i_sub|apply i_lt|apply i_le|apply i_gt|apply i_ge|apply i_mul|apply i_mod|apply i_pow|apply i_div|apply i_eq|apply i_ne|apply i_is|apply i_isnot|apply i_max|apply i_min|apply i_repT|apply i_isTB|apply i_isnotB);(first|exact datV|exact datIv rfl|exact datL|exact datIl rfl|exact datD|exact datId rfl|exact datO|exact datIo rfl);(first|exact datV|exact datIv rfl|exact datL|exact datIl rfl|exact datD|exact datId rfl|exact datO|exact datIo rfl))|((with_reducible apply i_isi);(first|exact datV|exact datIv rfl|exact datL|exact datIl rfl|exact datD|exact datId rfl|exact datO|exact datIo rfl);(first|exact isi1 (by first|assumption|rfl) (by decide)|exact isi_lt (by first|assumption|rfl)|exact isi_own (by assumption) (by assumption)))|((with_reducible apply i_fldV);rfl;rfl)|((with_reducible apply i_forgetN);((try simp only [clearA, give, List.set_cons_zero, List.set_cons_succ]);rfl))|((with_reducible first|apply i_len|apply i_list);(first|exact datV|exact datIv rfl|exact datL|exact datIl rfl|exact datD|exact datId rfl|exact datO|exact datIo rfl);(first|assumption|rfl))|((with_reducible apply i_objK);(first|exact datV|exact datIv rfl|exact datL|exact datIl rfl|exact datD|exact datId rfl|exact datO|exact datIo rfl);rfl)|((with_reducible apply i_fldK);rfl;(first|exact fs_nil|exact fs_one);exact Nat.le_of_ble_eq_true rfl)|((with_reducible apply i_getK);(first|exact datV|exact datIv rfl|exact datL|exact datIl rfl|exact datD|exact datId rfl|exact datO|exact datIo rfl);(first|exact datV|exact datIv rfl|exact datL|exact datIl rfl|exact datD|exact datId rfl|exact datO|exact datIo rfl);rfl;(first|assumption|rfl))|((with_reducible apply i_inD);(first|exact datV|exact datIv rfl|exact datL|exact datIl rfl|exact datD|exact datId rfl|exact datO|exact datIo rfl);(first|exact datV|exact datIv rfl|exact datL|exact datIl rfl|exact datD|exact datId rfl|exact datO|exact datIo rfl);rfl)|((with_reducible apply i_insK);rfl;(first|exact datV|exact datIv rfl|exact datL|exact datIl rfl|exact datD|exact datId rfl|exact datO|exact datIo rfl))|((with_reducible apply i_useiv);rfl)|((with_reducible apply i_useil);rfl)|((with_reducible apply i_useid);rfl)|((with_reducible apply i_tuplel);(first|exact datV|exact datIv rfl|exact datL|exact datIl rfl|exact datD|exact datId rfl|exact datO|exact datIo rfl))|((with_reducible apply i_tuplet);(first|exact datV|exact datIv rfl|exact datL|exact datIl rfl|exact datD|exact datId rfl|exact datO|exact datIo rfl))|((with_reducible apply i_slcT);(first|exact datV|exact datIv rfl|exact datL|exact datIl rfl|exact datD|exact datId rfl|exact datO|exact datIo rfl))|((with_reducible apply i_slcL);(first|exact datV|exact datIv rfl|exact datL|exact datIl rfl|exact datD|exact datId rfl|exact datO|exact datIo rfl))|((with_reducible apply i_ninD);(first|exact datV|exact datIv rfl|exact datL|exact datIl rfl|exact datD|exact datId rfl|exact datO|exact datIo rfl);(first|exact datV|exact datIv rfl|exact datL|exact datIl rfl|exact datD|exact datId rfl|exact datO|exact datIo rfl);rfl)|((with_reducible apply i_revK);(first|exact datV|exact datIv rfl|exact datL|exact datIl rfl|exact datD|exact datId rfl|exact datO|exact datIo rfl))|((with_reducible first|apply i_sz|apply i_sz15);exact Nat.le_of_ble_eq_true rfl)|exact pl_int|exact pl_str|exact pl_bl|exact pl_non|exact lenA_l|((with_reducible first|apply lenA_h|apply plD_h|apply len_h|apply ins_h);assumption)|((with_reducible apply cpow_h);(unfold CPow; decide))|((with_reducible apply cmul_h);(unfold CMul; first|decide|omega))|(with_reducible first|apply i_itet|apply i_itef)|((with_reducible refine i_itepB ?_ ?_);(first|assumption|rfl))|((with_reducible refine i_itenB ?_ ?_);(first|assumption|rfl))|((with_reducible apply i_ite)<;>intro hif)))
structure ClR (fs : List Fc) (n : Nat) (is : List Nat) : Prop where
  ne : 1 ≤ is.length
  len : is.length ≤ n
  lt : ∀ i ∈ is, i < fs.length
  cl : ∀ k i j, is[k]? = some i → is[(k + 1) % is.length]? = some j → bOf fs i = aOf fs j
  sum : sumE fs is < 0
theorem first_none (p : Nat → Prop) : ∀ n, (∃ k, k < n ∧ p k ∧ ∀ j, j < k → ¬ p j) ∨ ∀ j, j < n → ¬ p j
  | 0 => .inr fun _ h => absurd h (Nat.not_lt_zero _)
  | n + 1 => by
    rcases first_none p n with ⟨k, a, b⟩ | h
    · exact .inl ⟨k, by omega, b⟩
    · by_cases c : p n
      · exact .inl ⟨n, by omega, c, h⟩
      · refine .inr fun j hj => ?_
        rcases Nat.lt_or_ge j n with q | q
        · exact h j q
        · rw [show j = n by omega]; exact c
theorem outcome {fs : List Fc} {n : Nat} (hn1 : 1 ≤ n) (F : Fs fs n) : (∃ v, RgD fs n .non ∧ SlD fs n (.lst (vsD v)) ∧ v.length = n ∧ keeps v fs) ∨ (∃ is, RgD fs n (.tup (isD is)) ∧ SlD fs n (.v .non) ∧ ClR fs n is) := by
  rcases first_none (fun k => lastN fs n k = none) n with ⟨k, hk, h0, hl⟩ | hl
  · left
    obtain ⟨_, hkp⟩ := low_none fs 0 _ h0
    refine ⟨(stN fs n k).v, ⟨fun _ _ _ _ => rfl, fun h => absurd h0 (h k hk)⟩, ⟨fun k' hk' h0' hl' => ?_, fun h => absurd h0 (h k hk)⟩, (len_N F k).1, hkp⟩
    have : k' = k := by
      rcases Nat.lt_trichotomy k' k with q | q | q
      · exact absurd h0' (hl k' q)
      · exact q
      · exact absurd h0 (hl' k q)
    rw [this]
  · right
    have hz : ∃ x, lastN fs n (n - 1) = some x := by
      cases h : lastN fs n (n - 1) with
      | none => exact absurd h (hl _ (by omega))
      | some x => exact ⟨x, rfl⟩
    obtain ⟨x, hx1⟩ := hz
    obtain ⟨R, hI, hRx⟩ := ri_N F n
    obtain ⟨hx, hRx⟩ := hRx x (by omega) hx1
    obtain ⟨w1, L0, hL1, hL2, w2⟩ := ring_way F hI hx hRx
    obtain ⟨t, T, hT⟩ := ti_N F n
    generalize ho : (stN fs n n).o = o at *
    generalize hy : iter (backTo fs o) n x = y at *
    obtain ⟨L, m1, m2, m3, m4⟩ := min_per (P := fun k => iter (backTo fs o) k y = y) hL1 w2
    have hh : ∀ k, hasO fs o (iter (backTo fs o) k y) := fun k => by
      rw [← hy, ← iter_add]
      exact (w1 _).1
    refine ⟨ringL fs o y L, ⟨fun k hk h0 _ => absurd h0 (hl k hk), fun _ => ⟨x, y, L, hx1, by rw [ho, hy], ⟨m1, by omega⟩, by rw [ho]; exact m3, by rw [ho]; exact m4, by rw [ho]⟩⟩, ⟨fun k hk h0 _ => absurd h0 (hl k hk), fun _ => rfl⟩, ?_⟩
    have hlen : (ringL fs o y L).length = L := by simp [ringL]
    have hat : ∀ k, k < L → (ringL fs o y L)[k]? = some (qOf o (iter (backTo fs o) k y)) := fun k hk => by
      simp [ringL, hk]
    refine ⟨by omega, by omega, fun i hi => ?_, fun k i j hi hj => ?_, ?_⟩
    · obtain ⟨k, _, rfl⟩ := List.mem_map.mp hi
      obtain ⟨f, _, h2, _⟩ := (hh k).q
      exact (List.getElem?_eq_some_iff.mp h2).1
    · rw [hlen] at hj
      have hk : k < L := by
        have := (List.getElem?_eq_some_iff.mp hi).1
        omega
      rw [hat k hk] at hi
      have hk2 : (k + 1) % L < L := Nat.mod_lt _ (by omega)
      rw [hat _ hk2] at hj
      cases hi
      cases hj
      have e : iter (backTo fs o) ((k + 1) % L) y = iter (backTo fs o) (k + 1) y := by
        rcases Nat.lt_or_ge (k + 1) L with q | q
        · rw [Nat.mod_eq_of_lt q]
        · rw [show k + 1 = L by omega, Nat.mod_self]
          exact m3.symm
      obtain ⟨f, _, h2, _, h4⟩ := (hh k).q
      obtain ⟨f', _, g2, g3, _⟩ := (hh ((k + 1) % L)).q
      simp only [bOf, aOf, h2, g2, Option.map_some, Option.getD_some]
      rw [g3, e, iter_succ, h4]
    · have hT' : TI fs n ⟨(stN fs n n).v, o⟩ t T := by rw [← ho]; exact hT
      exact sum_neg hT' hh m1 m3
theorem ClR.link {fs : List Fc} {n : Nat} {is : List Nat} (h : ClR fs n is) : ∀ (m k p : Nat), m + k = is.length → (∀ j, is[k]? = some j → bOf fs p = aOf fs j) → linkB fs p (is.drop k) = true
  | 0, k, p, e, _ => by
    rw [List.drop_eq_nil_of_le (by omega)]
    rfl
  | m + 1, k, p, e, hp => by
    have hk : k < is.length := by omega
    rw [List.drop_eq_getElem_cons hk]
    have hi : is[k]? = some is[k] := List.getElem?_eq_getElem hk
    simp only [linkB, Bool.and_eq_true, decide_eq_true_eq]
    refine ⟨(hp _ hi).symm, h.link m (k + 1) _ (by omega) fun j hj => ?_⟩
    have hk1 := (List.getElem?_eq_some_iff.mp hj).1
    exact h.cl k _ j hi (by rw [Nat.mod_eq_of_lt hk1]; exact hj)
theorem ClR.ring {fs : List Fc} {n : Nat} {is : List Nat} (h : ClR fs n is) : ringB fs is = true := by
  have hl := h.link is.length 0
  have hc := h.cl (is.length - 1)
  have hs := h.sum
  have hn := h.ne
  match is, hl, hc, hs, hn with
  | i :: r, hl, hc, hs, hn =>
    simp only [ringB, Bool.and_eq_true, decide_eq_true_eq]
    refine ⟨?_, hs⟩
    refine hl _ rfl fun j hj => ?_
    refine hc _ j ?_ ?_
    · rw [List.getLast_eq_getElem]
      exact List.getElem?_eq_getElem _
    · rw [show (i :: r).length - 1 + 1 = (i :: r).length by simp, Nat.mod_self]
      exact hj
theorem ClR.due {fs : List Fc} {n : Nat} {is : List Nat} (h : ClR fs n is) : dueB fs (.tup (isD is)) = true := by
  simp only [dueB, isD, idxs_map h.lt]
  exact h.ring
theorem is_at {is : List Nat} {k i : Nat} (h : is[k]? = some i) : itD (.tup (isD is)) (.int (k : Int)) = some (.int (i : Nat)) := by
  have hk : k < is.length := (List.getElem?_eq_some_iff.mp h).1
  show atI (isD is) (k : Int) = _
  rw [at_nat (by simpa [isD] using hk)]
  simp [isD, h]
theorem okT_is {is : List Nat} : ∀ x ∈ isD is, okT x := fun x hx => by
  obtain ⟨i, _, rfl⟩ := List.mem_map.mp hx
  rfl
section
variable {EA : AX} {ρ ρ' : AEnv} {Q : AK} {DA : AEnds} {g : Gm} [Gok g]
theorem T_is_closed {n : Nat} {fs : List Fc} {is : List Nat} (hn : n ≤ 1000) (h : ClR fs n is) : Ev (S__law_is_closed g) [.v (.lst (fcsD fs)), .v (.tup (isD is))] (.v (.bl true)) := by
  refine evI rfl fun DA hR hN => ?_
  show as__law_is_closed g.K _ _ [some (.v (.lst (fcsD fs))), some (.v (.tup (isD is))), none, none, none]
  have hlf : lenD (.lst (fcsD fs)) = some fs.length := by simp [lenD, fcsD]
  have hli : lenD (.tup (isD is)) = some is.length := by simp [lenD, isD]
  have hz := len0F (n := is.length) (by have := h.ne; omega)
  have hlen := h.len
  have hne := h.ne
  unfold as__law_is_closed rs__law_is_closed_2 rs__law_is_closed_3 rs__law_is_closed_4
  (repeat' walk_at "vs1")
  refine i_rng1 ?_
  (repeat' walk_at "vs1")
  refine ⟨_, (is.length : Int), rfl, rfl, by omega, by omega, ?_⟩
  rw [Int.toNat_natCast]
  refine for_rng0 (fun k ρ => ρ = [some (.v (.lst (fcsD fs))), some (.v (.tup (isD is))), some (.v (.int (sumE fs (is.take k)))), none, none]) ?_ ?_ rfl
  · rintro _ rfl
    refine ⟨trivial, ?_⟩
    rw [List.take_length]
    (repeat' walk_at "vs1")
    exact hR _ _ rfl (by rw [decide_eq_true h.sum])
  · rintro k _ hk rfl K ih
    refine ⟨trivial, ?_⟩
    have hi : is[k]? = some is[k] := List.getElem?_eq_getElem hk
    have hk2 : (k + 1) % is.length < is.length := Nat.mod_lt _ (by omega)
    have hj : is[(k + 1) % is.length]? = some is[(k + 1) % is.length] := List.getElem?_eq_getElem hk2
    have hcl := h.cl k _ _ hi hj
    have li := h.lt _ (List.mem_of_getElem? hi)
    have lj := h.lt _ (List.mem_of_getElem? hj)
    generalize is[k] = i at hi hcl li
    generalize is[(k + 1) % is.length] = j at hj hcl lj
    have e1 := is_at hi
    have e2 := is_at hj
    have e3 := fc_at li
    have e4 := fc_at lj
    have em : ((k : Int) + 1) % ((is.length : Nat) : Int) = (((k + 1) % is.length : Nat) : Int) := by first | (push_cast; rfl) | simp
    have t1 := T_law_is_integer (g := g) (d := .int (i : Int)) rfl
    have t2 := T_law_is_integer (g := g) (d := .int (j : Int)) rfl
    have c1 : decide ((i : Int) < 0) = false := decide_eq_false (by omega)
    have c2 : decide (((fs.length : Nat) : Int) ≤ (i : Int)) = false := decide_eq_false (by omega)
    have c3 : decide ((j : Int) < 0) = false := decide_eq_false (by omega)
    have c4 : decide (((fs.length : Nat) : Int) ≤ (j : Int)) = false := decide_eq_false (by omega)
    have hd1 : (!deq (.int (bOf fs i : Int)) (.int (aOf fs j : Int))) = false := by rw [hcl, deq_int]; simp
    have hs : sumE fs (is.take (k + 1)) = sumE fs (is.take k) + cOf fs i := by
      rw [List.take_add_one, hi, sumE_app]
      simp [sumE]
    unfold bd__law_is_closed_1
    rw [← em] at e2
    (repeat' first|((with_reducible apply kEv);rfl;exact t1)|((with_reducible apply kEv);rfl;exact t2)|walk_at "vs1")
    all_goals first | omega | skip
    refine ih _ ?_
    rw [hs]
    rfl
theorem T_keeps {n : Nat} {fs : List Fc} {v : List Int} (hn : n ≤ 1000) (F : Fs fs n) (hv : v.length = n) (hk : keeps v fs) : Ev (S__law_keeps g) [.v (.int n), .v (.lst (fcsD fs)), .v (.lst (vsD v))] (.v (.bl true)) := by
  refine evI rfl fun DA hR hN => ?_
  show as__law_keeps g.K _ _ [some (.v (.int n)), some (.v (.lst (fcsD fs))), some (.v (.lst (vsD v))), none, none, none, none]
  have hlv : lenD (.lst (vsD v)) = some v.length := by simp [lenD, vsD]
  have hne : (!deq (.int (v.length : Nat)) (.int (n : Int))) = false := by rw [hv, deq_int]; simp
  unfold as__law_keeps rs__law_keeps_2 rs__law_keeps_3
  (repeat' walk_at "vs1")
  refine ⟨_, rfl, none1 rfl, ?_⟩
  refine lc_typed D.int (fun _ => true) (fun _ => .bl true) (xs := v) trivial (by omega) (fun z hz R N hR hN => ?_) ?_
  · have hT := T_law_is_integer (g := g) (d := .int z) rfl
    (repeat' first|((with_reducible apply kEv);rfl;exact hT)|walk_at "vs1")
    exact hR _ rfl rfl
  · (repeat' walk_at "vs1")
    refine i_all (bs := v.map fun _ => true) (by rw [List.map_map, List.filter_eq_self.mpr (fun _ _ => rfl)]; exact datL) ?_
    have h5 : (v.map fun _ => true).all id = true := by simp
    have h6 : (!(v.map fun _ => true).all id) = false := by rw [h5]; rfl
    (repeat' walk_at "vs1")
    refine ⟨_, rfl, ?_⟩
    refine for_each fcD trivial fs (fun f hf D' hrt hex hnx hct => ?_) ?_
    · have e1 := vs_at (v := v) (i := f.a) (by rw [hv]; exact F.a f hf)
      have e2 := vs_at (v := v) (i := f.b) (by rw [hv]; exact F.b f hf)
      have hc := hk f hf
      have hg : decide (vAt v f.b + f.c < vAt v f.a) = false := decide_eq_false (by omega)
      unfold bd__law_keeps_1
      simp only [fcD]
      (repeat' walk_at "vs1")
      exact hnx
    · (repeat' walk_at "vs1")
      exact hR _ _ rfl rfl
end
end Law

set_option Elab.async false
set_option linter.all false
set_option maxRecDepth 100000
set_option maxHeartbeats 2000000
namespace Law
open PySem PySem.Spec PyProof.Rows L2 Vs
set_option hygiene false in
local macro_rules | `(tactic| walk_at "vs1") => `(tactic| (first|((with_reducible first|apply i_seq|apply i_next|apply i_expr|apply i_ret|apply i_retN|apply i_if|apply i_break|apply i_cont|apply i_set|apply i_putX|apply i_for|apply i_retv|apply i_retl|apply i_retd|apply i_reto|apply i_setv|apply i_setl|apply i_setd|apply i_seto|apply i_usev|apply i_usel|apply i_used|apply i_useo|apply i_uses0|apply i_uses1|apply i_c|apply i_op|apply i_un|apply i_test|apply i_tand|apply i_tor|apply i_tnot|apply i_and|apply i_or|apply i_not|apply i_ifx|apply i_chain|apply i_chnK|apply i_nil|apply i_cons|apply i_tup|apply i_lst|apply i_dict0|apply i_cb|apply i_frz|apply i_addi|apply i_adds|apply i_addt|apply i_addl|apply i_raise|apply i_after|apply i_lc|apply i_dc|apply i_agName|apply i_yes|apply i_aiSeqV|apply i_append|apply i_meth0|apply i_make0|apply i_slice|apply i_aoNone|apply i_aoSome|apply i_agCons|apply i_agNil|apply i_asFld|apply i_get1|apply i_call0|apply i_insert|apply i_revT|apply i_disp|apply i_dspN|apply i_dspC|apply i_tryS|apply i_tnx|apply i_snx))|((with_reducible apply i_putK);rfl;(first|exact datV|exact datIv rfl|exact datL|exact datIl rfl|exact datD|exact datId rfl|exact datO|exact datIo rfl);(first|assumption|rfl))|((with_reducible first|apply i_reti|apply i_val|apply i_ref|apply i_appK|apply i_agTup|apply i_aug|apply i_dspK|apply i_xf);rfl)|((with_reducible first|apply i_isB|apply i_neg|apply i_int|apply i_isL|apply i_isI|apply i_isDc|apply i_augK|apply i_repL);(first|exact datV|exact datIv rfl|exact datL|exact datIl rfl|exact datD|exact datId rfl|exact datO|exact datIo rfl))|((with_reducible apply i_ix);(first|exact datV|exact datIv rfl|exact datL|exact datIl rfl|exact datD|exact datId rfl|exact datO|exact datIo rfl);(first|exact datV|exact datIv rfl|exact datL|exact datIl rfl|exact datD|exact datId rfl|exact datO|exact datIo rfl);(first|assumption|rfl))|((with_reducible first|apply i_plus|apply i_sub|apply i_lt|apply i_le|apply i_gt|apply i_ge|apply i_mul|apply i_mod|apply i_pow|apply i_div|apply i_eq|apply i_ne|apply i_is|apply i_isnot|apply i_max|apply i_min|apply i_repT|apply i_isTB|apply i_isnotB);(first|exact datV|exact datIv rfl|exact datL|exact datIl rfl|exact datD|exact datId rfl|exact datO|exact datIo rfl);(first|exact datV|exact datIv rfl|exact datL|exact datIl rfl|exact datD|exact datId rfl|exact datO|exact datIo rfl))|((with_reducible apply i_isi);(first|exact datV|exact datIv rfl|exact datL|exact datIl rfl|exact datD|exact datId rfl|exact datO|exact datIo rfl);(first|exact isi1 (by first|assumption|rfl) (by decide)|exact isi_lt (by first|assumption|rfl)|exact isi_own (by assumption) (by assumption)))|((with_reducible apply i_fldV);rfl;rfl)|((with_reducible apply i_forgetN);((try simp only [clearA, give, List.set_cons_zero, List.set_cons_succ]);rfl))|((with_reducible first|apply i_len|apply i_list);(first|exact datV|exact datIv rfl|exact datL|exact datIl rfl|exact datD|exact datId rfl|exact datO|exact datIo rfl);(first|assumption|rfl))|((with_reducible apply i_objK);(first|exact datV|exact datIv rfl|exact datL|exact datIl rfl|exact datD|exact datId rfl|exact datO|exact datIo rfl);rfl)|((with_reducible apply i_fldK);rfl;(first|exact fs_nil|exact fs_one);exact Nat.le_of_ble_eq_true rfl)|((with_reducible apply i_getK);(first|exact datV|exact datIv rfl|exact datL|exact datIl rfl|exact datD|exact datId rfl|exact datO|exact datIo rfl);(first|exact datV|exact datIv rfl|exact datL|exact datIl rfl|exact datD|exact datId rfl|exact datO|exact datIo rfl);rfl;(first|assumption|rfl))|((with_reducible apply i_inD);(first|exact datV|exact datIv rfl|exact datL|exact datIl rfl|exact datD|exact datId rfl|exact datO|exact datIo rfl);(first|exact datV|exact datIv rfl|exact datL|exact datIl rfl|exact datD|exact datId rfl|exact datO|exact datIo rfl);rfl)|((with_reducible apply i_insK);rfl;(first|exact datV|exact datIv rfl|exact datL|exact datIl rfl|exact datD|exact datId rfl|exact datO|exact datIo rfl))|((with_reducible apply i_useiv);rfl)|((with_reducible apply i_useil);rfl)|((with_reducible apply i_useid);rfl)|((with_reducible apply i_tuplel);(first|exact datV|exact datIv rfl|exact datL|exact datIl rfl|exact datD|exact datId rfl|exact datO|exact datIo rfl))|((with_reducible apply i_tuplet);(first|exact datV|exact datIv rfl|exact datL|exact datIl rfl|exact datD|exact datId rfl|exact datO|exact datIo rfl))|((with_reducible apply i_slcT);(first|exact datV|exact datIv rfl|exact datL|exact datIl rfl|exact datD|exact datId rfl|exact datO|exact datIo rfl))|((with_reducible apply i_slcL);(first|exact datV|exact datIv rfl|exact datL|exact datIl rfl|exact datD|exact datId rfl|exact datO|exact datIo rfl))|((with_reducible apply i_ninD);(first|exact datV|exact datIv rfl|exact datL|exact datIl rfl|exact datD|exact datId rfl|exact datO|exact datIo rfl);(first|exact datV|exact datIv rfl|exact datL|exact datIl rfl|exact datD|exact datId rfl|exact datO|exact datIo rfl);rfl)|((with_reducible apply i_revK);(first|exact datV|exact datIv rfl|exact datL|exact datIl rfl|exact datD|exact datId rfl|exact datO|exact datIo rfl))|((with_reducible first|apply i_sz|apply i_sz15);exact Nat.le_of_ble_eq_true rfl)|exact pl_int|exact pl_str|exact pl_bl|exact pl_non|exact lenA_l|((with_reducible first|apply lenA_h|apply plD_h|apply len_h|apply ins_h);assumption)|((with_reducible apply cpow_h);(unfold CPow; decide))|((with_reducible apply cmul_h);(unfold CMul; first|decide|omega))|(with_reducible first|apply i_itet|apply i_itef)|((with_reducible refine i_itepB ?_ ?_);(first|assumption|rfl))|((with_reducible refine i_itenB ?_ ?_);(first|assumption|rfl))|((with_reducible apply i_ite)<;>intro hif)))
theorem link_sum {fs : List Fc} {v : List Int} (hk : keeps v fs) : ∀ (r : List Nat) (p q : Nat), (p :: r).getLast? = some q → (∀ i ∈ r, i < fs.length) → linkB fs p r = true → vAt v (bOf fs p) ≤ vAt v (bOf fs q) + sumE fs r
  | [], p, q, hq, _, _ => by
    simp at hq
    subst hq
    simp [sumE]
  | i :: r, p, q, hq, hi, hl => by
    simp only [linkB, Bool.and_eq_true, decide_eq_true_eq] at hl
    have hq' : (i :: r).getLast? = some q := by simpa using hq
    have ih := link_sum hk r i q hq' (fun k hk => hi k (List.mem_cons_of_mem _ hk)) hl.2
    have hlt := hi i (List.mem_cons_self ..)
    have h1 := hk fs[i] (List.getElem_mem hlt)
    have e1 : aOf fs i = fs[i].a := by simp [aOf, List.getElem?_eq_getElem hlt]
    have e2 : bOf fs i = fs[i].b := by simp [bOf, List.getElem?_eq_getElem hlt]
    have e3 : cOf fs i = fs[i].c := by simp [cOf, List.getElem?_eq_getElem hlt]
    have e4 : sumE fs (i :: r) = cOf fs i + sumE fs r := by simp [sumE]
    rw [← hl.1, e1, e4, e3]
    rw [e2] at ih
    omega
theorem keeps_ring {fs : List Fc} {v : List Int} (hk : keeps v fs) {is : List Nat} (hi : ∀ i ∈ is, i < fs.length) : ringB fs is = false := by
  cases is with
  | nil => rfl
  | cons i r =>
    simp only [ringB]
    rw [Bool.and_eq_false_iff]
    cases hl : linkB fs ((i :: r).getLast (by simp)) (i :: r) with
    | false => exact .inl rfl
    | true =>
      right
      generalize hq : (i :: r).getLast (by simp) = q at hl
      have hq' : (q :: i :: r).getLast? = some q := by
        rw [List.getLast?_cons_cons, List.getLast?_eq_some_getLast (by simp), hq]
      have := link_sum hk (i :: r) q q hq' hi hl
      exact decide_eq_false (by omega)
theorem keeps_due {fs : List Fc} {v : List Int} (hk : keeps v fs) (d : D) : dueB fs d = false := by
  cases d with
  | tup xs =>
    simp only [dueB]
    cases h : idxs fs.length xs with
    | none => rfl
    | some is => exact keeps_ring hk (idxs_some h).2
  | _ => rfl
/-! things -/
theorem ok_lst {xs : List D} : okTh (.lst xs) := ⟨rfl, fun _ h => by cases h⟩
theorem ok_dic {xs : List (Key × D)} : okTh (.dic xs) := ⟨rfl, fun _ h => by cases h⟩
theorem ok_int {z : Int} : okTh (.int z) := ⟨rfl, fun _ h => by cases h⟩
theorem ok_bl {z : Bool} : okTh (.bl z) := ⟨rfl, fun _ h => by cases h⟩
theorem ok_str {z : Str} : okTh (.str z) := ⟨rfl, fun _ h => by cases h⟩
theorem ok_non : okTh .non := ⟨rfl, fun _ h => by cases h⟩
theorem ok_tup {xs : List D} (h : xs.length ≤ 100000) (h2 : ∀ x ∈ xs, okT x) : okTh (.tup xs) := ⟨rfl, fun _ e => by cases e; exact ⟨h, h2⟩⟩
theorem ok_tup1 {x : D} (h : okT x) : okTh (.tup [x]) := ok_tup (by simp) fun y hy => by
  have : y = x := by simpa using hy
  rw [this]; exact h
theorem cut_mem {xs : List D} {lo hi : Option Int} {x : D} (h : x ∈ Vs.cutD xs lo hi) : x ∈ xs := by
  unfold Vs.cutD at h
  exact List.mem_of_mem_drop (List.mem_of_mem_take h)
theorem cut_len {xs : List D} {lo hi : Option Int} : (Vs.cutD xs lo hi).length ≤ xs.length := by
  unfold Vs.cutD
  simp
  omega
section
variable {EA : AX} {ρ ρ' : AEnv} {Q : AK} {DA : AEnds} {g : Gm} [Gok g]
theorem T_strange {p : A} (hp : isSt p) : Sat (S__law_strange g) [p] (fun r o => ∃ d p', r = .v d ∧ okTh d ∧ isSt p' ∧ o = [p']) noO := by
  refine fnP rfl fun DA hR hN hX => ?_
  show as__law_strange g.K _ _ [some p, none, none, none]
  unfold as__law_strange rs__law_strange_2 rs__law_strange_3 rs__law_strange_4
  (repeat' walk_at "vs1")
  refine k_draw rfl hp (by decide) (by decide) fun z p hz0 hz1 hp => ?_
  obtain ⟨d0, hd0, hi⟩ := at_mem (xs := [.lst [], .tup [], .dic []]) hz0 hz1
  refine i_ix datL datV hi ?_
  have h0 : okTh d0 := by
    simp at hd0
    rcases hd0 with rfl | rfl | rfl
    · exact ok_lst
    · exact ok_tup (by simp) (fun _ h => nomatch h)
    · exact ok_dic
  (repeat' walk_at "vs1")
  refine i_rng1 ?_
  (repeat' walk_at "vs1")
  refine ⟨_, (15 : Int), rfl, rfl, by omega, by omega, ?_⟩
  show forA _ _ _ _ (intsD 0 15) _
  refine for_rng0 (fun _ ρ => ∃ d, okTh d ∧ ρ = [some p, some (.v d), none, none]) ?_ ?_ ⟨d0, h0, rfl⟩
  · rintro _ ⟨d, hd, rfl⟩
    refine ⟨trivial, ?_⟩
    (repeat' walk_at "vs1")
    refine k_draw rfl hp (by simp) (by simp) fun z p hz0 hz1 hp => ?_
    obtain ⟨e, he, hi⟩ := at_mem hz0 hz1
    refine i_ix datV datV hi ?_
    (repeat' walk_at "vs1")
    refine hR _ _ _ rfl ⟨e, p, rfl, ?_, hp, rfl⟩
    simp only [List.mem_cons, List.not_mem_nil, or_false] at he
    have two : ∀ a b c : Int, okTh (.tup [.int a, .int b, .int c]) := fun a b c => ok_tup (by simp) fun x hx => by simp at hx; rcases hx with rfl | rfl | rfl <;> rfl
    have two' : ∀ a b : Int, okTh (.tup [.int a, .int b]) := fun a b => ok_tup (by simp) fun x hx => by simp at hx; rcases hx with rfl | rfl <;> rfl
    rcases he with rfl | rfl | rfl | rfl | rfl | rfl | rfl | rfl | rfl | rfl | rfl | rfl | rfl | rfl <;> first | exact ok_non | exact ok_bl | exact ok_str | exact ok_lst | exact ok_dic | exact two _ _ _ | exact two' _ _ | exact ok_tup (by simp) (fun _ h => nomatch h) | exact hd
  · rintro k _ hk ⟨d, hd, rfl⟩ K ih
    refine ⟨trivial, ?_⟩
    have ht : (tyN d).isSome = true := hd.t
    unfold bd__law_strange_1
    (repeat' walk_at "vs1")
    · exact ih _ ⟨_, ok_lst, rfl⟩
    · exact ih _ ⟨_, ok_tup1 hd.t, rfl⟩
    · exact ih _ ⟨_, ok_dic, rfl⟩
theorem k_strange {i : Nat} {p : A} (hp : ρ[i]? = some (some p)) (h : isSt p) (k : ∀ d p', okTh d → isSt p' → Q (.v d) (ρ.set i (some p'))) : callA (S__law_strange g) [.loc i] EA ρ Q := by
  refine kSat (ρ' := ρ.set i none) (by simp only [pass, hp]) (T_strange h) (fun r ys' q => ?_) (fun _ _ _ h => h.elim)
  obtain ⟨d, p', rfl, hd, hp', rfl⟩ := q
  show Q _ ((ρ.set i none).set i (some p'))
  rw [set2]
  exact k d p' hd hp'

theorem T_size {p : A} (hp : isSt p) : Sat (S__law_size g) [p] (fun r o => ∃ (z : Nat) (p' : A), r = .v (.int (z : Nat)) ∧ z ≤ 80 ∧ isSt p' ∧ o = [p']) noO := by
  refine fnP rfl fun DA hR hN hX => ?_
  show as__law_size _ _ [some p, none]
  unfold as__law_size rs__law_size_2 rs__law_size_3
  (repeat' walk_at "vs1")
  refine k_draw rfl hp (by decide) (by decide) fun z1 p _ _ hp => ?_
  (repeat' walk_at "vs1")
  · refine k_draw rfl hp (by decide) (by decide) fun z p h0 h1 hp => ?_
    (repeat' walk_at "vs1")
    exact hR _ _ _ rfl ⟨(40 + z).toNat, p, by rw [Int.toNat_of_nonneg (by omega)], by omega, hp, rfl⟩
  · refine k_draw rfl hp (by decide) (by decide) fun z p h0 h1 hp => ?_
    (repeat' walk_at "vs1")
    exact hR _ _ _ rfl ⟨z.toNat, p, by rw [Int.toNat_of_nonneg (by omega)], by omega, hp, rfl⟩
theorem T_amount {p : A} (hp : isSt p) : Sat (S__law_amount g) [p] (fun r o => ∃ z p', r = .v (.int z) ∧ isSt p' ∧ o = [p']) noO := by
  refine fnP rfl fun DA hR hN hX => ?_
  show as__law_amount _ _ _ [some p]
  unfold as__law_amount rs__law_amount_2
  (repeat' walk_at "vs1")
  refine k_draw rfl hp (by decide) (by decide) fun z1 p _ _ hp => ?_
  (repeat' walk_at "vs1")
  · refine k_number rfl hp fun z p hp => ?_
    (repeat' walk_at "vs1")
    all_goals first | exact .inr (by decide) | exact hR _ _ _ rfl ⟨_, _, rfl, hp, rfl⟩
  · refine k_draw rfl hp (by decide) (by decide) fun z p h0 h1 hp => ?_
    (repeat' walk_at "vs1")
    exact hR _ _ _ rfl ⟨_, _, rfl, hp, rfl⟩
theorem k_amount {i : Nat} {p : A} (hp : ρ[i]? = some (some p)) (h : isSt p) (k : ∀ z p', isSt p' → Q (.v (.int z)) (ρ.set i (some p'))) : callA (S__law_amount g) [.loc i] EA ρ Q := by
  refine kSat (ρ' := ρ.set i none) (by simp only [pass, hp]) (T_amount h) (fun r ys' q => ?_) (fun _ _ _ h => h.elim)
  obtain ⟨z, p', rfl, hp', rfl⟩ := q
  show Q _ ((ρ.set i none).set i (some p'))
  rw [set2]
  exact k z p' hp'
theorem Fs.app {fs : List Fc} {n a b : Nat} {c : Int} (F : Fs fs n) (ha : a < n) (hb : b < n) : Fs (fs ++ [⟨a, b, c⟩]) n := ⟨fun f hf => by
  rcases List.mem_append.mp hf with hf | hf
  · exact F.a f hf
  · have : f = ⟨a, b, c⟩ := by simpa using hf
    rw [this]; exact ha, fun f hf => by
  rcases List.mem_append.mp hf with hf | hf
  · exact F.b f hf
  · have : f = ⟨a, b, c⟩ := by simpa using hf
    rw [this]; exact hb⟩
theorem nat_of {z : Int} (h : 0 ≤ z) : ∃ b : Nat, z = (b : Int) := ⟨z.toNat, by omega⟩
theorem T_free {p : A} {n m : Nat} (hp : isSt p) (hn : 1 ≤ n ∧ n ≤ 1000) (hm : m ≤ 1000) : Sat (S__law_free g) [p, .v (.int n), .v (.int m)] (fun r o => ∃ fs p', r = .lst (fcsD fs) ∧ fs.length = m ∧ Fs fs n ∧ isSt p' ∧ o = [p', .v (.int n), .v (.int m)]) noO := by
  refine fnP rfl fun DA hR hN hX => ?_
  show as__law_free _ _ _ [some p, some (.v (.int n)), some (.v (.int m)), none, none]
  unfold as__law_free rs__law_free_2 rs__law_free_3
  (repeat' walk_at "vs1")
  refine i_rng1 ?_
  (repeat' walk_at "vs1")
  refine ⟨_, (m : Int), rfl, rfl, by omega, by omega, ?_⟩
  rw [Int.toNat_natCast]
  refine for_rng0 (fun k ρ => ∃ (p : A) (fs : List Fc), isSt p ∧ fs.length = k ∧ Fs fs n ∧ ρ = [some p, some (.v (.int n)), some (.v (.int m)), some (.lst (fcsD fs)), none]) ?_ ?_ ⟨p, [], hp, rfl, ⟨(fun _ h => nomatch h), (fun _ h => nomatch h)⟩, rfl⟩
  · rintro _ ⟨p, fs, hp, hl, F, rfl⟩
    refine ⟨trivial, ?_⟩
    (repeat' walk_at "vs1")
    exact hR _ _ _ rfl ⟨fs, p, rfl, hl, F, hp, rfl⟩
  · rintro k _ hk ⟨p, fs, hp, hl, F, rfl⟩ K ih
    refine ⟨trivial, ?_⟩
    have hla : (fcsD fs).length ≤ 100000 := by simp [fcsD]; omega
    unfold bd__law_free_1
    (repeat' walk_at "vs1")
    refine k_draw rfl hp (by omega) (by omega) fun z p hz0 hz1 hp => ?_
    obtain ⟨a, rfl⟩ := nat_of hz0
    (repeat' walk_at "vs1")
    refine k_draw rfl hp (by omega) (by omega) fun z p hy0 hy1 hp => ?_
    obtain ⟨b, rfl⟩ := nat_of hy0
    (repeat' walk_at "vs1")
    refine k_amount rfl hp fun c p hp => ?_
    (repeat' walk_at "vs1")
    exact ih _ ⟨p, fs ++ [⟨a, b, c⟩], hp, by simp [hl], F.app (by omega) (by omega), by simp [fcsD, fcD]⟩
theorem T_planted {p : A} {n m : Nat} (hp : isSt p) (hn : 1 ≤ n ∧ n ≤ 1000) (hm : m ≤ 1000) : Sat (S__law_planted g) [p, .v (.int n), .v (.int m)] (fun r o => ∃ fs p', r = .lst (fcsD fs) ∧ fs.length = m ∧ Fs fs n ∧ (∃ v, keeps v fs) ∧ isSt p' ∧ o = [p', .v (.int n), .v (.int m)]) noO := by
  refine fnP rfl fun DA hR hN hX => ?_
  show as__law_planted _ _ _ [some p, some (.v (.int n)), some (.v (.int m)), none, none, none, none, none]
  unfold as__law_planted rs__law_planted_2 rs__law_planted_3 rs__law_planted_4
  (repeat' walk_at "vs1")
  refine i_rng1 ?_
  (repeat' walk_at "vs1")
  refine ⟨_, (n : Int), rfl, rfl, by omega, by omega, none1 rfl, ?_⟩
  refine lc_rec (W := fun acc r ρ => ∃ (p : A) (v : List Int), isSt p ∧ acc = vsD v ∧ v.length + r.length = n ∧ ρ = [some p, some (.v (.int n)), some (.v (.int m)), none, none, none, none, none]) ?_ ?_ _ _ _ ⟨p, [], hp, rfl, by simp [intsD], rfl⟩
  · rintro acc _ ⟨p, v, hp, rfl, hl, rfl⟩
    refine ⟨trivial, ?_⟩
    have hv : v.length = n := by simpa using hl
    (repeat' walk_at "vs1")
    refine i_rng1 ?_
    (repeat' walk_at "vs1")
    refine ⟨_, (m : Int), rfl, rfl, by omega, by omega, ?_⟩
    rw [Int.toNat_natCast]
    refine for_rng0 (fun k ρ => ∃ (p : A) (fs : List Fc), isSt p ∧ fs.length = k ∧ Fs fs n ∧ keeps v fs ∧ ρ = [some p, some (.v (.int n)), some (.v (.int m)), some (.v (.lst (vsD v))), none, some (.lst (fcsD fs)), none, none]) ?_ ?_ ⟨p, [], hp, rfl, ⟨(fun _ h => nomatch h), (fun _ h => nomatch h)⟩, (fun _ h => nomatch h), rfl⟩
    · rintro _ ⟨p, fs, hp, hl, F, hk, rfl⟩
      refine ⟨trivial, ?_⟩
      (repeat' walk_at "vs1")
      exact hR _ _ _ rfl ⟨fs, p, rfl, hl, F, ⟨v, hk⟩, hp, rfl⟩
    · rintro k _ hk ⟨p, fs, hp, hl, F, hkp, rfl⟩ K ih
      refine ⟨trivial, ?_⟩
      have hla : (fcsD fs).length ≤ 100000 := by simp [fcsD]; omega
      unfold bd__law_planted_1
      (repeat' walk_at "vs1")
      refine k_draw rfl hp (by omega) (by omega) fun z p hz0 hz1 hp => ?_
      obtain ⟨a, rfl⟩ := nat_of hz0
      (repeat' walk_at "vs1")
      refine k_draw rfl hp (by omega) (by omega) fun z p hy0 hy1 hp => ?_
      obtain ⟨b, rfl⟩ := nat_of hy0
      have e1 := vs_at (v := v) (i := a) (by omega)
      have e2 := vs_at (v := v) (i := b) (by omega)
      (repeat' walk_at "vs1")
      refine k_draw rfl hp (by decide) (by decide) fun z p hw0 hw1 hp => ?_
      (repeat' walk_at "vs1")
      refine ih _ ⟨p, fs ++ [⟨a, b, vAt v a - vAt v b + z⟩], hp, by simp [hl], F.app (by omega) (by omega), fun f hf => ?_, by simp [fcsD, fcD, clearA]⟩
      rcases List.mem_append.mp hf with hf | hf
      · exact hkp f hf
      · have : f = ⟨a, b, vAt v a - vAt v b + z⟩ := by simpa using hf
        rw [this]
        simp only
        omega
  · rintro acc x r _ ⟨p, v, hp, rfl, hl, rfl⟩ ih
    refine i_lcA trivial ?_
    (repeat' walk_at "vs1")
    refine k_number rfl hp fun z p hp => ?_
    (repeat' walk_at "vs1")
    exact ⟨by simp [vsD]; simp at hl; omega, ih _ _ ⟨p, v ++ [z], hp, by simp [vsD], by simp at hl ⊢; omega, rfl⟩⟩
theorem ins_fcs {fs : List Fc} {f : Fc} {k : Nat} : (fcsD fs).take k ++ [fcD f] ++ (fcsD fs).drop k = fcsD (fs.take k ++ [f] ++ fs.drop k) := by
  simp [fcsD, List.map_take, List.map_drop]
theorem ins_mem {fs : List Fc} {f x : Fc} {k : Nat} : x ∈ fs.take k ++ [f] ++ fs.drop k ↔ x ∈ fs ∨ x = f := by
  have h := List.take_append_drop k fs
  constructor
  · intro hx
    simp only [List.mem_append, List.mem_singleton] at hx
    rcases hx with (hx | hx) | hx
    · exact .inl (List.mem_of_mem_take hx)
    · exact .inr hx
    · exact .inl (List.mem_of_mem_drop hx)
  · rintro (hx | rfl)
    · rw [← h] at hx
      simp only [List.mem_append, List.mem_singleton] at hx ⊢
      rcases hx with hx | hx
      · exact .inl (.inl hx)
      · exact .inr hx
    · simp
theorem T_looped {p : A} {n : Nat} {fs0 : List Fc} (hp : isSt p) (hn : 1 ≤ n ∧ n ≤ 1000) (hl0 : fs0.length ≤ 900) (F0 : Fs fs0 n) : Sat (S__law_looped g) [p, .v (.int n), .v (.lst (fcsD fs0))] (fun r o => ∃ fs p', r = .lst (fcsD fs) ∧ fs.length ≤ fs0.length + 6 ∧ Fs fs n ∧ (∀ v, ¬ keeps v fs) ∧ isSt p' ∧ o = [p', .v (.int n), .v (.lst (fcsD fs0))]) noO := by
  refine fnP rfl fun DA hR hN hX => ?_
  show as__law_looped _ _ _ [some p, some (.v (.int n)), some (.v (.lst (fcsD fs0))), none, none, none, none, none]
  have hit : itemsD (.lst (fcsD fs0)) = some (fcsD fs0) := rfl
  unfold as__law_looped rs__law_looped_2 rs__law_looped_3 rs__law_looped_4 rs__law_looped_5
  (repeat' walk_at "vs1")
  refine i_rng1 ?_
  (repeat' walk_at "vs1")
  refine k_draw rfl hp (by decide) (by decide) fun z0 p h00 h01 hp => ?_
  obtain ⟨m, hm⟩ := nat_of (z := 1 + z0) (by omega)
  (repeat' walk_at "vs1")
  rw [hm]
  refine ⟨_, (m : Int), rfl, rfl, by omega, by omega, none1 rfl, ?_⟩
  refine lc_rec (W := fun acc r ρ => ∃ (p : A) (w : List Nat), isSt p ∧ acc = isD w ∧ w.length + r.length = m ∧ (∀ x ∈ w, x < n) ∧ ρ = [some p, some (.v (.int n)), some (.v (.lst (fcsD fs0))), none, none, none, none, none]) ?_ ?_ _ _ _ ⟨p, [], hp, rfl, by simp [intsD], (fun _ h => nomatch h), rfl⟩
  · rintro acc _ ⟨p, w, hp, rfl, hl, hw, rfl⟩
    refine ⟨trivial, ?_⟩
    have hwl : w.length = m := by simpa using hl
    have hlw : lenD (.lst (isD w)) = some m := by simp [lenD, isD, hwl]
    (repeat' walk_at "vs1")
    refine i_rng1 ?_
    (repeat' walk_at "vs1")
    refine ⟨_, (m : Int), rfl, rfl, by omega, by omega, ?_⟩
    rw [Int.toNat_natCast]
    refine for_rng0 (fun k ρ => ∃ (p : A) (fs : List Fc) (l : Int), isSt p ∧ fs.length = fs0.length + k ∧ Fs fs n ∧ (k = m → l = 0) ∧ (∀ v, keeps v fs → vAt v (w.getD 0 0) ≤ vAt v (w.getD (k % m) 0) + (-1 - l)) ∧ ρ = [some p, some (.v (.int n)), some (.v (.lst (fcsD fs0))), some (.v (.lst (isD w))), none, some (.v (.int l)), some (.lst (fcsD fs)), none]) ?_ ?_ ⟨p, fs0, -1, hp, rfl, F0, fun e => by omega, fun v _ => by simp, rfl⟩
    · rintro _ ⟨p, fs, l, hp, hl, F, h0, hk, rfl⟩
      refine ⟨trivial, ?_⟩
      (repeat' walk_at "vs1")
      refine hR _ _ _ rfl ⟨fs, p, rfl, by omega, F, fun v hv => ?_, hp, rfl⟩
      have h1 := hk v hv
      rw [h0 rfl, Nat.mod_self] at h1
      omega
    · rintro k _ hk ⟨p, fs, l, hp, hl, F, h0, hkp, rfl⟩ K ih
      refine ⟨trivial, ?_⟩
      have hlf : lenD (.lst (fcsD fs)) = some fs.length := by simp [lenD, fcsD]
      have hlc : (fcsD fs).length = fs.length := by simp [fcsD]
      have hi : w[k]? = some (w[k]'(by omega)) := List.getElem?_eq_getElem _
      have hk2 : (k + 1) % m < m := Nat.mod_lt _ (by omega)
      have hj : w[(k + 1) % m]? = some (w[(k + 1) % m]'(by omega)) := List.getElem?_eq_getElem _
      have li := hw _ (List.mem_of_getElem? hi)
      have lj := hw _ (List.mem_of_getElem? hj)
      have ea : w.getD (k % m) 0 = w[k]'(by omega) := by rw [Nat.mod_eq_of_lt hk, List.getD_eq_getElem?_getD, hi]; rfl
      have eb : w.getD ((k + 1) % m) 0 = w[(k + 1) % m]'(by omega) := by rw [List.getD_eq_getElem?_getD, hj]; rfl
      rw [ea] at hkp
      generalize w[k]'(by omega) = a at hi li ea hkp
      generalize w[(k + 1) % m]'(by omega) = b at hj lj eb
      have e1 : itD (.lst (isD w)) (.int (k : Int)) = some (.int (a : Nat)) := is_at hi
      have e2 : itD (.lst (isD w)) (.int (((k + 1) % m : Nat) : Int)) = some (.int (b : Nat)) := is_at hj
      have em : ((k : Int) + 1) % (m : Int) = (((k + 1) % m : Nat) : Int) := by first | (push_cast; rfl) | simp
      rw [← em] at e2
      have fin : ∀ (p : A) (c : Int) (q : Nat), isSt p → (k + 1 = m → c = l) → K [some p, some (.v (.int n)), some (.v (.lst (fcsD fs0))), some (.v (.lst (isD w))), none, some (.v (.int (l - c))), some (.lst ((fcsD fs).take q ++ [.tup [.int (a : Nat), .int (b : Nat), .int c]] ++ (fcsD fs).drop q)), none] := fun p c q hp hc => by
        have e3 : (fcsD fs).take q ++ [.tup [.int (a : Nat), .int (b : Nat), .int c]] ++ (fcsD fs).drop q = fcsD (fs.take q ++ [⟨a, b, c⟩] ++ fs.drop q) := ins_fcs (f := ⟨a, b, c⟩)
        rw [e3]
        refine ih _ ⟨p, _, l - c, hp, ?_, ⟨fun f hf => ?_, fun f hf => ?_⟩, fun e => by rw [hc e]; omega, fun v hv => ?_, rfl⟩
        · simp; omega
        · rcases ins_mem.mp hf with hf | rfl
          · exact F.a f hf
          · exact li
        · rcases ins_mem.mp hf with hf | rfl
          · exact F.b f hf
          · exact lj
        · have h1 := hkp v fun f hf => hv f (ins_mem.mpr (.inl hf))
          have h2 := hv ⟨a, b, c⟩ (ins_mem.mpr (.inr rfl))
          simp only at h2
          rw [eb]
          omega
      unfold bd__law_looped_1
      (repeat' walk_at "vs1")
      refine k_amount rfl hp fun c p hp => ?_
      (repeat' walk_at "vs1")
      · have hkm : k + 1 = m := by rw [deq_int] at hif; simp at hif; omega
        refine k_draw rfl hp (by omega) (by omega) fun z p hz0 hz1 hp => ?_
        (repeat' walk_at "vs1")
        all_goals first | omega | skip
        exact fin p l z.toNat hp fun _ => rfl
      · have hkm : k + 1 ≠ m := by rw [deq_int] at hif; simp at hif; omega
        refine k_draw rfl hp (by omega) (by omega) fun z p hz0 hz1 hp => ?_
        (repeat' walk_at "vs1")
        all_goals first | omega | skip
        exact fin p c z.toNat hp fun e => absurd e hkm
  · rintro acc x r _ ⟨p, w, hp, rfl, hl, hw, rfl⟩ ih
    refine i_lcA trivial ?_
    (repeat' walk_at "vs1")
    refine k_draw rfl hp (by omega) (by omega) fun z p hz0 hz1 hp => ?_
    obtain ⟨b, rfl⟩ := nat_of hz0
    (repeat' walk_at "vs1")
    refine ⟨by simp [isD]; simp at hl; omega, ih _ _ ⟨p, w ++ [b], hp, by simp [isD], by simp at hl ⊢; omega, fun x hx => ?_, rfl⟩⟩
    rcases List.mem_append.mp hx with hx | hx
    · exact hw x hx
    · have : x = b := by simpa using hx
      omega
end
end Law

set_option Elab.async false
set_option linter.all false
set_option maxRecDepth 100000
set_option maxHeartbeats 400000
namespace Law
open PySem PySem.Spec PyProof.Rows L2 Vs
set_option hygiene false in
local macro_rules | `(tactic| walk_at "vs1") => `(tactic| (first|((with_reducible first|apply i_seq|apply i_next|apply i_expr|apply i_ret|apply i_retN|apply i_if|apply i_break|apply i_cont|apply i_set|apply i_putX|apply i_for|apply i_retv|apply i_retl|apply i_retd|apply i_reto|apply i_setv|apply i_setl|apply i_setd|apply i_seto|apply i_usev|apply i_usel|apply i_used|apply i_useo|apply i_uses0|apply i_uses1|apply i_c|apply i_op|apply i_un|apply i_test|apply i_tand|apply i_tor|apply i_tnot|apply i_and|apply i_or|apply i_not|apply i_ifx|apply i_chain|apply i_chnK|apply i_nil|apply i_cons|apply i_tup|apply i_lst|apply i_dict0|apply i_cb|apply i_frz|apply i_addi|apply i_adds|apply i_addt|apply i_addl|apply i_raise|apply i_after|apply i_lc|apply i_dc|apply i_agName|apply i_yes|apply i_aiSeqV|apply i_append|apply i_meth0|apply i_make0|apply i_slice|apply i_aoNone|apply i_aoSome|apply i_agCons|apply i_agNil|apply i_asFld|apply i_get1|apply i_call0|apply i_insert|apply i_revT|apply i_disp|apply i_dspN|apply i_dspC|apply i_tryS|apply i_tnx|apply i_snx))|((with_reducible apply i_putK);rfl;(first|exact datV|exact datIv rfl|exact datL|exact datIl rfl|exact datD|exact datId rfl|exact datO|exact datIo rfl);(first|assumption|rfl))|((with_reducible first|apply i_reti|apply i_val|apply i_ref|apply i_appK|apply i_agTup|apply i_aug|apply i_dspK|apply i_xf);rfl)|((with_reducible first|apply i_isB|apply i_neg|apply i_int|apply i_isL|apply i_isI|apply i_isDc|apply i_augK|apply i_repL);(first|exact datV|exact datIv rfl|exact datL|exact datIl rfl|exact datD|exact datId rfl|exact datO|exact datIo rfl))|((with_reducible apply i_ix);(first|exact datV|exact datIv rfl|exact datL|exact datIl rfl|exact datD|exact datId rfl|exact datO|exact datIo rfl);(first|exact datV|exact datIv rfl|exact datL|exact datIl rfl|exact datD|exact datId rfl|exact datO|exact datIo rfl);(first|assumption|rfl))|((with_reducible first|apply i_plus|apply i_sub|apply i_lt|apply i_le|apply i_gt|apply i_ge|apply i_mul|apply i_mod|apply i_pow|apply i_div|apply i_eq|apply i_ne|apply i_is|apply i_isnot|apply i_max|apply i_min|apply i_repT|apply i_isTB|apply i_isnotB);(first|exact datV|exact datIv rfl|exact datL|exact datIl rfl|exact datD|exact datId rfl|exact datO|exact datIo rfl);(first|exact datV|exact datIv rfl|exact datL|exact datIl rfl|exact datD|exact datId rfl|exact datO|exact datIo rfl))|((with_reducible apply i_isi);(first|exact datV|exact datIv rfl|exact datL|exact datIl rfl|exact datD|exact datId rfl|exact datO|exact datIo rfl);(first|exact isi1 (by first|assumption|rfl) (by decide)|exact isi_lt (by first|assumption|rfl)|exact isi_own (by assumption) (by assumption)))|((with_reducible apply i_fldV);rfl;rfl)|((with_reducible apply i_forgetN);((try simp only [clearA, give, List.set_cons_zero, List.set_cons_succ]);rfl))|((with_reducible first|apply i_len|apply i_list);(first|exact datV|exact datIv rfl|exact datL|exact datIl rfl|exact datD|exact datId rfl|exact datO|exact datIo rfl);(first|assumption|rfl))|((with_reducible apply i_objK);(first|exact datV|exact datIv rfl|exact datL|exact datIl rfl|exact datD|exact datId rfl|exact datO|exact datIo rfl);rfl)|((with_reducible apply i_fldK);rfl;(first|exact fs_nil|exact fs_one);exact Nat.le_of_ble_eq_true rfl)|((with_reducible apply i_getK);(first|exact datV|exact datIv rfl|exact datL|exact datIl rfl|exact datD|exact datId rfl|exact datO|exact datIo rfl);(first|exact datV|exact datIv rfl|exact datL|exact datIl rfl|exact datD|exact datId rfl|exact datO|exact datIo rfl);rfl;(first|assumption|rfl))|((with_reducible apply i_inD);(first|exact datV|exact datIv rfl|exact datL|exact datIl rfl|exact datD|exact datId rfl|exact datO|exact datIo rfl);(first|exact datV|exact datIv rfl|exact datL|exact datIl rfl|exact datD|exact datId rfl|exact datO|exact datIo rfl);rfl)|((with_reducible apply i_insK);rfl;(first|exact datV|exact datIv rfl|exact datL|exact datIl rfl|exact datD|exact datId rfl|exact datO|exact datIo rfl))|((with_reducible apply i_useiv);rfl)|((with_reducible apply i_useil);rfl)|((with_reducible apply i_useid);rfl)|((with_reducible apply i_tuplel);(first|exact datV|exact datIv rfl|exact datL|exact datIl rfl|exact datD|exact datId rfl|exact datO|exact datIo rfl))|((with_reducible apply i_tuplet);(first|exact datV|exact datIv rfl|exact datL|exact datIl rfl|exact datD|exact datId rfl|exact datO|exact datIo rfl))|((with_reducible apply i_slcT);(first|exact datV|exact datIv rfl|exact datL|exact datIl rfl|exact datD|exact datId rfl|exact datO|exact datIo rfl))|((with_reducible apply i_slcL);(first|exact datV|exact datIv rfl|exact datL|exact datIl rfl|exact datD|exact datId rfl|exact datO|exact datIo rfl))|((with_reducible apply i_ninD);(first|exact datV|exact datIv rfl|exact datL|exact datIl rfl|exact datD|exact datId rfl|exact datO|exact datIo rfl);(first|exact datV|exact datIv rfl|exact datL|exact datIl rfl|exact datD|exact datId rfl|exact datO|exact datIo rfl);rfl)|((with_reducible apply i_revK);(first|exact datV|exact datIv rfl|exact datL|exact datIl rfl|exact datD|exact datId rfl|exact datO|exact datIo rfl))|((with_reducible first|apply i_sz|apply i_sz15);exact Nat.le_of_ble_eq_true rfl)|exact pl_int|exact pl_str|exact pl_bl|exact pl_non|exact lenA_l|((with_reducible first|apply lenA_h|apply plD_h|apply len_h|apply ins_h);assumption)|((with_reducible apply cpow_h);(unfold CPow; decide))|((with_reducible apply cmul_h);(unfold CMul; first|decide|omega))|(with_reducible first|apply i_itet|apply i_itef)|((with_reducible refine i_itepB ?_ ?_);(first|assumption|rfl))|((with_reducible refine i_itenB ?_ ?_);(first|assumption|rfl))|((with_reducible apply i_ite)<;>intro hif)))
def toldD : D := .tup [.str ("told" : Str), .int 0]
def factD (q : Nat) : D := .tup [.str ("fact" : Str), .int (q : Nat)]
def tellB (n : Nat) (xs : List D) : D := match factsB n xs 0 with
  | .ok _ => toldD
  | .error q => factD q
section
variable {EA : AX} {ρ ρ' : AEnv} {Q : AK} {DA : AEnds} {g : Gm} [Gok g]
theorem T_bad {p : A} {n : Nat} (hp : isSt p) (hn : 1 ≤ n ∧ n ≤ 1000) : Sat (S__law_bad g) [p, .v (.int n)] (fun r o => ∃ d p', r = .v d ∧ okTh d ∧ isSt p' ∧ o = [p', .v (.int n)]) noO := by
  refine fnP rfl fun DA hR hN hX => ?_
  show as__law_bad _ _ _ [some p, some (.v (.int n)), none, none]
  unfold as__law_bad rs__law_bad_2 rs__law_bad_3 rs__law_bad_4
  (repeat' walk_at "vs1")
  refine k_draw rfl hp (by omega) (by omega) fun a p ha0 ha1 hp => ?_
  (repeat' walk_at "vs1")
  refine k_strange rfl hp fun ds p hds hp => ?_
  (repeat' walk_at "vs1")
  · exact Nat.le_of_ble_eq_true rfl
  refine k_draw rfl hp (by simp) (by simp) fun z p hz0 hz1 hp => ?_
  obtain ⟨e, he, hi⟩ := at_mem hz0 hz1
  refine i_ix datV datV hi ?_
  (repeat' walk_at "vs1")
  refine hR _ _ _ rfl ⟨e, p, rfl, ?_, hp, rfl⟩
  simp only [List.cons_append, List.nil_append, List.mem_cons, List.not_mem_nil, or_false] at he
  have t3 : ∀ x y z : D, okT x → okT y → okT z → okTh (.tup [x, y, z]) := fun x y z h1 h2 h3 => ok_tup (by simp) fun w hw => by simp at hw; rcases hw with rfl | rfl | rfl <;> assumption
  rcases he with rfl | rfl | rfl | rfl | rfl | rfl | rfl | rfl | rfl | rfl | rfl | rfl | rfl <;> first | exact t3 _ _ _ rfl rfl rfl | exact ok_lst | exact hds | exact ok_tup (by simp) fun w hw => by simp at hw; rcases hw with rfl | rfl <;> rfl
theorem T_refused {n : Nat} {xs : List D} (hn : 1 ≤ n ∧ n ≤ 1000) (hx : ∀ x ∈ xs, okTh x) : Ev (S__law_refused g) [.v (.int n), .lst xs] (.lst [tellB n xs, tellB n xs]) := by
  refine evI rfl fun DA hR hN => ?_
  show as__law_refused g.K _ _ _ _ [some (.v (.int n)), some (.lst xs), none, none]
  unfold as__law_refused rs__law_refused_2 rs__law_refused_3 rs__law_refused_4
  unfold tellB at hR
  cases hb : factsB n xs 0 with
  | ok fs =>
    rw [hb] at hR
    obtain ⟨rfl, F⟩ := factsB_ok hb
    have hrs : ∃ r r', Ev (S_ring g) [.v (.int n), .lst (fcsD fs)] (.v r) ∧ Ev (S_solution g) [.v (.int n), .lst (fcsD fs)] r' := by
      rcases outcome hn.1 F with ⟨v, h1, h2, _⟩ | ⟨is, h1, h2, _⟩
      · exact ⟨_, _, T_ring hn.1 hn.2 F h1, T_solution hn.1 hn.2 F h2⟩
      · exact ⟨_, _, T_ring hn.1 hn.2 F h1, T_solution hn.1 hn.2 F h2⟩
    obtain ⟨r, r', t1, t2⟩ := hrs
    (repeat' first|((with_reducible apply kEv);rfl;with_reducible exact t1)|((with_reducible apply kEv);rfl;with_reducible exact t2)|walk_at "vs1")
    all_goals first | exact Nat.le_of_ble_eq_true rfl | skip
    exact hR _ _ rfl rfl
  | error q =>
    rw [hb] at hR
    have t1 := T_ring_bad (g := g) hx hb
    have t2 := T_sol_bad (g := g) hx hb
    (repeat' first|((with_reducible apply kRz);rfl;with_reducible exact t1)|walk_at "vs1")
    dsimp only
    refine e_catch (Gok.xm_BadFact_BadFact (g := g)) ?_ ?_ ?_
    · exact fun z => nomatch z
    · exact Nat.le_of_ble_eq_true rfl
    (simp only [clearA, give, List.set_cons_zero, List.set_cons_succ])
    (repeat' first|((with_reducible apply kRz);rfl;with_reducible exact t2)|walk_at "vs1")
    all_goals first | exact Nat.le_of_ble_eq_true rfl | skip
    dsimp only
    refine e_catch (Gok.xm_BadFact_BadFact (g := g)) ?_ ?_ ?_
    · exact fun z => nomatch z
    · exact Nat.le_of_ble_eq_true rfl
    (simp only [clearA, give, List.set_cons_zero, List.set_cons_succ])
    (repeat' walk_at "vs1")
    all_goals first | exact Nat.le_of_ble_eq_true rfl | skip
    exact hR _ _ rfl rfl
end
end Law

set_option Elab.async false
set_option linter.all false
set_option maxRecDepth 100000
set_option maxHeartbeats 1000000
namespace Law
open PySem PySem.Spec PyProof.Rows L2 Vs
set_option hygiene false in
local macro_rules | `(tactic| walk_at "vs1") => `(tactic| (first|((with_reducible first|apply i_seq|apply i_next|apply i_expr|apply i_ret|apply i_retN|apply i_if|apply i_break|apply i_cont|apply i_set|apply i_putX|apply i_for|apply i_retv|apply i_retl|apply i_retd|apply i_reto|apply i_setv|apply i_setl|apply i_setd|apply i_seto|apply i_usev|apply i_usel|apply i_used|apply i_useo|apply i_uses0|apply i_uses1|apply i_c|apply i_op|apply i_un|apply i_test|apply i_tand|apply i_tor|apply i_tnot|apply i_and|apply i_or|apply i_not|apply i_ifx|apply i_chain|apply i_chnK|apply i_nil|apply i_cons|apply i_tup|apply i_lst|apply i_dict0|apply i_cb|apply i_frz|apply i_addi|apply i_adds|apply i_addt|apply i_addl|apply i_raise|apply i_after|apply i_lc|apply i_dc|apply i_agName|apply i_yes|apply i_aiSeqV|apply i_append|apply i_meth0|apply i_make0|apply i_slice|apply i_aoNone|apply i_aoSome|apply i_agCons|apply i_agNil|apply i_asFld|apply i_get1|apply i_call0|apply i_insert|apply i_revT|apply i_disp|apply i_dspN|apply i_dspC|apply i_tryS|apply i_tnx|apply i_snx))|((with_reducible apply i_putK);rfl;(first|exact datV|exact datIv rfl|exact datL|exact datIl rfl|exact datD|exact datId rfl|exact datO|exact datIo rfl);(first|assumption|rfl))|((with_reducible first|apply i_reti|apply i_val|apply i_ref|apply i_appK|apply i_agTup|apply i_aug|apply i_dspK|apply i_xf);rfl)|((with_reducible first|apply i_isB|apply i_neg|apply i_int|apply i_isL|apply i_isI|apply i_isDc|apply i_augK|apply i_repL);(first|exact datV|exact datIv rfl|exact datL|exact datIl rfl|exact datD|exact datId rfl|exact datO|exact datIo rfl))|((with_reducible apply i_ix);(first|exact datV|exact datIv rfl|exact datL|exact datIl rfl|exact datD|exact datId rfl|exact datO|exact datIo rfl);(first|exact datV|exact datIv rfl|exact datL|exact datIl rfl|exact datD|exact datId rfl|exact datO|exact datIo rfl);(first|assumption|rfl))|((with_reducible first|apply i_plus|apply i_sub|apply i_lt|apply i_le|apply i_gt|apply i_ge|apply i_mul|apply i_mod|apply i_pow|apply i_div|apply i_eq|apply i_ne|apply i_is|apply i_isnot|apply i_max|apply i_min|apply i_repT|apply i_isTB|apply i_isnotB);(first|exact datV|exact datIv rfl|exact datL|exact datIl rfl|exact datD|exact datId rfl|exact datO|exact datIo rfl);(first|exact datV|exact datIv rfl|exact datL|exact datIl rfl|exact datD|exact datId rfl|exact datO|exact datIo rfl))|((with_reducible apply i_isi);(first|exact datV|exact datIv rfl|exact datL|exact datIl rfl|exact datD|exact datId rfl|exact datO|exact datIo rfl);(first|exact isi1 (by first|assumption|rfl) (by decide)|exact isi_lt (by first|assumption|rfl)|exact isi_own (by assumption) (by assumption)))|((with_reducible apply i_fldV);rfl;rfl)|((with_reducible apply i_forgetN);((try simp only [clearA, give, List.set_cons_zero, List.set_cons_succ]);rfl))|((with_reducible first|apply i_len|apply i_list);(first|exact datV|exact datIv rfl|exact datL|exact datIl rfl|exact datD|exact datId rfl|exact datO|exact datIo rfl);(first|assumption|rfl))|((with_reducible apply i_objK);(first|exact datV|exact datIv rfl|exact datL|exact datIl rfl|exact datD|exact datId rfl|exact datO|exact datIo rfl);rfl)|((with_reducible apply i_fldK);rfl;(first|exact fs_nil|exact fs_one);exact Nat.le_of_ble_eq_true rfl)|((with_reducible apply i_getK);(first|exact datV|exact datIv rfl|exact datL|exact datIl rfl|exact datD|exact datId rfl|exact datO|exact datIo rfl);(first|exact datV|exact datIv rfl|exact datL|exact datIl rfl|exact datD|exact datId rfl|exact datO|exact datIo rfl);rfl;(first|assumption|rfl))|((with_reducible apply i_inD);(first|exact datV|exact datIv rfl|exact datL|exact datIl rfl|exact datD|exact datId rfl|exact datO|exact datIo rfl);(first|exact datV|exact datIv rfl|exact datL|exact datIl rfl|exact datD|exact datId rfl|exact datO|exact datIo rfl);rfl)|((with_reducible apply i_insK);rfl;(first|exact datV|exact datIv rfl|exact datL|exact datIl rfl|exact datD|exact datId rfl|exact datO|exact datIo rfl))|((with_reducible apply i_useiv);rfl)|((with_reducible apply i_useil);rfl)|((with_reducible apply i_useid);rfl)|((with_reducible apply i_tuplel);(first|exact datV|exact datIv rfl|exact datL|exact datIl rfl|exact datD|exact datId rfl|exact datO|exact datIo rfl))|((with_reducible apply i_tuplet);(first|exact datV|exact datIv rfl|exact datL|exact datIl rfl|exact datD|exact datId rfl|exact datO|exact datIo rfl))|((with_reducible apply i_slcT);(first|exact datV|exact datIv rfl|exact datL|exact datIl rfl|exact datD|exact datId rfl|exact datO|exact datIo rfl))|((with_reducible apply i_slcL);(first|exact datV|exact datIv rfl|exact datL|exact datIl rfl|exact datD|exact datId rfl|exact datO|exact datIo rfl))|((with_reducible apply i_ninD);(first|exact datV|exact datIv rfl|exact datL|exact datIl rfl|exact datD|exact datId rfl|exact datO|exact datIo rfl);(first|exact datV|exact datIv rfl|exact datL|exact datIl rfl|exact datD|exact datId rfl|exact datO|exact datIo rfl);rfl)|((with_reducible apply i_revK);(first|exact datV|exact datIv rfl|exact datL|exact datIl rfl|exact datD|exact datId rfl|exact datO|exact datIo rfl))|((with_reducible first|apply i_sz|apply i_sz15);exact Nat.le_of_ble_eq_true rfl)|exact pl_int|exact pl_str|exact pl_bl|exact pl_non|exact lenA_l|((with_reducible first|apply lenA_h|apply plD_h|apply len_h|apply ins_h);assumption)|((with_reducible apply cpow_h);(unfold CPow; decide))|((with_reducible apply cmul_h);(unfold CMul; first|decide|omega))|(with_reducible first|apply i_itet|apply i_itef)|((with_reducible refine i_itepB ?_ ?_);(first|assumption|rfl))|((with_reducible refine i_itenB ?_ ?_);(first|assumption|rfl))|((with_reducible apply i_ite)<;>intro hif)))
def wr (n : Nat) : List D → Nat → List Nat
  | [], _ => []
  | d :: r, p => if (factB n d).isSome then wr n r (p + 1) else p :: wr n r (p + 1)
theorem wr_filter {n : Nat} {zs : List D} : ∀ (xs pre : List D), zs = pre ++ xs → (List.range' pre.length xs.length).filter (fun k => !(factB n (zs.getD k .non)).isSome) = wr n xs pre.length
  | [], pre, _ => rfl
  | d :: r, pre, e => by
    have h := wr_filter (n := n) (zs := zs) r (pre ++ [d]) (by rw [e]; simp)
    have e2 : (pre ++ [d]).length = pre.length + 1 := by simp
    rw [e2] at h
    have hd : zs.getD pre.length .non = d := by rw [e, List.getD_eq_getElem?_getD]; simp
    rw [List.length_cons, List.range'_succ, List.filter_cons, hd, h]
    simp only [wr]
    cases (factB n d).isSome <;> rfl
theorem wr_tell {n : Nat} : ∀ (xs : List D) (p : Nat), (∃ fs, factsB n xs p = .ok fs ∧ wr n xs p = []) ∨ (∃ q r, factsB n xs p = .error q ∧ wr n xs p = q :: r)
  | [], p => .inl ⟨[], rfl, rfl⟩
  | d :: r, p => by
    unfold factsB wr
    cases hf : factB n d with
    | none => exact .inr ⟨p, wr n r (p + 1), rfl, by simp⟩
    | some f =>
      rcases wr_tell r (p + 1) with ⟨fs, h1, h2⟩ | ⟨q, s, h1, h2⟩
      · refine .inl ⟨f :: fs, ?_, by simpa using h2⟩
        show (match factsB n r (p + 1) with | .ok fs => Except.ok (f :: fs) | .error q => .error q) = _
        rw [h1]
      · refine .inr ⟨q, s, ?_, by simpa using h2⟩
        show (match factsB n r (p + 1) with | .ok fs => Except.ok (f :: fs) | .error q => .error q) = _
        rw [h1]
theorem ne_self {d : D} (h : PlD 20 d) : (!deq d d) = false := by rw [deq_refl _ _ h]; rfl
theorem tell_cases (n : Nat) (xs : List D) : tellB n xs = toldD ∨ ∃ q, tellB n xs = factD q := by
  unfold tellB
  cases factsB n xs 0 with
  | ok _ => exact .inl rfl
  | error q => exact .inr ⟨q, rfl⟩
theorem tell_eq (n : Nat) (xs : List D) : deq (.lst [tellB n xs, tellB n xs]) (.lst [tellB n xs, tellB n xs]) = true := by
  rcases tell_cases n xs with h | ⟨q, h⟩ <;> (rw [h]; refine deq_refl 20 _ ?_; simp [PlD, toldD, factD])
theorem tell_good {n : Nat} {fs : List Fc} (F : Fs fs n) : tellB n (fcsD fs) = toldD := by
  unfold tellB
  rw [factsB_fcs F]
section
variable {EA : AX} {ρ ρ' : AEnv} {Q : AK} {DA : AEnds} {g : Gm} [Gok g]
theorem T_refuses {p : A} {n : Nat} {fs : List Fc} (hp : isSt p) (hn : 1 ≤ n ∧ n ≤ 1000) (hl : fs.length ≤ 1000) (F : Fs fs n) : Sat (S__law_refuses g) [p, .v (.int n), .v (.lst (fcsD fs))] (fun r o => ∃ p', r = .v (.bl true) ∧ isSt p' ∧ o = [p', .v (.int n), .v (.lst (fcsD fs))]) noO := by
  refine fnP rfl fun DA hR hN hX => ?_
  show as__law_refuses _ _ _ _ _ [some p, some (.v (.int n)), some (.v (.lst (fcsD fs))), none, none, none, none]
  have hit : itemsD (.lst (fcsD fs)) = some (fcsD fs) := rfl
  unfold as__law_refuses rs__law_refuses_2 rs__law_refuses_3 rs__law_refuses_4 rs__law_refuses_5 rs__law_refuses_6
  (repeat' walk_at "vs1")
  refine i_rng1 ?_
  (repeat' walk_at "vs1")
  refine k_draw rfl hp (by decide) (by decide) fun z0 p h00 h01 hp => ?_
  obtain ⟨m, hm⟩ := nat_of (z := 1 + z0) (by omega)
  (repeat' walk_at "vs1")
  rw [hm]
  refine ⟨_, (m : Int), rfl, rfl, by omega, by omega, ?_⟩
  rw [Int.toNat_natCast]
  refine for_rng0 (fun k ρ => ∃ (p : A) (xs : List D) (o4 : Option A), isSt p ∧ xs.length ≤ 1000 + k ∧ (∀ x ∈ xs, okTh x) ∧ ρ = [some p, some (.v (.int n)), some (.v (.lst (fcsD fs))), some (.lst xs), o4, none, none]) ?_ ?_ ⟨p, fcsD fs, none, hp, by simp [fcsD]; omega, ok_fcs, rfl⟩
  · rintro _ ⟨p, xs, o4, hp, hxl, hx, rfl⟩
    refine ⟨trivial, ?_⟩
    have hlx : lenD (.lst xs) = some xs.length := rfl
    (repeat' walk_at "vs1")
    refine i_rng1 ?_
    (repeat' walk_at "vs1")
    refine ⟨_, (xs.length : Int), rfl, rfl, by omega, by omega, none1 rfl, ?_⟩
    have ei : intsD 0 ((xs.length : Int)).toNat = (List.range xs.length).map fun k : Nat => D.int (k : Int) := by
      simp [intsD]
    rw [ei]
    refine lc_typed (fun k : Nat => D.int (k : Int)) (fun k => !(factB n (xs.getD k .non)).isSome) (fun k : Nat => D.int (k : Int)) trivial (by simp; omega) (fun k hk R N hR hN => ?_) ?_
    · have hk' := List.mem_range.mp hk
      have e1 : itD (.lst xs) (.int (k : Int)) = some (xs.getD k .non) := by
        show atI xs (k : Int) = _
        rw [at_nat hk', List.getD_eq_getElem?_getD, List.getElem?_eq_getElem hk']
        rfl
      have hT := T_law_is_fact (g := g) (n := n) (hx (xs.getD k .non) (by rw [List.getD_eq_getElem?_getD, List.getElem?_eq_getElem hk']; exact List.getElem_mem hk'))
      cases hf : (factB n (xs.getD k .non)).isSome with
      | true =>
        rw [hf] at hT
        (repeat' first|((with_reducible apply kEv);rfl;exact hT)|walk_at "vs1")
        exact hN _ rfl (by rw [hf]; rfl)
      | false =>
        rw [hf] at hT
        (repeat' first|((with_reducible apply kEv);rfl;exact hT)|walk_at "vs1")
        exact hR _ rfl (by rw [hf]; rfl)
    · have ew : (List.range xs.length).filter (fun k => !(factB n (xs.getD k .non)).isSome) = wr n xs 0 := by
        have := wr_filter (n := n) (zs := xs) xs [] rfl
        rw [List.range_eq_range']
        exact this
      rw [ew]
      have t1 := T_refused (g := g) hn hx
      have t2 := T_refused (g := g) (n := n) (xs := fcsD fs) hn ok_fcs
      have q1 := tell_eq n xs
      have q2 := tell_eq n (fcsD fs)
      have e2 : tellB n (fcsD fs) = toldD := tell_good F
      rw [e2] at t2 q2
      unfold toldD at t2 q2
      have pl1 : PlD 20 (.lst [.tup [.str ("told" : Str), .int 0], .tup [.str ("told" : Str), .int 0]]) := by simp [PlD]
      have pl2 : ∀ q : Nat, PlD 20 (.lst [.tup [.str ("fact" : Str), .int (q : Nat)], .tup [.str ("fact" : Str), .int (q : Nat)]]) := fun q => by simp [PlD]
      rcases wr_tell (n := n) xs 0 with ⟨fs', h1, h2⟩ | ⟨q, s, h1, h2⟩
      · have e3 : tellB n xs = .tup [.str ("told" : Str), .int 0] := by unfold tellB; rw [h1]; rfl
        rw [e3] at t1 q1
        rw [h2]
        (repeat' first|((with_reducible apply kEv);rfl;with_reducible exact t1)|((with_reducible apply kEv);rfl;with_reducible exact t2)|walk_at "vs1")
        exact hR _ _ _ rfl ⟨p, by rw [q2], hp, rfl⟩
      · have e3 : tellB n xs = .tup [.str ("fact" : Str), .int (q : Nat)] := by unfold tellB; rw [h1]; rfl
        rw [e3] at t1 q1
        rw [h2]
        have pl3 := pl2 q
        have hw0 : itD (.lst ((q :: s).map fun k : Nat => D.int (k : Int))) (.int 0) = some (.int (q : Nat)) := is_at (is := q :: s) (k := 0) rfl
        have hl2 : decide ((0 : Int) < (((q :: s).map fun k : Nat => D.int (k : Int)).length : Nat)) = true := by simp
        (repeat' first|((with_reducible apply kEv);rfl;with_reducible exact t1)|((with_reducible apply kEv);rfl;with_reducible exact t2)|walk_at "vs1")
        exact hR _ _ _ rfl ⟨p, by rw [q2], hp, rfl⟩
  · rintro k _ hk ⟨p, xs, o4, hp, hxl, hx, rfl⟩ K ih
    refine ⟨trivial, ?_⟩
    have hlx : lenD (.lst xs) = some xs.length := rfl
    unfold bd__law_refuses_1
    (repeat' walk_at "vs1")
    refine k_draw rfl hp (by omega) (by omega) fun z p hz0 hz1 hp => ?_
    (repeat' walk_at "vs1")
    refine kSat rfl (T_bad hp hn) (fun r o q => ?_) (fun _ _ _ h => h.elim)
    obtain ⟨d, p', rfl, hd, hp', rfl⟩ := q
    (simp only [clearA, give, List.set_cons_zero, List.set_cons_succ])
    have hi3 : 0 ≤ z ∧ z < 2 ^ 63 ∧ xs.length ≤ 100000 := ⟨hz0, by omega, by omega⟩
    (repeat' walk_at "vs1")
    refine ih _ ⟨p', _, _, hp', ?_, fun x hx' => ?_, rfl⟩
    · simp; omega
    · simp only [List.mem_append, List.mem_singleton] at hx'
      rcases hx' with (h | h) | h
      · exact hx x (List.mem_of_mem_take h)
      · rw [h]; exact hd
      · exact hx x (List.mem_of_mem_drop h)
end
end Law

set_option Elab.async false
set_option linter.all false
set_option maxRecDepth 100000
set_option maxHeartbeats 1000000
namespace Law
open PySem PySem.Spec PyProof.Rows L2 Vs
set_option hygiene false in
local macro_rules | `(tactic| walk_at "vs1") => `(tactic| (first|((with_reducible first|apply i_seq|apply i_next|apply i_expr|apply i_ret|apply i_retN|apply i_if|apply i_break|apply i_cont|apply i_set|apply i_putX|apply i_for|apply i_retv|apply i_retl|apply i_retd|apply i_reto|apply i_setv|apply i_setl|apply i_setd|apply i_seto|apply i_usev|apply i_usel|apply i_used|apply i_useo|apply i_uses0|apply i_uses1|apply i_c|apply i_op|apply i_un|apply i_test|apply i_tand|apply i_tor|apply i_tnot|apply i_and|apply i_or|apply i_not|apply i_ifx|apply i_chain|apply i_chnK|apply i_nil|apply i_cons|apply i_tup|apply i_lst|apply i_dict0|apply i_cb|apply i_frz|apply i_addi|apply i_adds|apply i_addt|apply i_addl|apply i_raise|apply i_after|apply i_lc|apply i_dc|apply i_agName|apply i_yes|apply i_aiSeqV|apply i_append|apply i_meth0|apply i_make0|apply i_slice|apply i_aoNone|apply i_aoSome|apply i_agCons|apply i_agNil|apply i_asFld|apply i_get1|apply i_call0|apply i_insert|apply i_revT|apply i_disp|apply i_dspN|apply i_dspC|apply i_tryS|apply i_tnx|apply i_snx))|((with_reducible apply i_putK);rfl;(first|exact datV|exact datIv rfl|exact datL|exact datIl rfl|exact datD|exact datId rfl|exact datO|exact datIo rfl);(first|assumption|rfl))|((with_reducible first|apply i_reti|apply i_val|apply i_ref|apply i_appK|apply i_agTup|apply i_aug|apply i_dspK|apply i_xf);rfl)|((with_reducible first|apply i_isB|apply i_neg|apply i_int|apply i_isL|apply i_isI|apply i_isDc|apply i_augK|apply i_repL);(first|exact datV|exact datIv rfl|exact datL|exact datIl rfl|exact datD|exact datId rfl|exact datO|exact datIo rfl))|((with_reducible apply i_ix);(first|exact datV|exact datIv rfl|exact datL|exact datIl rfl|exact datD|exact datId rfl|exact datO|exact datIo rfl);(first|exact datV|exact datIv rfl|exact datL|exact datIl rfl|exact datD|exact datId rfl|exact datO|exact datIo rfl);(first|assumption|rfl))|((with_reducible first|apply i_plus|apply i_sub|apply i_lt|apply i_le|apply i_gt|apply i_ge|apply i_mul|apply i_mod|apply i_pow|apply i_div|apply i_eq|apply i_ne|apply i_is|apply i_isnot|apply i_max|apply i_min|apply i_repT|apply i_isTB|apply i_isnotB);(first|exact datV|exact datIv rfl|exact datL|exact datIl rfl|exact datD|exact datId rfl|exact datO|exact datIo rfl);(first|exact datV|exact datIv rfl|exact datL|exact datIl rfl|exact datD|exact datId rfl|exact datO|exact datIo rfl))|((with_reducible apply i_isi);(first|exact datV|exact datIv rfl|exact datL|exact datIl rfl|exact datD|exact datId rfl|exact datO|exact datIo rfl);(first|exact isi1 (by first|assumption|rfl) (by decide)|exact isi_lt (by first|assumption|rfl)|exact isi_own (by assumption) (by assumption)))|((with_reducible apply i_fldV);rfl;rfl)|((with_reducible apply i_forgetN);((try simp only [clearA, give, List.set_cons_zero, List.set_cons_succ]);rfl))|((with_reducible first|apply i_len|apply i_list);(first|exact datV|exact datIv rfl|exact datL|exact datIl rfl|exact datD|exact datId rfl|exact datO|exact datIo rfl);(first|assumption|rfl))|((with_reducible apply i_objK);(first|exact datV|exact datIv rfl|exact datL|exact datIl rfl|exact datD|exact datId rfl|exact datO|exact datIo rfl);rfl)|((with_reducible apply i_fldK);rfl;(first|exact fs_nil|exact fs_one);exact Nat.le_of_ble_eq_true rfl)|((with_reducible apply i_getK);(first|exact datV|exact datIv rfl|exact datL|exact datIl rfl|exact datD|exact datId rfl|exact datO|exact datIo rfl);(first|exact datV|exact datIv rfl|exact datL|exact datIl rfl|exact datD|exact datId rfl|exact datO|exact datIo rfl);rfl;(first|assumption|rfl))|((with_reducible apply i_inD);(first|exact datV|exact datIv rfl|exact datL|exact datIl rfl|exact datD|exact datId rfl|exact datO|exact datIo rfl);(first|exact datV|exact datIv rfl|exact datL|exact datIl rfl|exact datD|exact datId rfl|exact datO|exact datIo rfl);rfl)|((with_reducible apply i_insK);rfl;(first|exact datV|exact datIv rfl|exact datL|exact datIl rfl|exact datD|exact datId rfl|exact datO|exact datIo rfl))|((with_reducible apply i_useiv);rfl)|((with_reducible apply i_useil);rfl)|((with_reducible apply i_useid);rfl)|((with_reducible apply i_tuplel);(first|exact datV|exact datIv rfl|exact datL|exact datIl rfl|exact datD|exact datId rfl|exact datO|exact datIo rfl))|((with_reducible apply i_tuplet);(first|exact datV|exact datIv rfl|exact datL|exact datIl rfl|exact datD|exact datId rfl|exact datO|exact datIo rfl))|((with_reducible apply i_slcT);(first|exact datV|exact datIv rfl|exact datL|exact datIl rfl|exact datD|exact datId rfl|exact datO|exact datIo rfl))|((with_reducible apply i_slcL);(first|exact datV|exact datIv rfl|exact datL|exact datIl rfl|exact datD|exact datId rfl|exact datO|exact datIo rfl))|((with_reducible apply i_ninD);(first|exact datV|exact datIv rfl|exact datL|exact datIl rfl|exact datD|exact datId rfl|exact datO|exact datIo rfl);(first|exact datV|exact datIv rfl|exact datL|exact datIl rfl|exact datD|exact datId rfl|exact datO|exact datIo rfl);rfl)|((with_reducible apply i_revK);(first|exact datV|exact datIv rfl|exact datL|exact datIl rfl|exact datD|exact datId rfl|exact datO|exact datIo rfl))|((with_reducible first|apply i_sz|apply i_sz15);exact Nat.le_of_ble_eq_true rfl)|exact pl_int|exact pl_str|exact pl_bl|exact pl_non|exact lenA_l|((with_reducible first|apply lenA_h|apply plD_h|apply len_h|apply ins_h);assumption)|((with_reducible apply cpow_h);(unfold CPow; decide))|((with_reducible apply cmul_h);(unfold CMul; first|decide|omega))|(with_reducible first|apply i_itet|apply i_itef)|((with_reducible refine i_itepB ?_ ?_);(first|assumption|rfl))|((with_reducible refine i_itenB ?_ ?_);(first|assumption|rfl))|((with_reducible apply i_ite)<;>intro hif)))
set_option hygiene false in
local macro_rules | `(tactic| walk_at "vs2") => `(tactic| (first|((with_reducible first|apply i_expr|apply i_ret|apply i_retN|apply i_break|apply i_cont|apply i_set|apply i_putX|apply i_retv|apply i_retl|apply i_retd|apply i_reto|apply i_setv|apply i_setl|apply i_setd|apply i_seto|apply i_usev|apply i_usel|apply i_used|apply i_useo|apply i_uses0|apply i_uses1|apply i_c|apply i_op|apply i_un|apply i_test|apply i_tand|apply i_tor|apply i_tnot|apply i_and|apply i_or|apply i_not|apply i_ifx|apply i_chain|apply i_chnK|apply i_nil|apply i_cons|apply i_tup|apply i_lst|apply i_dict0|apply i_cb|apply i_frz|apply i_addi|apply i_adds|apply i_addt|apply i_addl|apply i_raise|apply i_after|apply i_lc|apply i_dc|apply i_agName|apply i_yes|apply i_aiSeqV|apply i_append|apply i_meth0|apply i_make0|apply i_slice|apply i_aoNone|apply i_aoSome|apply i_agCons|apply i_agNil|apply i_asFld|apply i_get1|apply i_call0|apply i_insert|apply i_revT|apply i_disp|apply i_dspN|apply i_dspC|apply i_tryS|apply i_tnx|apply i_snx))|((with_reducible apply i_putK);rfl;(first|exact datV|exact datIv rfl|exact datL|exact datIl rfl|exact datD|exact datId rfl|exact datO|exact datIo rfl);(first|assumption|rfl))|((with_reducible first|apply i_reti|apply i_val|apply i_ref|apply i_appK|apply i_agTup|apply i_aug|apply i_dspK|apply i_xf);rfl)|((with_reducible first|apply i_isB|apply i_neg|apply i_int|apply i_isL|apply i_isI|apply i_isDc|apply i_augK|apply i_repL);(first|exact datV|exact datIv rfl|exact datL|exact datIl rfl|exact datD|exact datId rfl|exact datO|exact datIo rfl))|((with_reducible apply i_ix);(first|exact datV|exact datIv rfl|exact datL|exact datIl rfl|exact datD|exact datId rfl|exact datO|exact datIo rfl);(first|exact datV|exact datIv rfl|exact datL|exact datIl rfl|exact datD|exact datId rfl|exact datO|exact datIo rfl);(first|assumption|rfl))|((with_reducible first|apply i_plus|apply i_sub|apply i_lt|apply i_le|apply i_gt|apply i_ge|apply i_mul|apply i_mod|apply i_pow|apply i_div|apply i_eq|apply i_ne|apply i_is|apply i_isnot|apply i_max|apply i_min|apply i_repT|apply i_isTB|apply i_isnotB);(first|exact datV|exact datIv rfl|exact datL|exact datIl rfl|exact datD|exact datId rfl|exact datO|exact datIo rfl);(first|exact datV|exact datIv rfl|exact datL|exact datIl rfl|exact datD|exact datId rfl|exact datO|exact datIo rfl))|((with_reducible apply i_isi);(first|exact datV|exact datIv rfl|exact datL|exact datIl rfl|exact datD|exact datId rfl|exact datO|exact datIo rfl);(first|exact isi1 (by first|assumption|rfl) (by decide)|exact isi_lt (by first|assumption|rfl)|exact isi_own (by assumption) (by assumption)))|((with_reducible apply i_fldV);rfl;rfl)|((with_reducible apply i_forgetN);((try simp only [clearA, give, List.set_cons_zero, List.set_cons_succ]);rfl))|((with_reducible first|apply i_len|apply i_list);(first|exact datV|exact datIv rfl|exact datL|exact datIl rfl|exact datD|exact datId rfl|exact datO|exact datIo rfl);(first|assumption|rfl))|((with_reducible apply i_objK);(first|exact datV|exact datIv rfl|exact datL|exact datIl rfl|exact datD|exact datId rfl|exact datO|exact datIo rfl);rfl)|((with_reducible apply i_fldK);rfl;(first|exact fs_nil|exact fs_one);exact Nat.le_of_ble_eq_true rfl)|((with_reducible apply i_getK);(first|exact datV|exact datIv rfl|exact datL|exact datIl rfl|exact datD|exact datId rfl|exact datO|exact datIo rfl);(first|exact datV|exact datIv rfl|exact datL|exact datIl rfl|exact datD|exact datId rfl|exact datO|exact datIo rfl);rfl;(first|assumption|rfl))|((with_reducible apply i_inD);(first|exact datV|exact datIv rfl|exact datL|exact datIl rfl|exact datD|exact datId rfl|exact datO|exact datIo rfl);(first|exact datV|exact datIv rfl|exact datL|exact datIl rfl|exact datD|exact datId rfl|exact datO|exact datIo rfl);rfl)|((with_reducible apply i_insK);rfl;(first|exact datV|exact datIv rfl|exact datL|exact datIl rfl|exact datD|exact datId rfl|exact datO|exact datIo rfl))|((with_reducible apply i_useiv);rfl)|((with_reducible apply i_useil);rfl)|((with_reducible apply i_useid);rfl)|((with_reducible apply i_tuplel);(first|exact datV|exact datIv rfl|exact datL|exact datIl rfl|exact datD|exact datId rfl|exact datO|exact datIo rfl))|((with_reducible apply i_tuplet);(first|exact datV|exact datIv rfl|exact datL|exact datIl rfl|exact datD|exact datId rfl|exact datO|exact datIo rfl))|((with_reducible apply i_slcT);(first|exact datV|exact datIv rfl|exact datL|exact datIl rfl|exact datD|exact datId rfl|exact datO|exact datIo rfl))|((with_reducible apply i_slcL);(first|exact datV|exact datIv rfl|exact datL|exact datIl rfl|exact datD|exact datId rfl|exact datO|exact datIo rfl))|((with_reducible apply i_ninD);(first|exact datV|exact datIv rfl|exact datL|exact datIl rfl|exact datD|exact datId rfl|exact datO|exact datIo rfl);(first|exact datV|exact datIv rfl|exact datL|exact datIl rfl|exact datD|exact datId rfl|exact datO|exact datIo rfl);rfl)|((with_reducible apply i_revK);(first|exact datV|exact datIv rfl|exact datL|exact datIl rfl|exact datD|exact datId rfl|exact datO|exact datIo rfl))|((with_reducible first|apply i_sz|apply i_sz15);exact Nat.le_of_ble_eq_true rfl)|exact pl_int|exact pl_str|exact pl_bl|exact pl_non|exact lenA_l|((with_reducible first|apply lenA_h|apply plD_h|apply len_h|apply ins_h);assumption)|((with_reducible apply cpow_h);(unfold CPow; decide))|((with_reducible apply cmul_h);(unfold CMul; first|decide|omega))|(with_reducible first|apply i_itet|apply i_itef)|((with_reducible refine i_itepB ?_ ?_);(first|assumption|rfl))|((with_reducible refine i_itenB ?_ ?_);(first|assumption|rfl))|((with_reducible apply i_ite)<;>intro hif)))
theorem fcs_take (fs : List Fc) (k : Nat) : Vs.cutD (fcsD fs) none (some (k : Int)) = fcsD (fs.take k) := by
  have h1 : HT.sIx (fcsD fs).length 0 none = 0 := rfl
  have h2 : HT.sIx (fcsD fs).length (fcsD fs).length (some (k : Int)) = min k (fcsD fs).length := HT.sIx_nat _ _ _
  unfold Vs.cutD
  rw [h1, h2]
  simp only [List.drop_zero, Nat.sub_zero, fcsD, List.length_map, ← List.map_take]
  congr 1
  rcases Nat.le_total k fs.length with h | h
  · rw [Nat.min_eq_left h]
  · rw [Nat.min_eq_right h, List.take_of_length_le (Nat.le_refl _), List.take_of_length_le h]
theorem Fs.take {fs : List Fc} {n k : Nat} (F : Fs fs n) : Fs (fs.take k) n := ⟨fun f hf => F.a f (List.mem_of_mem_take hf), fun f hf => F.b f (List.mem_of_mem_take hf)⟩
theorem pl_fcs (fs : List Fc) : PlD 20 (.lst (fcsD fs)) := by
  simp only [PlD, fcsD]
  intro x hx
  obtain ⟨e, _, rfl⟩ := List.mem_map.mp hx
  simp [fcD, PlD]
theorem pl_is (is : List Nat) : PlD 20 (.tup (isD is)) := by
  simp only [PlD, isD]
  intro x hx
  obtain ⟨e, _, rfl⟩ := List.mem_map.mp hx
  simp [PlD]
theorem pl_vs (v : List Int) : PlD 20 (.lst (vsD v)) := by
  simp only [PlD, vsD]
  intro x hx
  obtain ⟨e, _, rfl⟩ := List.mem_map.mp hx
  simp [PlD]
theorem ok_is {is : List Nat} (h : is.length ≤ 100000) : okTh (.tup (isD is)) := ok_tup (by simpa [isD] using h) okT_is
section
variable {EA : AX} {ρ ρ' : AEnv} {Q : AK} {DA : AEnds} {g : Gm} [Gok g]
theorem i_setS {p : A} {i : Nat} {nx : AEnv → Prop} (hp : isSt p) (k : nx (ρ.set i (some p))) : setA p ρ i nx := by
  obtain ⟨ns, a, b, c, d, e, rfl, _⟩ := hp
  exact k
/-- one turn -/
theorem turn {p : A} {sc : D} {o2 : Option A} (hp : isSt p) (hN : ∀ p, isSt p → DA.nx [some (.v sc), some p, none, none, none, none, none, none, none, none]) :
    bd_law_1 (S__law_state g) (S__law_draw g) (S__law_size g) (S__law_planted g) (S__law_free g) (S__law_looped g) (S_ring g) (S_solution g) (S__law_keeps g) (S__law_is_closed g) (S_is_ring g) (S__law_refuses g) DA [some (.v sc), some p, o2, none, none, none, none, none, none, none] := by
  unfold bd_law_1
  (repeat' walk_at "vs1")
  refine k_draw rfl hp (by decide) (by decide) fun z1 p z10 z11 hp => ?_
  obtain ⟨n, hn⟩ := nat_of (z := 1 + z1) (by omega)
  (repeat' walk_at "vs1")
  rw [hn]
  refine k_draw rfl hp (by decide) (by decide) fun c p c0 c1 hp => ?_
  (repeat' walk_at "vs1")
  refine kSat rfl (T_size hp) (fun r o q => ?_) (fun _ _ _ h => h.elim)
  obtain ⟨m, p, rfl, hm, hp, rfl⟩ := q
  (simp only [clearA, give, List.set_cons_zero, List.set_cons_succ])
  (repeat' walk_at "vs2")
  with_reducible refine i_seqM (fun ρ => ∃ (p : A) (fs : List Fc), isSt p ∧ fs.length = m ∧ Fs fs n ∧ (c = 0 → ∃ v, keeps v fs) ∧ ρ = [some (.v sc), some p, none, some (.v (.int (n : Nat))), some (.v (.int c)), some (.v (.int (m : Nat))), some (.v (.lst (fcsD fs))), none, none, none]) (fun kk hkk => ?_) ?_
  · (repeat' walk_at "vs1")
    · refine kSat rfl (T_planted (n := n) (m := m) hp (by omega) (by omega)) (fun r o q => ?_) (fun _ _ _ h => h.elim)
      obtain ⟨fs, p, rfl, hl, F, hk, hp, rfl⟩ := q
      (simp only [clearA, give, List.set_cons_zero, List.set_cons_succ])
      (repeat' walk_at "vs1")
      exact hkk _ ⟨p, fs, hp, hl, F, fun _ => hk, rfl⟩
    · have hc : c ≠ 0 := by rw [deq_int] at hif; simpa using hif
      refine kSat rfl (T_free (n := n) (m := m) hp (by omega) (by omega)) (fun r o q => ?_) (fun _ _ _ h => h.elim)
      obtain ⟨fs, p, rfl, hl, F, hp, rfl⟩ := q
      (simp only [clearA, give, List.set_cons_zero, List.set_cons_succ])
      (repeat' walk_at "vs1")
      exact hkk _ ⟨p, fs, hp, hl, F, fun h => absurd h hc, rfl⟩
  clear hp p
  rintro ρ ⟨p, fs0, hp, hl0, F0, hk0, rfl⟩
  with_reducible refine i_seqM (fun ρ => ∃ (p : A) (fs : List Fc), isSt p ∧ fs.length ≤ 80 ∧ Fs fs n ∧ (c = 0 → ∃ v, keeps v fs) ∧ (c = 1 → ∀ v, ¬ keeps v fs) ∧ ρ = [some (.v sc), some p, none, some (.v (.int (n : Nat))), some (.v (.int c)), none, some (.v (.lst (fcsD fs))), none, none, none]) (fun kk hkk => ?_) ?_
  · have e74 := fcs_take fs0 74
    (repeat' walk_at "vs1")
    · have hc : c = 1 := by rw [deq_int] at hif; simpa using hif
      have e74' : Vs.cutD (fcsD fs0) none (some 74) = fcsD (fs0.take 74) := e74
      rw [e74']
      refine kSat rfl (T_looped (n := n) (fs0 := fs0.take 74) hp (by omega) (by simp; omega) F0.take) (fun r o q => ?_) (fun _ _ _ h => h.elim)
      obtain ⟨fs, p, rfl, hl, F, hk, hp, rfl⟩ := q
      (simp only [clearA, give, List.set_cons_zero, List.set_cons_succ])
      (repeat' walk_at "vs1")
      have : (fs0.take 74).length ≤ 74 := by simp; omega
      exact hkk _ ⟨p, fs, hp, by omega, F, fun h => by omega, fun _ => hk, rfl⟩
    · have hc : c ≠ 1 := by rw [deq_int] at hif; simpa using hif
      exact hkk _ ⟨p, fs0, hp, by omega, F0, hk0, fun h => absurd h hc, rfl⟩
  clear hp p hk0 F0 hl0 fs0
  rintro ρ ⟨p, fs, hp, hl, F, hk0, hk1, rfl⟩
  have hit : itemsD (.lst (fcsD fs)) = some (fcsD fs) := rfl
  have nf := ne_self (pl_fcs fs)
  have plf := pl_fcs fs
  have hn1 : 1 ≤ n := by omega
  have hn2 : n ≤ 1000 := by omega
  have e20 : Vs.cutD (fcsD fs) none (some 20) = fcsD (fs.take 20) := fcs_take fs 20
  have hN' := hN
  rcases outcome hn1 F with ⟨v, h1, h2, hv, hk⟩ | ⟨is, h1, h2, hcl⟩
  · have t1 := T_ring (g := g) hn1 hn2 F h1
    have t2 := T_solution (g := g) hn1 hn2 F h2
    have t3 := T_keeps (g := g) hn2 F hv hk
    have nv := ne_self (pl_vs v)
    have plv := pl_vs v
    have pln : PlD 20 .non := by simp [PlD]
    have nn := ne_self pln
    have hc1 : c ≠ 1 := fun h => hk1 h v hk
    have q1 : deq (.bl (Vs.isNon D.non)) (.bl (Vs.isNon (.lst (vsD v)))) = false := rfl
    have q2 : Vs.isNon D.non = true := rfl
    have q5 : (!Vs.isNon D.non) = false := rfl
    have q3 : (!deq (.bl (Vs.isNon D.non)) (.bl (deq (.int 0) (.int 0)))) = false := by rw [deq_int]; rfl
    have hc3 : c = 0 ∨ c = 2 := by omega
    rcases hc3 with rfl | rfl
    all_goals
      (repeat' first|((with_reducible apply kEv);rfl;with_reducible exact t1)|((with_reducible apply kEv);rfl;with_reducible exact t2)|((with_reducible apply kEv);rfl;with_reducible exact t3)|walk_at "vs1")
      rw [e20]
      refine kSat rfl (T_refuses (n := n) (fs := fs.take 20) hp ⟨hn1, hn2⟩ (by simp; omega) F.take) (fun r o q => ?_) (fun _ _ _ h => h.elim)
      obtain ⟨p, rfl, hp, rfl⟩ := q
      (simp only [clearA, give, List.set_cons_zero, List.set_cons_succ])
      (repeat' walk_at "vs1")
      exact hN _ hp
  · have t1 := T_ring (g := g) hn1 hn2 F h1
    have t2 := T_solution (g := g) hn1 hn2 F h2
    have t3 := T_is_closed (g := g) hn2 hcl
    have hlen := hcl.len
    have t4 := T_is_ring (g := g) (fs := fs) (by omega) (ok_is (is := is) (by omega))
    rw [hcl.due] at t4
    have ni := ne_self (pl_is is)
    have pli := pl_is is
    have pln : PlD 20 .non := by simp [PlD]
    have nn := ne_self pln
    have hc1 : c ≠ 0 := fun h => by
      obtain ⟨v, hv⟩ := hk0 h
      have z1 := keeps_ring hv hcl.lt
      rw [hcl.ring] at z1
      cases z1
    have q1 : deq (.bl (Vs.isNon (.tup (isD is)))) (.bl (Vs.isNon D.non)) = false := rfl
    have q2 : Vs.isNon (.tup (isD is)) = false := rfl
    have q5 : (!Vs.isNon (.tup (isD is))) = true := rfl
    have q3 : (!deq (.bl (Vs.isNon (.tup (isD is)))) (.bl (deq (.int 1) (.int 0)))) = false := by rw [deq_int]; rfl
    have q6 : (!decide (true = true)) = false := rfl
    have hc3 : c = 1 ∨ c = 2 := by omega
    rcases hc3 with rfl | rfl
    all_goals
      (repeat' first|((with_reducible apply kEv);rfl;with_reducible exact t1)|((with_reducible apply kEv);rfl;with_reducible exact t2)|((with_reducible apply kEv);rfl;with_reducible exact t3)|((with_reducible apply kEv);rfl;with_reducible exact t4)|walk_at "vs1")
      rw [e20]
      refine kSat rfl (T_refuses (n := n) (fs := fs.take 20) hp ⟨hn1, hn2⟩ (by simp; omega) F.take) (fun r o q => ?_) (fun _ _ _ h => h.elim)
      obtain ⟨p, rfl, hp, rfl⟩ := q
      (simp only [clearA, give, List.set_cons_zero, List.set_cons_succ])
      (repeat' walk_at "vs1")
      exact hN _ hp
theorem T_law {ns : List Int} (hn : ns.length ≤ 63) : Ev (S_law g) [.v (.lst (ns.map .int))] (.v (.bl true)) := by
  refine evI rfl fun DA hR hN => ?_
  show as_law _ _ _ _ _ _ _ _ _ _ _ _ _ [some (.v (.lst (ns.map .int))), none, none, none, none, none, none, none, none, none]
  unfold as_law rs_law_2 rs_law_3
  (repeat' walk_at "vs1")
  refine kVal rfl T_state fun p hp => i_setS hp ?_
  (repeat' walk_at "vs1")
  refine i_rng1 ?_
  (repeat' walk_at "vs1")
  refine k_draw rfl hp (by decide) (by decide) fun z3 p z30 z31 hp => ?_
  obtain ⟨m, hm⟩ := nat_of (z := 1 + z3) (by omega)
  (repeat' walk_at "vs1")
  refine ⟨_, 1 + z3, rfl, rfl, by omega, by omega, ?_⟩
  rw [hm, Int.toNat_natCast]
  refine for_rng0 (fun _ ρ => ∃ p, isSt p ∧ ρ = [some (.v (.lst (ns.map .int))), some p, none, none, none, none, none, none, none, none]) ?_ ?_ ⟨p, hp, rfl⟩
  · rintro _ ⟨p, hp, rfl⟩
    refine ⟨trivial, ?_⟩
    (repeat' walk_at "vs1")
    exact hR _ _ rfl rfl
  · rintro k _ hk ⟨p, hp, rfl⟩ K ih
    refine ⟨trivial, i_agName ?_⟩
    exact turn hp fun p hp => ih _ ⟨p, hp, rfl⟩
end
end Law

set_option Elab.async false
set_option linter.all false
set_option maxRecDepth 100000
set_option maxHeartbeats 0
namespace Law
open PySem PySem.Spec PyProof.Rows L2 Vs
theorem exAt {K : PySem.W.Frag} (h : exK K = true) (i : Nat) {f : PySem.W.Frag → Bool} (hf : exL[i]? = some f := by rfl) : f K = true := List.all_eq_true.mp h f (List.mem_of_getElem? hf)
theorem bnd_none {K : PySem.W.Frag} {fd : FuncData} {ps : List Str} {dvs : List V} (h : ∃ ds, Vals dvs ds ∧ Binds K fd ps ds) (e : dvs = []) : Binds K fd ps [] := by
  obtain ⟨ds, h1, h2⟩ := h
  subst e
  cases h1
  exact h2
theorem repL_ints {K : Fg} {H : Hp} : ∀ ns : List Int, RepL K H (ns.map D.int) (ns.map V.int)
  | [] => by simp only [List.map_nil, RepL]
  | n :: ns => by
    simp only [List.map_cons, RepL, Rep]
    exact ⟨_, _, rfl, rfl, repL_ints ns⟩
def gmL (K : PySem.W.Frag) : Gm := ⟨K, He.ga K "BadFact"⟩
theorem lift_law {K : Fg} {H : Hp} {a : Addr} {ns : List Int} (gk : Gok (gmL K)) (hS : SqL K H a (ns.map V.int)) (hn : ns.length ≤ 63) : lift K (S_law (gmL K)) [.ref a] H (fun v _ => v = .bl true) fun _ _ _ => False := by
  have hr : Rep K H (.lst (ns.map D.int)) (.ref a) := by
    simp only [Rep]
    exact ⟨a, _, rfl, hS, repL_ints ns⟩
  have T := T_law (g := gmL K) hn
  refine ⟨⟨fun _ => none, H, []⟩, H, [.v (.lst (ns.map D.int))], rfl, rfl, ?_, fun _ _ e => e, fun _ _ e => e, T.pre, fun r xs' v H' S' hp _ _ st => ?_, fun C fs xs' dd H' S' he => (T.ex _ _ _ he).elim⟩
  · refine ⟨⟨[], ?_, List.nodup_nil, (fun _ h => nomatch h)⟩, ?_, (fun _ _ h => nomatch h), Le.of_same (fun _ _ e => e), (fun _ _ e => nomatch e), (fun _ h => absurd rfl h), (fun _ _ e => e), (fun _ h => nomatch h)⟩
    · simp [envP, tmpP, RepP, RepA, hr]
    · exact envOk_some (vs := [.ref a]) (xs := [.v (.lst (ns.map D.int))]) rfl fun x hx => by
        have : x = .v (.lst (ns.map D.int)) := by simpa using hx
        subst this
        rfl
  · have e := (T.po _ _ hp).2
    subst e
    obtain ⟨g, hg⟩ := st.held2 (List.mem_cons_self ..) (y := .v (.bl true)) rfl
    simp only [RepA, Rep] at hg
    exact hg.1

theorem facts {P : Program} {w : World} {K : PySem.W.Frag} {h : Heap} {mg : Str → Option Value} {f : Addr} (X : K.In h) (G : h.Ns mainGlobals mg) (hfa : mg ("law" : Str) = some (.ref f)) (cx : He.SaysX faL fnL [] [] exK w h K) (cg : SaysG gtL K) :
    Gok (gmL K) ∧ ∃ fd : FuncData, (∀ (s : Shared) (v : Value), BindsTo s fd ⟨[v], []⟩ [("_law_script", v)]) ∧ ∀ base : Heap, K.In base → base.Ns mainGlobals mg → Fok P w K mg base 7 f fd ["_law_script"] (S_law (gmL K)) := by
  have c := cx.t.d
  have e := hfa.symm.trans (He.glo_ok X G (c.facts (f := .glo "law") (by simp [faL])))
  cases e
  obtain ⟨fd_law, F_law⟩ := c.defs (d := d_law) (by simp [fnL])
  have b := FunD.bindsA (ps := ["_law_script"]) F_law fun _ _ _ _ _ _ us hl => match us, hl with | [_], _ => rfl
  have gk : Gok (gmL K) := ⟨He.exm_ok (c.facts (f := .exm "BadFact" "BadFact" true) (by simp [faL]))⟩
  refine ⟨gk, fd_law, fun s v => b s [v] rfl, fun base _ _ => ?_⟩
  have g_isinstance := He.free_ok X G (c.facts (f := .free "isinstance") (by simp [faL]))
  have g_int := He.free_ok X G (c.facts (f := .free "int") (by simp [faL]))
  have g_bool := He.free_ok X G (c.facts (f := .free "bool") (by simp [faL]))
  have g_enumerate := He.free_ok X G (c.facts (f := .free "enumerate") (by simp [faL]))
  have g_range := He.free_ok X G (c.facts (f := .free "range") (by simp [faL]))
  have g_tuple := He.free_ok X G (c.facts (f := .free "tuple") (by simp [faL]))
  have g_list := He.free_ok X G (c.facts (f := .free "list") (by simp [faL]))
  have g_len := He.free_ok X G (c.facts (f := .free "len") (by simp [faL]))
  have g_all := He.free_ok X G (c.facts (f := .free "all") (by simp [faL]))
  have gc_BadFact := He.glo_ok X G (c.facts (f := .glo "BadFact") (by simp [faL]))
  have ox_BadFact := oexB_ok (exAt cx.more 0)
  obtain ⟨xi1_BadFact, xi2_BadFact, nx_BadFact, xf_BadFact⟩ := oexI_ok (exAt cx.more 1)
  have xm_BadFact := He.exm_ok (c.facts (f := .exm "BadFact" "BadFact" true) (by simp [faL]))
  obtain ⟨fd_BadFact, F_BadFact⟩ := c.defs (d := d_BadFact___init__) (by simp [fnL])
  have ra_BadFact : Rai P w K mg base ("BadFact" : Str) (He.ga K "BadFact") ("at" : Str) 1 := ⟨ox_BadFact, He.glo_ok X G (c.facts (f := .glo "BadFact") (by simp [faL])), _, fd_BadFact, ["self", "at"], xi1_BadFact, xi2_BadFact, FunD.bindsN F_BadFact fun _ _ _ _ _ _ us hl => (match us, hl with | [_, _], _ => rfl), oex_fn F_BadFact ⟨rfl, rfl, rfl, by decide +kernel, rfl, by decide +kernel, by decide +kernel⟩ ox_BadFact nx_BadFact fun _ _ _ _ _ _ => pss_one (ps_ost (pv 0) (pv 1))⟩
  obtain ⟨fd_is_integer, F_is_integer⟩ := c.defs (d := d_is_integer) (by simp [fnL])
  have ok_is_integer : Fok P w K mg base 1 _ fd_is_integer ["value"] (S_is_integer (gmL K)) := wk_is_integer (sp := S_is_integer (gmL K)) g_isinstance g_int g_bool F_is_integer len_S (rd_S cj_is_integer)
  have b_is_integer : Binds K fd_is_integer ["value"] [] := FunD.bindsN F_is_integer fun _ _ _ _ _ _ us hl => (match us, hl with | [_], _ => rfl)
  have c_is_integer : Cal P w K mg base ("is_integer" : Str) 1 ["value"] (S_is_integer (gmL K)) := ⟨_, fd_is_integer, He.glo_ok X G (c.facts (f := .glo "is_integer") (by simp [faL])), F_is_integer.kp, b_is_integer, ok_is_integer⟩
  obtain ⟨fd_relaxed, F_relaxed⟩ := c.defs (d := d_relaxed) (by simp [fnL])
  have ok_relaxed : Fok P w K mg base 1 _ fd_relaxed ["facts", "values", "origins"] (S_relaxed (gmL K)) := wk_relaxed (sp := S_relaxed (gmL K)) g_enumerate F_relaxed len_S (rd_S cj_relaxed)
  have b_relaxed : Binds K fd_relaxed ["facts", "values", "origins"] [] := FunD.bindsN F_relaxed fun _ _ _ _ _ _ us hl => (match us, hl with | [_, _, _], _ => rfl)
  have c_relaxed : Cal P w K mg base ("relaxed" : Str) 1 ["facts", "values", "origins"] (S_relaxed (gmL K)) := ⟨_, fd_relaxed, He.glo_ok X G (c.facts (f := .glo "relaxed") (by simp [faL])), F_relaxed.kp, b_relaxed, ok_relaxed⟩
  obtain ⟨fd_ring_behind, F_ring_behind⟩ := c.defs (d := d_ring_behind) (by simp [fnL])
  have ok_ring_behind : Fok P w K mg base 1 _ fd_ring_behind ["count", "facts", "origins", "lowered"] (S_ring_behind (gmL K)) := wk_ring_behind (sp := S_ring_behind (gmL K)) g_range g_tuple F_ring_behind len_S (rd_S cj_ring_behind)
  have b_ring_behind : Binds K fd_ring_behind ["count", "facts", "origins", "lowered"] [] := FunD.bindsN F_ring_behind fun _ _ _ _ _ _ us hl => (match us, hl with | [_, _, _, _], _ => rfl)
  have c_ring_behind : Cal P w K mg base ("ring_behind" : Str) 1 ["count", "facts", "origins", "lowered"] (S_ring_behind (gmL K)) := ⟨_, fd_ring_behind, He.glo_ok X G (c.facts (f := .glo "ring_behind") (by simp [faL])), F_ring_behind.kp, b_ring_behind, ok_ring_behind⟩
  obtain ⟨fd__law_state, F__law_state⟩ := c.defs (d := d__law_state) (by simp [fnL])
  have ok__law_state : Fok P w K mg base 1 _ fd__law_state ["_law_script"] (S__law_state (gmL K)) := wk__law_state (sp := S__law_state (gmL K)) g_list F__law_state len_S (rd_S cj__law_state)
  have b__law_state : Binds K fd__law_state ["_law_script"] [] := FunD.bindsN F__law_state fun _ _ _ _ _ _ us hl => (match us, hl with | [_], _ => rfl)
  have c__law_state : Cal P w K mg base ("_law_state" : Str) 1 ["_law_script"] (S__law_state (gmL K)) := ⟨_, fd__law_state, He.glo_ok X G (c.facts (f := .glo "_law_state") (by simp [faL])), F__law_state.kp, b__law_state, ok__law_state⟩
  obtain ⟨fd__law_draw, F__law_draw⟩ := c.defs (d := d__law_draw) (by simp [fnL])
  have ok__law_draw : Fok P w K mg base 1 _ fd__law_draw ["_law_state_here", "_law_many"] (S__law_draw (gmL K)) := wk__law_draw (sp := S__law_draw (gmL K)) g_int g_len F__law_draw len_S (rd_S cj__law_draw)
  have b__law_draw : Binds K fd__law_draw ["_law_state_here", "_law_many"] [] := FunD.bindsN F__law_draw fun _ _ _ _ _ _ us hl => (match us, hl with | [_, _], _ => rfl)
  have c__law_draw : Cal P w K mg base ("_law_draw" : Str) 1 ["_law_state_here", "_law_many"] (S__law_draw (gmL K)) := ⟨_, fd__law_draw, He.glo_ok X G (c.facts (f := .glo "_law_draw") (by simp [faL])), F__law_draw.kp, b__law_draw, ok__law_draw⟩
  obtain ⟨fd__law_is_integer, F__law_is_integer⟩ := c.defs (d := d__law_is_integer) (by simp [fnL])
  have ok__law_is_integer : Fok P w K mg base 1 _ fd__law_is_integer ["_law_thing"] (S__law_is_integer (gmL K)) := wk__law_is_integer (sp := S__law_is_integer (gmL K)) g_isinstance g_int g_bool F__law_is_integer len_S (rd_S cj__law_is_integer)
  have b__law_is_integer : Binds K fd__law_is_integer ["_law_thing"] [] := FunD.bindsN F__law_is_integer fun _ _ _ _ _ _ us hl => (match us, hl with | [_], _ => rfl)
  have c__law_is_integer : Cal P w K mg base ("_law_is_integer" : Str) 1 ["_law_thing"] (S__law_is_integer (gmL K)) := ⟨_, fd__law_is_integer, He.glo_ok X G (c.facts (f := .glo "_law_is_integer") (by simp [faL])), F__law_is_integer.kp, b__law_is_integer, ok__law_is_integer⟩
  obtain ⟨fd_is_fact, F_is_fact⟩ := c.defs (d := d_is_fact) (by simp [fnL])
  have ok_is_fact : Fok P w K mg base 2 _ fd_is_fact ["count", "entry"] (S_is_fact (gmL K)) := wk_is_fact (sp := S_is_fact (gmL K)) c_is_integer g_isinstance g_tuple g_len g_all F_is_fact len_S (rd_S cj_is_fact)
  have b_is_fact : Binds K fd_is_fact ["count", "entry"] [] := FunD.bindsN F_is_fact fun _ _ _ _ _ _ us hl => (match us, hl with | [_, _], _ => rfl)
  have c_is_fact : Cal P w K mg base ("is_fact" : Str) 2 ["count", "entry"] (S_is_fact (gmL K)) := ⟨_, fd_is_fact, He.glo_ok X G (c.facts (f := .glo "is_fact") (by simp [faL])), F_is_fact.kp, b_is_fact, ok_is_fact⟩
  obtain ⟨fd_is_ring, F_is_ring⟩ := c.defs (d := d_is_ring) (by simp [fnL])
  have ok_is_ring : Fok P w K mg base 2 _ fd_is_ring ["facts", "thing"] (S_is_ring (gmL K)) := wk_is_ring (sp := S_is_ring (gmL K)) c_is_integer g_isinstance g_tuple g_len F_is_ring len_S (rd_S cj_is_ring)
  have b_is_ring : Binds K fd_is_ring ["facts", "thing"] [] := FunD.bindsN F_is_ring fun _ _ _ _ _ _ us hl => (match us, hl with | [_, _], _ => rfl)
  have c_is_ring : Cal P w K mg base ("is_ring" : Str) 2 ["facts", "thing"] (S_is_ring (gmL K)) := ⟨_, fd_is_ring, He.glo_ok X G (c.facts (f := .glo "is_ring") (by simp [faL])), F_is_ring.kp, b_is_ring, ok_is_ring⟩
  obtain ⟨fd__law_number, F__law_number⟩ := c.defs (d := d__law_number) (by simp [fnL])
  have ok__law_number : Fok P w K mg base 2 _ fd__law_number ["_law_state_here"] (S__law_number (gmL K)) := wk__law_number (sp := S__law_number (gmL K)) c__law_draw F__law_number len_S (rd_S cj__law_number)
  have b__law_number : Binds K fd__law_number ["_law_state_here"] [] := FunD.bindsN F__law_number fun _ _ _ _ _ _ us hl => (match us, hl with | [_], _ => rfl)
  have c__law_number : Cal P w K mg base ("_law_number" : Str) 2 ["_law_state_here"] (S__law_number (gmL K)) := ⟨_, fd__law_number, He.glo_ok X G (c.facts (f := .glo "_law_number") (by simp [faL])), F__law_number.kp, b__law_number, ok__law_number⟩
  obtain ⟨fd__law_strange, F__law_strange⟩ := c.defs (d := d__law_strange) (by simp [fnL])
  have ok__law_strange : Fok P w K mg base 2 _ fd__law_strange ["_law_state_here"] (S__law_strange (gmL K)) := wk__law_strange (sp := S__law_strange (gmL K)) c__law_draw g_range g_isinstance g_list g_tuple g_len F__law_strange len_S (rd_S cj__law_strange)
  have b__law_strange : Binds K fd__law_strange ["_law_state_here"] [] := FunD.bindsN F__law_strange fun _ _ _ _ _ _ us hl => (match us, hl with | [_], _ => rfl)
  have c__law_strange : Cal P w K mg base ("_law_strange" : Str) 2 ["_law_state_here"] (S__law_strange (gmL K)) := ⟨_, fd__law_strange, He.glo_ok X G (c.facts (f := .glo "_law_strange") (by simp [faL])), F__law_strange.kp, b__law_strange, ok__law_strange⟩
  obtain ⟨fd__law_size, F__law_size⟩ := c.defs (d := d__law_size) (by simp [fnL])
  have ok__law_size : Fok P w K mg base 2 _ fd__law_size ["_law_state_here"] (S__law_size (gmL K)) := wk__law_size (sp := S__law_size (gmL K)) c__law_draw F__law_size len_S (rd_S cj__law_size)
  have b__law_size : Binds K fd__law_size ["_law_state_here"] [] := FunD.bindsN F__law_size fun _ _ _ _ _ _ us hl => (match us, hl with | [_], _ => rfl)
  have c__law_size : Cal P w K mg base ("_law_size" : Str) 2 ["_law_state_here"] (S__law_size (gmL K)) := ⟨_, fd__law_size, He.glo_ok X G (c.facts (f := .glo "_law_size") (by simp [faL])), F__law_size.kp, b__law_size, ok__law_size⟩
  obtain ⟨fd__law_is_closed, F__law_is_closed⟩ := c.defs (d := d__law_is_closed) (by simp [fnL])
  have ok__law_is_closed : Fok P w K mg base 2 _ fd__law_is_closed ["_law_facts", "_law_found"] (S__law_is_closed (gmL K)) := wk__law_is_closed (sp := S__law_is_closed (gmL K)) c__law_is_integer g_isinstance g_tuple g_len g_range F__law_is_closed len_S (rd_S cj__law_is_closed)
  have b__law_is_closed : Binds K fd__law_is_closed ["_law_facts", "_law_found"] [] := FunD.bindsN F__law_is_closed fun _ _ _ _ _ _ us hl => (match us, hl with | [_, _], _ => rfl)
  have c__law_is_closed : Cal P w K mg base ("_law_is_closed" : Str) 2 ["_law_facts", "_law_found"] (S__law_is_closed (gmL K)) := ⟨_, fd__law_is_closed, He.glo_ok X G (c.facts (f := .glo "_law_is_closed") (by simp [faL])), F__law_is_closed.kp, b__law_is_closed, ok__law_is_closed⟩
  obtain ⟨fd__law_keeps, F__law_keeps⟩ := c.defs (d := d__law_keeps) (by simp [fnL])
  have ok__law_keeps : Fok P w K mg base 2 _ fd__law_keeps ["_law_count", "_law_facts", "_law_found"] (S__law_keeps (gmL K)) := wk__law_keeps (sp := S__law_keeps (gmL K)) c__law_is_integer g_isinstance g_list g_len g_all F__law_keeps len_S (rd_S cj__law_keeps)
  have b__law_keeps : Binds K fd__law_keeps ["_law_count", "_law_facts", "_law_found"] [] := FunD.bindsN F__law_keeps fun _ _ _ _ _ _ us hl => (match us, hl with | [_, _, _], _ => rfl)
  have c__law_keeps : Cal P w K mg base ("_law_keeps" : Str) 2 ["_law_count", "_law_facts", "_law_found"] (S__law_keeps (gmL K)) := ⟨_, fd__law_keeps, He.glo_ok X G (c.facts (f := .glo "_law_keeps") (by simp [faL])), F__law_keeps.kp, b__law_keeps, ok__law_keeps⟩
  obtain ⟨fd__law_is_fact, F__law_is_fact⟩ := c.defs (d := d__law_is_fact) (by simp [fnL])
  have ok__law_is_fact : Fok P w K mg base 2 _ fd__law_is_fact ["_law_count", "_law_thing"] (S__law_is_fact (gmL K)) := wk__law_is_fact (sp := S__law_is_fact (gmL K)) c__law_is_integer g_isinstance g_tuple g_len g_all F__law_is_fact len_S (rd_S cj__law_is_fact)
  have b__law_is_fact : Binds K fd__law_is_fact ["_law_count", "_law_thing"] [] := FunD.bindsN F__law_is_fact fun _ _ _ _ _ _ us hl => (match us, hl with | [_, _], _ => rfl)
  have c__law_is_fact : Cal P w K mg base ("_law_is_fact" : Str) 2 ["_law_count", "_law_thing"] (S__law_is_fact (gmL K)) := ⟨_, fd__law_is_fact, He.glo_ok X G (c.facts (f := .glo "_law_is_fact") (by simp [faL])), F__law_is_fact.kp, b__law_is_fact, ok__law_is_fact⟩
  obtain ⟨fd_check_facts, F_check_facts⟩ := c.defs (d := d_check_facts) (by simp [fnL])
  have ok_check_facts : Fok P w K mg base 3 _ fd_check_facts ["count", "facts"] (S_check_facts (gmL K)) := wk_check_facts (sp := S_check_facts (gmL K)) c_is_fact ra_BadFact g_enumerate F_check_facts len_S (rd_S cj_check_facts)
  have b_check_facts : Binds K fd_check_facts ["count", "facts"] [] := FunD.bindsN F_check_facts fun _ _ _ _ _ _ us hl => (match us, hl with | [_, _], _ => rfl)
  have c_check_facts : Cal P w K mg base ("check_facts" : Str) 3 ["count", "facts"] (S_check_facts (gmL K)) := ⟨_, fd_check_facts, He.glo_ok X G (c.facts (f := .glo "check_facts") (by simp [faL])), F_check_facts.kp, b_check_facts, ok_check_facts⟩
  obtain ⟨fd__law_amount, F__law_amount⟩ := c.defs (d := d__law_amount) (by simp [fnL])
  have ok__law_amount : Fok P w K mg base 3 _ fd__law_amount ["_law_state_here"] (S__law_amount (gmL K)) := wk__law_amount (sp := S__law_amount (gmL K)) c__law_draw c__law_number F__law_amount len_S (rd_S cj__law_amount)
  have b__law_amount : Binds K fd__law_amount ["_law_state_here"] [] := FunD.bindsN F__law_amount fun _ _ _ _ _ _ us hl => (match us, hl with | [_], _ => rfl)
  have c__law_amount : Cal P w K mg base ("_law_amount" : Str) 3 ["_law_state_here"] (S__law_amount (gmL K)) := ⟨_, fd__law_amount, He.glo_ok X G (c.facts (f := .glo "_law_amount") (by simp [faL])), F__law_amount.kp, b__law_amount, ok__law_amount⟩
  obtain ⟨fd__law_planted, F__law_planted⟩ := c.defs (d := d__law_planted) (by simp [fnL])
  have ok__law_planted : Fok P w K mg base 3 _ fd__law_planted ["_law_state_here", "_law_count", "_law_many"] (S__law_planted (gmL K)) := wk__law_planted (sp := S__law_planted (gmL K)) c__law_number c__law_draw g_range F__law_planted len_S (rd_S cj__law_planted)
  have b__law_planted : Binds K fd__law_planted ["_law_state_here", "_law_count", "_law_many"] [] := FunD.bindsN F__law_planted fun _ _ _ _ _ _ us hl => (match us, hl with | [_, _, _], _ => rfl)
  have c__law_planted : Cal P w K mg base ("_law_planted" : Str) 3 ["_law_state_here", "_law_count", "_law_many"] (S__law_planted (gmL K)) := ⟨_, fd__law_planted, He.glo_ok X G (c.facts (f := .glo "_law_planted") (by simp [faL])), F__law_planted.kp, b__law_planted, ok__law_planted⟩
  obtain ⟨fd__law_bad, F__law_bad⟩ := c.defs (d := d__law_bad) (by simp [fnL])
  have ok__law_bad : Fok P w K mg base 3 _ fd__law_bad ["_law_state_here", "_law_count"] (S__law_bad (gmL K)) := wk__law_bad (sp := S__law_bad (gmL K)) c__law_draw c__law_strange g_len F__law_bad len_S (rd_S cj__law_bad)
  have b__law_bad : Binds K fd__law_bad ["_law_state_here", "_law_count"] [] := FunD.bindsN F__law_bad fun _ _ _ _ _ _ us hl => (match us, hl with | [_, _], _ => rfl)
  have c__law_bad : Cal P w K mg base ("_law_bad" : Str) 3 ["_law_state_here", "_law_count"] (S__law_bad (gmL K)) := ⟨_, fd__law_bad, He.glo_ok X G (c.facts (f := .glo "_law_bad") (by simp [faL])), F__law_bad.kp, b__law_bad, ok__law_bad⟩
  obtain ⟨fd_ring, F_ring⟩ := c.defs (d := d_ring) (by simp [fnL])
  have ok_ring : Fok P w K mg base 4 _ fd_ring ["count", "facts"] (S_ring (gmL K)) := wk_ring (sp := S_ring (gmL K)) c_check_facts c_relaxed c_ring_behind g_range F_ring len_S (rd_S cj_ring)
  have b_ring : Binds K fd_ring ["count", "facts"] [] := FunD.bindsN F_ring fun _ _ _ _ _ _ us hl => (match us, hl with | [_, _], _ => rfl)
  have c_ring : Cal P w K mg base ("ring" : Str) 4 ["count", "facts"] (S_ring (gmL K)) := ⟨_, fd_ring, He.glo_ok X G (c.facts (f := .glo "ring") (by simp [faL])), F_ring.kp, b_ring, ok_ring⟩
  obtain ⟨fd_solution, F_solution⟩ := c.defs (d := d_solution) (by simp [fnL])
  have ok_solution : Fok P w K mg base 4 _ fd_solution ["count", "facts"] (S_solution (gmL K)) := wk_solution (sp := S_solution (gmL K)) c_check_facts c_relaxed g_range F_solution len_S (rd_S cj_solution)
  have b_solution : Binds K fd_solution ["count", "facts"] [] := FunD.bindsN F_solution fun _ _ _ _ _ _ us hl => (match us, hl with | [_, _], _ => rfl)
  have c_solution : Cal P w K mg base ("solution" : Str) 4 ["count", "facts"] (S_solution (gmL K)) := ⟨_, fd_solution, He.glo_ok X G (c.facts (f := .glo "solution") (by simp [faL])), F_solution.kp, b_solution, ok_solution⟩
  obtain ⟨fd__law_free, F__law_free⟩ := c.defs (d := d__law_free) (by simp [fnL])
  have ok__law_free : Fok P w K mg base 4 _ fd__law_free ["_law_state_here", "_law_count", "_law_many"] (S__law_free (gmL K)) := wk__law_free (sp := S__law_free (gmL K)) c__law_draw c__law_amount g_range F__law_free len_S (rd_S cj__law_free)
  have b__law_free : Binds K fd__law_free ["_law_state_here", "_law_count", "_law_many"] [] := FunD.bindsN F__law_free fun _ _ _ _ _ _ us hl => (match us, hl with | [_, _, _], _ => rfl)
  have c__law_free : Cal P w K mg base ("_law_free" : Str) 4 ["_law_state_here", "_law_count", "_law_many"] (S__law_free (gmL K)) := ⟨_, fd__law_free, He.glo_ok X G (c.facts (f := .glo "_law_free") (by simp [faL])), F__law_free.kp, b__law_free, ok__law_free⟩
  obtain ⟨fd__law_looped, F__law_looped⟩ := c.defs (d := d__law_looped) (by simp [fnL])
  have ok__law_looped : Fok P w K mg base 4 _ fd__law_looped ["_law_state_here", "_law_count", "_law_facts"] (S__law_looped (gmL K)) := wk__law_looped (sp := S__law_looped (gmL K)) c__law_draw c__law_amount g_range g_list g_len F__law_looped len_S (rd_S cj__law_looped)
  have b__law_looped : Binds K fd__law_looped ["_law_state_here", "_law_count", "_law_facts"] [] := FunD.bindsN F__law_looped fun _ _ _ _ _ _ us hl => (match us, hl with | [_, _, _], _ => rfl)
  have c__law_looped : Cal P w K mg base ("_law_looped" : Str) 4 ["_law_state_here", "_law_count", "_law_facts"] (S__law_looped (gmL K)) := ⟨_, fd__law_looped, He.glo_ok X G (c.facts (f := .glo "_law_looped") (by simp [faL])), F__law_looped.kp, b__law_looped, ok__law_looped⟩
  obtain ⟨fd__law_refused, F__law_refused⟩ := c.defs (d := d__law_refused) (by simp [fnL])
  have ok__law_refused : Fok P w K mg base 5 _ fd__law_refused ["_law_count", "_law_facts"] (S__law_refused (gmL K)) := wk__law_refused (sp := S__law_refused (gmL K)) c_ring c_solution xf_BadFact nx_BadFact gc_BadFact F__law_refused len_S (rd_S cj__law_refused)
  have b__law_refused : Binds K fd__law_refused ["_law_count", "_law_facts"] [] := FunD.bindsN F__law_refused fun _ _ _ _ _ _ us hl => (match us, hl with | [_, _], _ => rfl)
  have c__law_refused : Cal P w K mg base ("_law_refused" : Str) 5 ["_law_count", "_law_facts"] (S__law_refused (gmL K)) := ⟨_, fd__law_refused, He.glo_ok X G (c.facts (f := .glo "_law_refused") (by simp [faL])), F__law_refused.kp, b__law_refused, ok__law_refused⟩
  obtain ⟨fd__law_refuses, F__law_refuses⟩ := c.defs (d := d__law_refuses) (by simp [fnL])
  have ok__law_refuses : Fok P w K mg base 6 _ fd__law_refuses ["_law_state_here", "_law_count", "_law_facts"] (S__law_refuses (gmL K)) := wk__law_refuses (sp := S__law_refuses (gmL K)) c__law_draw c__law_bad c__law_is_fact c__law_refused g_list g_range g_len F__law_refuses len_S (rd_S cj__law_refuses)
  have b__law_refuses : Binds K fd__law_refuses ["_law_state_here", "_law_count", "_law_facts"] [] := FunD.bindsN F__law_refuses fun _ _ _ _ _ _ us hl => (match us, hl with | [_, _, _], _ => rfl)
  have c__law_refuses : Cal P w K mg base ("_law_refuses" : Str) 6 ["_law_state_here", "_law_count", "_law_facts"] (S__law_refuses (gmL K)) := ⟨_, fd__law_refuses, He.glo_ok X G (c.facts (f := .glo "_law_refuses") (by simp [faL])), F__law_refuses.kp, b__law_refuses, ok__law_refuses⟩
  exact wk_law (sp := S_law (gmL K)) c__law_state c__law_draw c__law_size c__law_planted c__law_free c__law_looped c_ring c_solution c__law_keeps c__law_is_closed c_is_ring c__law_refuses g_range g_list F_law len_S (rd_S cj_law)
theorem walk_w {l : PySem.W.OpenLaw} {n k : Nat} {q : Program} {loose : List Str} {XP : (Str → Option Value) → Heap → Prop} {YP : World → Heap → Prop} {d : DefRec} {x : Str}
    (h1 : l.most = some n) (h2 : n ≤ sizeLine) (h3 : d.params.defaults = []) (hr : Room k callerA)
    (F : ∀ (w : World) (mg : Str → Option Value) (ad : Addr) (h : Heap), YP w h → h.Ns mainGlobals mg → mg d.name = some (.ref ad) → ∃ (K : PySem.W.Frag) (fd : FuncData) (sp : Sp), K.In h ∧ (∀ (s : Shared) (u : Value), BindsTo s fd ⟨[u], []⟩ [(x, u)]) ∧
        (∀ (H : Hp) (a : Addr) (ns : List Int), ns.length ≤ n → SqL K H a (ns.map V.int) → sp [.ref a] H (fun v _ => v = .bl true) fun _ _ _ => False) ∧ ∀ base : Heap, K.In base → base.Ns mainGlobals mg → FnOk l.prog w K mg base (L2.CX l.prog w) k ad fd [x] sp) :
    PySem.W.WalkO q loose XP YP l.row.toRowW d [] (fun f vs => PySem.call f vs) := by
  refine Att.attach_call h1 h3 ?_
  intro w sa sb mg mb ad o pm cd doc a vs ns G Y ho hd hc hm hb hi hl hg
  obtain ⟨K, fd, sp, KX, hbd, hsp, hF⟩ := F w mg ad _ Y G.T.g hm
  exact law_call KX G.T.g G.T.b G.T.builtins G.T.nolimit hg hb hi (Nat.le_trans hl h2) hr hF hbd (fun H _ hS => hsp H a ns hl hS) fun H e s' z => cx_false _ _ _ _ _ z
end Law
open PySem PySem.W PySem.Calls PyProof.Rows
theorem PySem.Challenge.cw_asofhall_k20_rings_or_solutions_holds : PySem.Challenge.rw_asofhall_k20_rings_or_solutions.Holds := by
  w_on; o_law
  refine HandSHeadRun.head_any (r := OpenLaw.row PySem.Challenge.rw_asofhall_k20_rings_or_solutions) (q := view (OpenLaw.row PySem.Challenge.rw_asofhall_k20_rings_or_solutions).prog [30]) (H := Law.hkL) (ob := Law.obL) (M := 4000) (loose := Law.looseL) (d := HandSHeadRun.topDef (OpenLaw.row PySem.Challenge.rw_asofhall_k20_rings_or_solutions).prog 30) (kwd := []) Law.ob_eqL
    (by kernel_rfl) (fun s => by kernel_rfl) Law.runL (by kernel_rfl) (by kernel_rfl) (by kernel_rfl) (by rfl) (by first | assumption | decide +kernel) (by decide +kernel) ⟨rfl, rfl, rfl, rfl, rfl, by decide +kernel⟩ ?hw ?hc
  case hw => w_witness2
  case hc =>
    refine Law.walk_w (l := PySem.Challenge.rw_asofhall_k20_rings_or_solutions) (n := 63) (k := 7) (x := "_law_script") rfl (by decide) (by kernel_rfl) ⟨rfl, by decide, by decide⟩ ?F
    intro w mg fa h Y G hmg0
    obtain ⟨K, KX, c, cg⟩ := Y
    have hmg : mg ("law" : PySem.Str) = some (.ref fa) := by
      have e : (HandSHeadRun.topDef (OpenLaw.row PySem.Challenge.rw_asofhall_k20_rings_or_solutions).prog 30).name = ("law" : PySem.Str) := by kernel_rfl
      rw [← e]
      exact hmg0
    obtain ⟨gk, fd, hb, hF⟩ := Law.facts (P := (PySem.Challenge.rw_asofhall_k20_rings_or_solutions).prog) (w := w) KX G hmg c cg
    exact ⟨K, fd, Vs.lift K (Law.S_law (Law.gmL K)), KX, hb, fun H a ns hl hS => Law.lift_law gk hS hl, hF⟩
