import PyProof.Rows.All
import Wide.All
import OpenK.AllK
import Wide.FinOn
import HandS.ExcField
import HandS.ExcInit
import HandS.ForMost
import HandS.ForExc
import HandS.Defaults
import HandS.IsInst
import HandS.Property
import HandS.Head0
import HandS.Head1
import HandS.Head2
import HandS.HeadEnd
import HandS.HeadHook1
import HandS.HeadHook2
import HandS.HeadHook3
import HandS.HeadHook4
import KE.KSuper
import PySem.Challenge.RW_asofhall_k77_lines_written
import HandS.EndTab
import HandS.Lambda
import HandS.Small
import HandS.Conv
import KE.DataEq
import KE.DataCmp
import KE.SortData
import HandS.TupAny
import HandS.CallSlots
import HandS.More
import HandS.Wide
import HandS.DictComp
import HandS.OwnEq
import HandS.Iter
import KE.GoesEnum
import KE.KEqNest
import HandS.ListItems
import KE.KDictList
import HandS.SetBool
import HandS.Style
import HandS.TupMul
import HandS.ExcIs
import KE.SortKeyHeap
import KE.KSortKey
import HandS.SortKw
import HandS.Star
import HandS.TryOnly
import HandS.SetFor
import HandS.Strs
import HandS.List
import HandS.Call
import PyProof.SeqRoads2
import HandS.Nested
import HandS.ClsMeth
import KE.KOpsOwn
import KE.DataMinMax
import HandS.Text
import HandS.Rev
import HandS.Zip
import HandS.SetKeys
import KE.KDictOf
import HandS.ExcInitHot
import HandS.RaiseMore
import PyProof.Rows.StrMul
import KE.KIntText
import PyProof.Rows.StrOr
set_option Elab.async false
set_option linter.all false
set_option maxRecDepth 100000
set_option maxHeartbeats 1000000
namespace Vs
open PySem PySem.Spec PyProof.Rows L2
def Oz (K : PySem.W.Frag) (C : Addr) : Bool:=(match K.lookup C with
  | some ⟨.type "type",_,.cls cd,sl⟩=>(match cd.mro,sl.toList with
    | .ref C' :: bm,[_,_,_,_,some (.builtin n),_]=>C' == C && n == "ValueError.__new__" && !cd.hasDel && cd.hasDict && PySem.HandSPX.refsVE bm
    | _,_=>false)
  | _=>false) && (He.eqO (PySem.W.findIn K (.ref C) "__setattr__") (some (some (.builtin "object.__setattr__"))) && (decide (PySem.W.subIn K (.ref C) (.type "BaseException") = some true) && (decide (PySem.W.typeIn K (.ref C) = some (.type "type")) && PySem.W.keepIn K (.ref C))))
def M6 (K : PySem.W.Frag) (C : Addr) (f : Str) : Bool:=He.eqO (PySem.W.findIn K (.ref C) "__init__") (some (some (.ref (He.ma K C "__init__")))) && (decide (PySem.W.typeIn K (.ref (He.ma K C "__init__")) = some (.type "function")) && (He.eqO (PySem.W.findIn K (.ref C) f) (some none) && xfB K C))
def G7 (K : PySem.W.Frag) (C : Addr) : Bool:=He.eqO (PySem.W.findIn K (.ref C) "__class__") (some (some (.builtin "object.__class__"))) && (He.eqO (PySem.W.specialIn K (.builtin "object.__class__") "__get__") (some (some (.builtin "getset_descriptor.__get__"))) && (decide (PySem.W.takesIn K (.builtin "object.__class__") = some true) && decide (PySem.W.mroIn K C (.type "object") = some true)))
def JK3 (K : PySem.W.Frag) (C : Addr) (m : Str) : Bool:=He.eqO (PySem.W.findIn K (.ref C) m) (some (some (.ref (He.ma K C m)))) && PySem.W.isFn K (.ref (He.ma K C m))
def neB (K : PySem.W.Frag) (C : Addr) : Bool:=He.eqO (PySem.W.findIn K (.ref C) "__ne__") (some (some (.builtin "object.__ne__"))) && decide (PySem.W.mroIn K C (.type "object") = some true)
def Vi (K : PySem.W.Frag) (t u : Value) (b : Bool) : Bool:=decide (PySem.W.kitOne K t u = some b)
structure GetD where
  cls : Str
  prop : Str
  d : He.DefD
section
variable {K : PySem.W.Frag} {g : GetD}
def GetD.p (K : PySem.W.Frag) (g : GetD) : Addr:=He.ma K (He.ga K g.cls) g.prop
def GetD.adr (K : PySem.W.Frag) (g : GetD) : Addr:=match PySem.W.recIn K (g.p K) "property" with
  | some (.ref a :: _)=>a
  | _=>0
def Gf (K : PySem.W.Frag) (a : Addr) : He.FnW:=match K.lookup a with
  | some ⟨_,_,.func f,_⟩=>some (f.name,f.qualname,f.params,f.body,f.scope,f.globals,f.closure,f.builtins)
  | _=>none
def Rf (K : PySem.W.Frag) (p : Addr) : Bool:=match PySem.W.recIn K p "property" with
  | some (.ref _ :: _)=>true
  | _=>false
def Py (K : PySem.W.Frag) (a : Addr) (q : Str) : Bool:=match K.lookup a with
  | some ⟨_,_,.func f,_⟩=>PySem.W.codeIn K f.code q && (He.dflB K f.defaults [] && He.kwdB K f.kwdefaults [])
  | _=>false
def GetD.ok (K : PySem.W.Frag) (g : GetD) : Bool:=He.eqO (PySem.W.findIn K (.ref (He.ga K g.cls)) g.prop) (some (some (.ref (g.p K)))) && (He.eqO (PySem.W.specialIn K (.ref (g.p K)) "__get__") (some (some (.builtin "property.__get__"))) && (decide (PySem.W.takesIn K (.ref (g.p K)) = some true) && (Rf K (g.p K) && (PySem.W.keepIn K (.ref (g.adr K)) && Py K (g.adr K) g.d.qual))))
theorem GetD.says (e : Gf K (g.adr K) = g.d.val) (c : g.ok K = true) : PropOf K (He.ga K g.cls) g.prop (g.p K) (g.adr K) ∧ ∃ fd,FunD K g.d.name g.d.qual g.d.params g.d.body g.d.scope [] [] (g.adr K) fd:=by
  obtain ⟨c1,c⟩:=He.ba c
  obtain ⟨c2,c⟩:=He.ba c
  obtain ⟨c3,c⟩:=He.ba c
  obtain ⟨c4,c⟩:=He.ba c
  obtain ⟨c5,c6⟩:=He.ba c
  refine ⟨⟨He.eqO_ok c1,He.eqO_ok c2,of_decide_eq_true c3,?_⟩,?_⟩
  · unfold Rf at c4
    split at c4
    · rename_i a r hr
      refine ⟨r,?_⟩
      have : g.adr K = a:=by unfold GetD.adr; rw [hr]
      rw [this]
      exact hr
    · cases c4
  · unfold Gf at e
    unfold Py at c6
    cases hl : K.lookup (g.adr K) with
    | none=>rw [hl] at c6; cases c6
    | some o =>
      obtain ⟨oc,od,dt,sl⟩:=o
      rw [hl] at c6 e
      cases dt with
      | func f =>
        obtain ⟨x1,x2,x3,x4,x5,x6,x7,x8,x9,y10,y11,y12,y13,y14,y15⟩:=f
        have e2 : (some (x1,x2,x3,x4,x5,x6,x7,y15) : He.FnW) = some (g.d.name,g.d.qual,g.d.params,.stmts g.d.body,g.d.scope,mainGlobals,[],builtinsNs):=e
        simp only [Option.some.injEq,Prod.mk.injEq] at e2
        obtain ⟨rfl,rfl,rfl,rfl,rfl,rfl,rfl,rfl⟩:=e2
        obtain ⟨k1,k2⟩:=He.ba (show (PySem.W.codeIn K y13 g.d.qual && (He.dflB K x8 [] && He.kwdB K x9 [])) = true from c6)
        obtain ⟨k3,k4⟩:=He.ba k2
        exact ⟨_,⟨oc,od,x8,x9,y10,y11,y12,y13,y14,sl,rfl,hl,k1,He.dflB_ok k3,He.kwdB_ok k4⟩,c5⟩
      | _=>cases c6
def obsG (gs : List GetD) (K : PySem.W.Frag) : Bool × List He.FnW:=(gs.all fun g=>g.ok K,gs.map fun g=>Gf K (g.adr K))
def Bl (gs : List GetD) : Bool × List He.FnW:=(true,gs.map fun g=>g.d.val)
def SaysG (gs : List GetD) (K : PySem.W.Frag) : Prop:=obsG gs K = Bl gs
theorem SaysG.get {gs : List GetD} (s : SaysG gs K) (i : Nat) {g : GetD} (h : gs[i]? = some g:=by rfl) : PropOf K (He.ga K g.cls) g.prop (g.p K) (g.adr K) ∧ ∃ fd,FunD K g.d.name g.d.qual g.d.params g.d.body g.d.scope [] [] (g.adr K) fd:=by
  have e1 : (gs.all fun g=>g.ok K) = true:=congrArg (·.1) s
  have e2 : (gs.map fun g=>Gf K (g.adr K)) = gs.map fun g=>g.d.val:=congrArg (·.2) s
  refine GetD.says ?_ (List.all_eq_true.mp e1 g (List.mem_of_getElem? h))
  have e3 : (gs.map fun g=>Gf K (g.adr K))[i]? = (gs.map fun g=>g.d.val)[i]?:=by rw [e2]
  rw [List.getElem?_map,List.getElem?_map,h] at e3
  exact Option.some.inj e3
end
theorem FunD.code {K : PySem.W.Frag} {x qual : Str} {params : Arguments} {body : List Stmt} {scope : Scope} {dvs : List V} {kws : List (Str × V)} {p : He.Defn} {fd : FuncData} (F : FunD K x qual params body scope dvs kws (He.fAd K p) fd) : fd.code = .ref (He.cT K p).1:=by
  obtain ⟨oc,od,dV,kV,doc,pm,an,cdv,ct,osl,rfl,lk,hcd,_,_⟩:=F.ex
  obtain ⟨c,rfl⟩:=He.codeIn_ref hcd
  have e:=He.codeOf_eq (c:=c) lk rfl
  show Value.ref c = Value.ref (He.codeOf K p)
  rw [e]
end Vs
namespace Vs
open PySem PySem.Spec PyProof.Rows L2
/-- a def of the module that closes over its class D -/
structure SupD (Pr : Program) (K : PySem.W.Frag) (x qual : Str) (params : Arguments) (body : List Stmt) (scope : Scope) (D f c cc : Addr) (fd : FuncData) : Prop where
  ex : ∃ oc od kV doc pm an ct osl,fd = PySem.W.fnX x qual params body scope [("__class__",cc)] .none kV doc pm an (.ref c) ct ∧ K.lookup f = some ⟨oc,od,.func fd,osl⟩
  code : PySem.W.codeIn K (.ref c) qual = true
  cell : ∃ cl cld csl,K.lookup cc = some ⟨cl,cld,.cell (some (.ref D)),csl⟩
  file : ∃ ccl cdd vs ccs file tf,K.lookup c = some ⟨ccl,cdd,.fields vs,ccs⟩ ∧ vs[2]? = some (.str file tf) ∧ ((Pr.main.file : Str) == file) = true
  cls : ∃ cd,PySem.W.clsIn K D = some cd
  top : (Pr.main.scope.names.lookup ("super" : Str)).isSome = false
  opq : PySem.W.nsIn K cStatics "thirdparty.any" = some none
  kp : PySem.W.keepIn K (.ref f) = true
abbrev FnS : Type:=Option (Str × Str × Arguments × FuncBody × Scope × Addr × List Str × Addr)
def Fc (K : PySem.W.Frag) (p : Str × Option Str) : FnS:=match K.lookup (He.fAd K p) with
  | some ⟨_,_,.func fd,_⟩=>some (fd.name,fd.qualname,fd.params,fd.body,fd.scope,fd.globals,fd.closure.map (·.1),fd.builtins)
  | _=>none
def Ku (d : He.DefD) : FnS:=some (d.name,d.qual,d.params,FuncBody.stmts d.body,d.scope,mainGlobals,["__class__"],builtinsNs)
def Nd (K : PySem.W.Frag) (cc D : Addr) : Bool:=match K.lookup cc with
  | some ⟨_,_,.cell (some (.ref E)),_⟩=>decide (E = D)
  | _=>false
def Om (K : PySem.W.Frag) (file : Str) (c : Addr) : Bool:=match K.lookup c with
  | some ⟨_,_,.fields vs,_⟩=>(match (vs : Array Value)[2]? with
    | some (Value.str x _)=>file == x
    | _=>false)
  | _=>false
def Oo (v : Value) : Bool:=match v with
  | .none=>true
  | _=>false
def Mo (file : Str) (K : PySem.W.Frag) (d : He.DefD) : Bool:=(match K.lookup (He.fAd K d.at_) with
  | some ⟨_,_,.func fd,_⟩=>(match fd.code,fd.closure with
    | .ref c,[(_,cc)]=>PySem.W.codeIn K (.ref c) d.qual && (Nd K cc (He.ga K d.at_.1) && (Om K file c && Oo fd.defaults))
    | _,_=>false)
  | _=>false) && ((PySem.W.clsIn K (He.ga K d.at_.1)).isSome && (He.eqO (PySem.W.nsIn K cStatics "thirdparty.any") (some none) && PySem.W.keepIn K (.ref (He.fAd K d.at_))))
theorem JM5 {Pr : Program} {K : PySem.W.Frag} {d : He.DefD} {file : Str} (e : Fc K d.at_ = Ku d) (h : Mo file K d = true) (hf : (Pr.main.file : Str) = file) (ht : (Pr.main.scope.names.lookup ("super" : Str)).isSome = false) :
    ∃ c cc fd,SupD Pr K d.name d.qual d.params d.body d.scope (He.ga K d.at_.1) (He.fAd K d.at_) c cc fd:=by
  obtain ⟨h1,h2⟩:=He.ba h
  obtain ⟨h3,h4⟩:=He.ba h2
  obtain ⟨h5,h6⟩:=He.ba h4
  unfold Fc at e
  cases q : K.lookup (He.fAd K d.at_) with
  | none=>rw [q] at e; cases e
  | some o =>
    obtain ⟨oc,od,dt,osl⟩:=o
    rw [q] at e h1
    cases dt with
    | func fd =>
      obtain ⟨n1,n2,n3,n4,n5,n6,n7,n8,n9,n10,n11,n12,n13,n14,n15⟩:=fd
      have e2 : (some (n1,n2,n3,n4,n5,n6,n7.map (·.1),n15) : FnS) = some (d.name,d.qual,d.params,FuncBody.stmts d.body,d.scope,mainGlobals,[("__class__" : Str)],builtinsNs):=e
      simp only [Option.some.injEq,Prod.mk.injEq] at e2
      obtain ⟨k1,k2,k3,k4,k5,k6,k7,k8⟩:=e2
      subst k1 k2 k3 k4 k5 k6 k8
      match n13,n7,k7,h1 with
      | .ref c,[(nm,cc)],k7,h1 =>
        have en : nm = "__class__":=by simpa using k7
        subst en
        obtain ⟨g1,g2⟩:=He.ba (show (PySem.W.codeIn K (.ref c) d.qual && (Nd K cc (He.ga K d.at_.1) && (Om K file c && Oo n8))) = true from h1)
        obtain ⟨g3,g4⟩:=He.ba g2
        obtain ⟨g5,g6⟩:=He.ba g4
        have e8 : n8 = .none:=by
          unfold Oo at g6
          split at g6
          · rfl
          · cases g6
        subst e8
        refine ⟨c,cc,_,⟨oc,od,n9,n10,n11,n12,n14,osl,rfl,q⟩,g1,?_,?_,Option.isSome_iff_exists.mp h3,ht,He.eqO_ok h5,h6⟩
        · unfold Nd at g3
          split at g3
          · rename_i cl cld E csl hl
            rw [of_decide_eq_true g3] at hl
            exact ⟨_,_,_,hl⟩
          · cases g3
        · unfold Om at g5
          split at g5
          · rename_i ccl cdd vs ccs hl
            split at g5
            · rename_i x tf hv
              refine ⟨_,_,_,_,_,_,hl,hv,?_⟩
              rw [hf]
              exact g5
            · cases g5
          · cases g5
    | _=>cases e
def Pb (file : Str) (ss : List He.DefD) (K : PySem.W.Frag) : Bool × List FnS:=(ss.all fun d=>Mo file K d,ss.map fun d=>Fc K d.at_)
def Bx (ss : List He.DefD) : Bool × List FnS:=(true,ss.map Ku)
def SaysS (file : Str) (ss : List He.DefD) (K : PySem.W.Frag) : Prop:=Pb file ss K = Bx ss
theorem SaysS.get {Pr : Program} {K : PySem.W.Frag} {file : Str} {ss : List He.DefD} (s : SaysS file ss K) (hf : (Pr.main.file : Str) = file) (ht : (Pr.main.scope.names.lookup ("super" : Str)).isSome = false) (i : Nat) {d : He.DefD} (h : ss[i]? = some d:=by rfl) :
    ∃ c cc fd,SupD Pr K d.name d.qual d.params d.body d.scope (He.ga K d.at_.1) (He.fAd K d.at_) c cc fd:=by
  have e1 : (ss.all fun d=>Mo file K d) = true:=congrArg (·.1) s
  have e2 : (ss.map fun d=>Fc K d.at_) = ss.map Ku:=congrArg (·.2) s
  refine JM5 ?_ (List.all_eq_true.mp e1 d (List.mem_of_getElem? h)) hf ht
  have e3 : (ss.map fun d=>Fc K d.at_)[i]? = (ss.map Ku)[i]?:=by rw [e2]
  rw [List.getElem?_map,List.getElem?_map,h] at e3
  exact Option.some.inj e3
/-- what a module's object names: a function's code,defaults,cells; a class's own names -/
def JOz (o : Obj) : List Addr:=match o.data with
  | .seq its _=>its.toList.flatMap He.refV
  | .dict es _=>es.toList.flatMap fun e=>He.refV e.val
  | .func fd=>He.refV fd.code ++ (He.refV fd.defaults ++ fd.closure.map (·.2))
  | .cls cd=>[cd.ns]
  | _=>[]
def Vh (g : Addr → Option Obj) (as : List Addr) : List Addr:=as.flatMap fun a=>match g a with
  | some o=>JOz o
  | none=>[]
def O2 (g : Addr → Option Obj) : List Addr:=Vh g [mainGlobals]
/-- the getters of properties,and their codes -/
def JHn (o : Obj) : List Addr:=match o.cls,o.data with
  | .type n,.fields vs=>if n == "property" then vs.toList.flatMap He.refV else []
  | _,_=>[]
def JWb (g : Addr → Option Obj) (as : List Addr) : List Addr:=as.flatMap fun a=>match g a with
  | some o=>JHn o
  | none=>[]
def JWt (g : Addr → Option Obj) (a : Addr) : Bool:=match g a with
  | some o=>(match o.data with
    | .cls _=>true
    | _=>false)
  | none=>false
/-- classes,their own names,their functions; then functions,codes (what is asked most stands ahead) -/
def asC (g : Addr → Option Obj) (as c1 f1 : List Addr) : List Addr:=c1 ++ (Vh g c1 ++ (Vh g (Vh g c1) ++ (f1 ++ (Vh g (Vh g (Vh g c1)) ++ (Vh g f1 ++ (JWb g (Vh g (Vh g c1)) ++ (Vh g (JWb g (Vh g (Vh g c1))) ++ Vh g (Vh g (Vh g (Vh g c1))))))))))
def asQ (g : Addr → Option Obj) (n : Nat) : List Addr:=mainGlobals :: cStatics :: asC g (O2 g) ((O2 g).filter (JWt g)) ((O2 g).filter fun a=>!JWt g a)
section
variable {fa : List He.Fa} {fn : List He.DefD} {gs : List GetD} {ss : List He.DefD} {tf : List He.Defn} {ex : PySem.W.Frag → Bool} {n : Nat} {file : Str}
abbrev AlQ : Type:=He.AlX × ((Bool × List He.FnW) × (Bool × List FnS))
theorem JFl {r : PySem.W.OpenRow} {q : Program} {M : Nat} {loose : List Str} {w : World} {H H1 H2 : PySem.W.Hook} {ob : PySem.W.SharedT → H.α} {ob1 : PySem.W.SharedT → H1.α} {ob2 : PySem.W.SharedT → H2.α} (e : ∀ s,ob1 s = H1.val w → ob2 s = H2.val w → ob s = H.val w) (r1 : HandSHeadRun.RunEq r q H1 ob1 M loose w) (r2 : HandSHeadRun.RunEq r q H2 ob2 M loose w) : HandSHeadRun.RunEq r q H ob M loose w:=by
  intro os
  have a:=r1 os
  have b:=r2 os
  revert a b
  generalize HandSHeadRun.endF _ _ _ _ _ = x
  intro a b
  cases x with
  | none=>cases a
  | some s =>
    simp only [Option.map_some,Option.some.injEq,Prod.mk.injEq] at a b ⊢
    exact ⟨a.1,a.2.1,e s a.2.2 b.2.2⟩
end
end Vs
namespace Vs
open PySem PySem.Spec PyProof.Rows L2
end Vs
namespace Vs
open PySem PySem.Spec PyProof.Rows L2
/-- what a module's dict holds at a text key -/
def nsA (K : PySem.W.Frag) (a : Addr) (x : Str) : Addr:=match PySem.W.nsIn K a x with
  | some (some (.ref b))=>b
  | _=>0
def P6 : V → Value → Bool
  | .int i,.int j _=>decide (i = j)
  | .str x,.str y _=>decide (x = y)
  | _,_=>false
def valsB : List V → List Value → Bool
  | [],[]=>true
  | v :: vs,u :: us=>P6 v u && valsB vs us
  | _,_=>false
def Lb (K : PySem.W.Frag) (a : Addr) (vs : List V) : Bool:=match K.lookup a with
  | some ⟨.type c,_,.seq its _,_⟩=>decide (c = "tuple") && (decide (its.size ≤ sizeLine) && valsB vs its.toList)
  | _=>false
def Hn (K : PySem.W.Frag) (a : Addr) (x : Str) (vs : List V) : Bool:=He.eqO (PySem.W.nsIn K a x) (some (some (.ref (nsA K a x)))) && Lb K (nsA K a x) vs
theorem JXi {v : V} {u : Value} (h : P6 v u = true) : RelV v u:=by
  unfold P6 at h
  split at h
  · have:=of_decide_eq_true h
    subst this
    exact ⟨_,rfl⟩
  · have:=of_decide_eq_true h
    subst this
    exact ⟨_,rfl⟩
  · cases h
theorem valsB_ok : ∀ {vs : List V} {us : List Value},valsB vs us = true → Vals vs us
  | [],[],_=>.nil
  | v :: vs,u :: us,h=>by
    obtain ⟨h1,h2⟩:=He.ba h
    exact .cons (JXi h1) (valsB_ok h2)
  | [],_ :: _,h=>by cases h
  | _ :: _,[],h=>by cases h
theorem R4 {K : PySem.W.Frag} {a : Addr} {vs : List V} (h : Lb K a vs = true) : ∃ (o : Obj) (its : Array Value) (n : Nat),K.lookup a = some o ∧ o.cls = .type "tuple" ∧ o.data = .seq its n ∧ its.size ≤ sizeLine ∧ Vals vs its.toList:=by
  unfold Lb at h
  split at h
  · rename_i c d its n sl q
    obtain ⟨h1,h2⟩:=He.ba h
    obtain ⟨h3,h4⟩:=He.ba h2
    have:=of_decide_eq_true h1
    subst this
    exact ⟨_,its,n,q,rfl,rfl,of_decide_eq_true h3,valsB_ok h4⟩
  · cases h
theorem P1 {K : PySem.W.Frag} {w : World} {a : Addr} {es : Array DictEntry} {n : Nat} {x : Str} {vs : List V} (D : KDict K w a es n) (h : Hn K a x vs = true) : ∃ b,KDct K w a x (.ref b) ∧ ∃ (o : Obj) (its : Array Value) (n : Nat),K.lookup b = some o ∧ o.cls = .type "tuple" ∧ o.data = .seq its n ∧ its.size ≤ sizeLine ∧ Vals vs its.toList:=by
  obtain ⟨h1,h2⟩:=He.ba h
  exact ⟨nsA K a x,⟨es,n,.ref (nsA K a x),D.at_,D.lit,He.eqO_ok h1,rfl⟩,R4 h2⟩
end Vs
namespace Vs
open PySem PySem.Spec PyProof.Rows L2
/-- a world whose one row of habits is told -/
def wf (w : World) (b : Bool) : World:={ w with params:={ w.params with followText:=fun r=>if r == "special-get-raises" then b else w.params.followText r } }
theorem JLv (w : World) : wf w (w.params.followText "special-get-raises") = w:=by
  have e : (fun r : String=>if r == "special-get-raises" then w.params.followText "special-get-raises" else w.params.followText r) = w.params.followText:=by
    funext r
    by_cases h : r = "special-get-raises"
    · subst h
      simp
    · have : (r == "special-get-raises") = false:=by simpa using h
      rw [this]
      rfl
  unfold wf
  rw [e]
theorem So {P : World → Prop} (h1 : ∀ w,P (wf w true)) (h0 : ∀ w,P (wf w false)) (w : World) : P w:=by
  have e:=JLv w
  cases hb : w.params.followText "special-get-raises" with
  | true =>
    rw [hb] at e
    rw [← e]
    exact h1 w
  | false =>
    rw [hb] at e
    rw [← e]
    exact h0 w
section
variable {fa : List He.Fa} {fn : List He.DefD} {ts : List He.Tab} {gs : List GetD} {ss : List He.DefD} {tf : List He.Defn} {ex : PySem.W.Frag → Bool} {n : Nat} {file : Str}
def M7 (fa : List He.Fa) (fn : List He.DefD) (ts : List He.Tab) (tf : List He.Defn) (ex : PySem.W.Frag → Bool) (g : Addr → Option Obj) (K : PySem.W.Frag) : He.AlX:=(He.obsT fa fn ts K,ex K && He.tabsB g tf K)
theorem JOf {as : List Addr} {w : World} {h : Heap} (e : M7 fa fn ts tf ex h.get? (He.frT h.get? as) = He.valX fn ts w) : He.SaysX fa fn ts tf ex w h (He.frT h.get? as):=by
  have e1 : He.obsT fa fn ts (He.frT h.get? as) = He.valT fn ts w:=congrArg (fun z : He.AlX=>z.1) e
  have e2 : (ex (He.frT h.get? as) && He.tabsB h.get? tf (He.frT h.get? as)) = true:=congrArg (fun z : He.AlX=>z.2) e
  obtain ⟨h1,h2⟩:=He.ba e2
  have key : ∀ p ∈ tf,PySem.W.codeHdIn (He.frT h.get? as) (He.cT (He.frT h.get? as) p).1 (He.cT (He.frT h.get? as) p).2 = true ∧ ∃ o,h.get? (He.cT (He.frT h.get? as) p).2 = some o ∧ He.emptyTab o = true:=fun p hp=>by
    obtain ⟨h3,h4⟩:=He.ba (List.all_eq_true.mp h2 p hp)
    refine ⟨h3,?_⟩
    cases q : h.get? (He.cT (He.frT h.get? as) p).2 with
    | none =>
      rw [q] at h4
      cases h4
    | some o =>
      rw [q] at h4
      exact ⟨o,rfl,h4⟩
  exact ⟨e1,h1,fun p hp=>(key p hp).1,fun p hp=>by
    obtain ⟨_,o,q,z⟩:=key p hp
    exact He.frT_none q z,fun p hp=>by
    obtain ⟨_,o,q,z⟩:=key p hp
    rw [q,He.emptyTab_eq z]⟩
def Zr (n : Nat) (fa : List He.Fa) (fn : List He.DefD) (ts : List He.Tab) (gs : List GetD) (file : Str) (ss : List He.DefD) (tf : List He.Defn) (ex : PySem.W.Frag → Bool) (g : Addr → Option Obj) : AlQ:=(M7 fa fn ts tf ex g (He.frT g (asQ g n)),(obsG gs (He.frT g (asQ g n)),Pb file ss (He.frT g (asQ g n))))
def Ht (n : Nat) (fa : List He.Fa) (fn : List He.DefD) (ts : List He.Tab) (gs : List GetD) (file : Str) (ss : List He.DefD) (tf : List He.Defn) (ex : PySem.W.Frag → Bool) : PySem.W.Hook where
  α:=AlQ
  obs:=fun s=>Zr n fa fn ts gs file ss tf ex s.heap.get?
  val:=fun w=>(He.valX fn ts w,(Bl gs,Bx ss))
  says:=fun w h=>∃ K : PySem.W.Frag,K.In h ∧ He.SaysX fa fn ts tf ex w h K ∧ SaysG gs K ∧ SaysS file ss K
  of:=fun w s e=>⟨He.frT s.heap.get? (asQ s.heap.get? n),He.frT_in,JOf (Prod.mk.inj e).1,(Prod.mk.inj (Prod.mk.inj e).2).1,(Prod.mk.inj (Prod.mk.inj e).2).2⟩
  keeps:=fun _ _ _ ⟨K,hK,c,cg⟩ k=>⟨K,PySem.W.Frag.In.keeps hK k,⟨c.t,c.more,c.hd,c.out,fun p hp=>k _ _ (c.empty p hp)⟩,cg⟩
theorem JBu {g : Addr → Option Obj} {s : Shared} (h : ∀ a,g a = s.heap.get? a) : Zr n fa fn ts gs file ss tf ex g = (Ht n fa fn ts gs file ss tf ex).obs s:=by
  have e : g = s.heap.get?:=funext h
  subst e
  rfl
/-- the run's equation from two: what is asked in two goes -/
theorem JHa {g : Addr → Option Obj} {w : World} (h2 : Zr n [] fn [] [] file [] [] (fun _=>true) g = (He.valX fn [] w,(Bl [],Bx []))) (h1 : Zr n fa [] ts gs file ss tf ex g = (He.valX [] ts w,(Bl gs,Bx ss))) : Zr n fa fn ts gs file ss tf ex g = (He.valX fn ts w,(Bl gs,Bx ss)):=by
  have a1 : He.obsT fa [] ts (He.frT g (asQ g n)) = He.valT [] ts w:=congrArg (fun z : AlQ=>z.1.1) h1
  have a2 : (ex (He.frT g (asQ g n)) && He.tabsB g tf (He.frT g (asQ g n))) = true:=congrArg (fun z : AlQ=>z.1.2) h1
  have b1 : He.obsT [] fn [] (He.frT g (asQ g n)) = He.valT fn [] w:=congrArg (fun z : AlQ=>z.1.1) h2
  have b3 : (obsG gs (He.frT g (asQ g n)),Pb file ss (He.frT g (asQ g n))) = (Bl gs,Bx ss):=congrArg (fun z : AlQ=>z.2) h1
  have a3 : (fa.all fun f=>f.ok (He.frT g (asQ g n))) = true:=by
    have:=congrArg (fun z : He.AlT=>z.1.1) a1
    simpa [He.obsT,He.obsD,He.valT,He.valD] using this
  have a4 : (ts.map fun t=>He.dicW (He.frT g (asQ g n)) (t.1 (He.frT g (asQ g n)))) = ts.map fun t=>some (He.keysIn w.params t.2):=congrArg (fun z : He.AlT=>z.2) a1
  have b4 : (fn.all fun d=>d.ok (He.frT g (asQ g n))) = true:=by
    have:=congrArg (fun z : He.AlT=>z.1.1) b1
    simpa [He.obsT,He.obsD,He.valT,He.valD] using this
  have b5 : (fn.map fun d=>He.fnW (He.frT g (asQ g n)) d.at_) = fn.map He.DefD.val:=congrArg (fun z : He.AlT=>z.1.2) b1
  have c1 : He.obsT fa fn ts (He.frT g (asQ g n)) = He.valT fn ts w:=by
    simp only [He.obsT,He.obsD,He.valT,He.valD,a3,b4,b5,Bool.and_self,a4]
  unfold Zr M7
  rw [c1,a2,b3]
  rfl
end
end Vs
set_option maxHeartbeats 0
namespace Law
open PySem PySem.Spec PyProof.Rows L2 Vs
def top (i : Nat) : Stmt:=PySem.Challenge.pw_asofhall_k77_lines_written.main.body.getD i (.Pass ⟨0,0,0,0⟩)
def Vm (i j : Nat) : Stmt:=(match top i with
  | .ClassDef _ _ _ body _ _ _ _ _ _ _=>body
  | _=>[]).getD j (.Pass ⟨0,0,0,0⟩)
def Sw : He.DefD:=⟨("BadEntry",some "__init__"),"__init__","BadEntry.__init__",defArgs (Vm 2 0),defBody (Vm 2 0),defScope (Vm 2 0),[],[]⟩
def C7 : He.DefD:=⟨("BadForm",some "__init__"),"__init__","BadForm.__init__",defArgs (Vm 3 0),defBody (Vm 3 0),defScope (Vm 3 0),[],[]⟩
def dZ0b : He.DefD:=⟨("is_integer",none),"is_integer","is_integer",defArgs (top 7),defBody (top 7),defScope (top 7),[],[]⟩
def dZ0r : He.DefD:=⟨("is_row",none),"is_row","is_row",defArgs (top 8),defBody (top 8),defScope (top 8),[],[]⟩
def dZ0q : He.DefD:=⟨("is_name",none),"is_name","is_name",defArgs (top 9),defBody (top 9),defScope (top 9),[],[]⟩
def dZ04 : He.DefD:=⟨("is_mark_text",none),"is_mark_text","is_mark_text",defArgs (top 15),defBody (top 15),defScope (top 15),[],[]⟩
def dZ0m : He.DefD:=⟨("is_piece",none),"is_piece","is_piece",defArgs (top 16),defBody (top 16),defScope (top 16),[],[]⟩
def dZ0p : He.DefD:=⟨("is_shape",none),"is_shape","is_shape",defArgs (top 17),defBody (top 17),defScope (top 17),[],[]⟩
def dZ02 : He.DefD:=⟨("Form",some "__init__"),"__init__","Form.__init__",defArgs (Vm 18 0),defBody (Vm 18 0),defScope (Vm 18 0),[],[]⟩
def JBj : He.DefD:=⟨("Form",some "__eq__"),"__eq__","Form.__eq__",defArgs (Vm 18 1),defBody (Vm 18 1),defScope (Vm 18 1),[],[]⟩
def dZ0i : He.DefD:=⟨("Form",some "shape"),"shape","Form.shape",defArgs (Vm 18 2),defBody (Vm 18 2),defScope (Vm 18 2),[],[]⟩
def dZ0e : He.DefD:=⟨("check_form",none),"check_form","check_form",defArgs (top 19),defBody (top 19),defScope (top 19),[],[]⟩
def dZ0s : He.DefD:=⟨("is_id",none),"is_id","is_id",defArgs (top 24),defBody (top 24),defScope (top 24),[],[]⟩
def dZ0o : He.DefD:=⟨("is_entry",none),"is_entry","is_entry",defArgs (top 25),defBody (top 25),defScope (top 25),[],[]⟩
def dZ05 : He.DefD:=⟨("are_integers",none),"are_integers","are_integers",defArgs (top 26),defBody (top 26),defScope (top 26),[],[]⟩
def dZ0g : He.DefD:=⟨("write_line",none),"write_line","write_line",defArgs (top 28),defBody (top 28),defScope (top 28),[],[]⟩
def dZ00 : He.DefD:=⟨("_law_is_integer",none),"_law_is_integer","_law_is_integer",defArgs (top 30),defBody (top 30),defScope (top 30),[],[]⟩
def dZ08 : He.DefD:=⟨("_law_stream",none),"_law_stream","_law_stream",defArgs (top 31),defBody (top 31),defScope (top 31),[],[]⟩
def dZ0j : He.DefD:=⟨("_law_draw",none),"_law_draw","_law_draw",defArgs (top 32),defBody (top 32),defScope (top 32),[],[]⟩
def dZ0l : He.DefD:=⟨("_law_word",none),"_law_word","_law_word",defArgs (top 33),defBody (top 33),defScope (top 33),[],[]⟩
def dZ09 : He.DefD:=⟨("_law_fields",none),"_law_fields","_law_fields",defArgs (top 34),defBody (top 34),defScope (top 34),[],[]⟩
def dZ0c : He.DefD:=⟨("_law_order",none),"_law_order","_law_order",defArgs (top 35),defBody (top 35),defScope (top 35),[],[]⟩
def dZ0k : He.DefD:=⟨("_law_mark",none),"_law_mark","_law_mark",defArgs (top 36),defBody (top 36),defScope (top 36),[],[]⟩
def dZ0f : He.DefD:=⟨("_law_signs",none),"_law_signs","_law_signs",defArgs (top 37),defBody (top 37),defScope (top 37),[],[]⟩
def dZ0h : He.DefD:=⟨("_law_shape",none),"_law_shape","_law_shape",defArgs (top 38),defBody (top 38),defScope (top 38),[],[]⟩
def dZ06 : He.DefD:=⟨("_law_integer",none),"_law_integer","_law_integer",defArgs (top 39),defBody (top 39),defScope (top 39),[],[]⟩
def dZ0d : He.DefD:=⟨("_law_drawn",none),"_law_drawn","_law_drawn",defArgs (top 40),defBody (top 40),defScope (top 40),[],[]⟩
def dZ03 : He.DefD:=⟨("_law_spoiled",none),"_law_spoiled","_law_spoiled",defArgs (top 41),defBody (top 41),defScope (top 41),[],[]⟩
def dZ07 : He.DefD:=⟨("_law_is_name",none),"_law_is_name","_law_is_name",defArgs (top 42),defBody (top 42),defScope (top 42),[],[]⟩
def dZ01 : He.DefD:=⟨("_law_is_entry",none),"_law_is_entry","_law_is_entry",defArgs (top 43),defBody (top 43),defScope (top 43),[],[]⟩
def dZ0n : He.DefD:=⟨("_law_due",none),"_law_due","_law_due",defArgs (top 44),defBody (top 44),defScope (top 44),[],[]⟩
def dZ0a : He.DefD:=⟨("_law_asked",none),"_law_asked","_law_asked",defArgs (top 45),defBody (top 45),defScope (top 45),[],[]⟩
def dZ0t : He.DefD:=⟨("law",none),"law","law",defArgs (top 46),defBody (top 46),defScope (top 46),[],[]⟩
def fnL : List He.DefD:=[Sw,C7,dZ0b,dZ0r,dZ0q,dZ04,dZ0m,dZ0p,dZ02,JBj,dZ0i,dZ0e,dZ0s,dZ0o,dZ05,dZ0g,dZ00,dZ08,dZ0j,dZ0l,dZ09,dZ0c,dZ0k,dZ0f,dZ0h,dZ06,dZ0d,dZ03,dZ07,dZ01,dZ0n,dZ0a,dZ0t]
def tfL : List He.Defn:=[]
def ssL : List He.DefD:=[]
def Br : Str:=PySem.Challenge.pw_asofhall_k77_lines_written.main.file
def faL : List He.Fa:=[.glo "HallError",.glo "BadEntry",.glo "BadForm",.glo "is_integer",.glo "is_row",.glo "is_name",.glo "WORDS",.glo "FIELDS",.glo "is_mark_text",.glo "is_piece",.glo "is_shape",.glo "Form",.glo "check_form",.glo "is_id",.glo "is_entry",.glo "are_integers",.glo "write_line",.glo "_law_is_integer",.glo "_law_stream",.glo "_law_draw",.glo "_law_word",.glo "_law_fields",.glo "_law_order",.glo "_law_mark",.glo "_law_signs",.glo "_law_shape",.glo "_law_integer",.glo "_law_drawn",.glo "_law_spoiled",.glo "_law_is_name",.glo "_law_is_entry",.glo "_law_due",.glo "_law_asked",.glo "law",.free "ord",.free "zip",.free "len",.free "list",.free "int",.free "tuple",.free "all",.free "range",.free "isinstance",.free "sorted",.free "max",.free "min",.free "abs",.free "bool",.free "str",.free "ValueError",.str "LETTERS" "abcdefghijklmnopqrstuvwxyz",.int "LONGEST_NAME" 8,.int "MOST_PIECES" 15,.int "LONGEST_MARK" 6,.int "ROW_SIZE" 7,.int "FIX_SIZE" 5,.int "GONE_SIZE" 3,.cls "Form",.mkr "Form",.noat "Form" "_shapes",.meth "Form" "shape",.exm "BadEntry" "BadEntry" true,.exm "BadEntry" "BadForm" false,.exm "BadForm" "BadEntry" false,.exm "BadForm" "BadForm" true]
def gtL : List GetD:=[]
def looseL : List Str:=([("__name__" : Str),("HallError" : Str),("BadEntry" : Str),("BadForm" : Str),("LETTERS" : Str),("LONGEST_NAME" : Str),("is_integer" : Str),("is_row" : Str),("is_name" : Str),("WORDS" : Str),("FIELDS" : Str),("MOST_PIECES" : Str),("LONGEST_MARK" : Str),("is_mark_text" : Str),("is_piece" : Str),("is_shape" : Str),("Form" : Str),("check_form" : Str),("ROW_SIZE" : Str),("FIX_SIZE" : Str),("GONE_SIZE" : Str),("is_id" : Str),("is_entry" : Str),("are_integers" : Str),("write_line" : Str),("_law_is_integer" : Str),("_law_stream" : Str),("_law_draw" : Str),("_law_word" : Str),("_law_fields" : Str)] : List Str) ++ ([("_law_order" : Str),("_law_mark" : Str),("_law_signs" : Str),("_law_shape" : Str),("_law_integer" : Str),("_law_drawn" : Str),("_law_spoiled" : Str),("_law_is_name" : Str),("_law_is_entry" : Str),("_law_due" : Str),("_law_asked" : Str)] : List Str)
def Nv (K : PySem.W.Frag) : Bool:=match PySem.W.nsIn K cStatics "sys.int_max_str_digits" with
  | some none=>true
  | _=>false
theorem JXl {K : PySem.W.Frag} (h : Nv K = true) : PySem.W.nsIn K cStatics "sys.int_max_str_digits" = some none:=by
  unfold Nv at h
  split at h
  · assumption
  · cases h
abbrev RR : PySem.W.OpenRow:=PySem.W.OpenLaw.row PySem.Challenge.rw_asofhall_k77_lines_written
def tsL : List He.Tab:=[(fun K=>(He.ga K "FIELDS"),["row","fix","gone"])]
def exL : List (PySem.W.Frag → Bool):=[fun K=>Oz K (He.ga K "BadEntry"),fun K=>M6 K (He.ga K "BadEntry") "at",fun K=>Oz K (He.ga K "BadForm"),fun K=>M6 K (He.ga K "BadForm") "value",fun K=>G7 K (He.ga K "BadEntry"),fun K=>Vi K (.ref (He.ga K "BadEntry")) (.ref (He.ga K "HallError")) true,fun K=>G7 K (He.ga K "BadForm"),fun K=>Vi K (.ref (He.ga K "BadForm")) (.ref (He.ga K "HallError")) true,fun K=>G7 K (He.ga K "Form"),fun K=>neB K (He.ga K "Form"),fun K=>JK3 K (He.ga K "Form") "__eq__",fun K=>Vi K (.type "NoneType") (.ref (He.ga K "Form")) false,fun K=>Vi K (.type "bool") (.ref (He.ga K "Form")) false,fun K=>Vi K (.ref (He.ga K "Form")) (.type "bool") false,fun K=>Vi K (.type "int") (.ref (He.ga K "Form")) false,fun K=>Vi K (.ref (He.ga K "Form")) (.type "int") false,fun K=>Vi K (.type "str") (.ref (He.ga K "Form")) false,fun K=>Vi K (.ref (He.ga K "Form")) (.type "str") false,fun K=>Vi K (.type "list") (.ref (He.ga K "Form")) false,fun K=>Vi K (.ref (He.ga K "Form")) (.type "list") false,fun K=>Vi K (.type "tuple") (.ref (He.ga K "Form")) false,fun K=>Vi K (.ref (He.ga K "Form")) (.type "tuple") false,fun K=>Vi K (.type "dict") (.ref (He.ga K "Form")) false,fun K=>Vi K (.ref (He.ga K "Form")) (.type "dict") false,fun K=>Vi K (.ref (He.ga K "Form")) (.ref (He.ga K "Form")) true,fun K=>Lb K (He.ga K "WORDS") [.str "row",.str "fix",.str "gone"],fun K=>Hn K (He.ga K "FIELDS") "row" [.str "id",.str "stream",.str "key",.str "moment",.str "amount",.str "arrival"],fun K=>Hn K (He.ga K "FIELDS") "fix" [.str "id",.str "moment",.str "amount",.str "arrival"],fun K=>Hn K (He.ga K "FIELDS") "gone" [.str "id",.str "arrival"],fun K=>Nv K]
def exK (K : PySem.W.Frag) : Bool:=exL.all fun f=>f K
abbrev hkL : PySem.W.Hook:=Ht 6 faL fnL tsL gtL Br ssL tfL exK
def obL (s : PySem.W.SharedT) : AlQ:=Zr 6 faL fnL tsL gtL Br ssL tfL exK (HandSHeadRun.getT s)
theorem ob_eqL (s : PySem.W.SharedT) : obL s = hkL.obs s.abs:=JBu (HandSHeadRun.getT_eq s)
abbrev hkA : PySem.W.Hook:=Ht 6 faL [] tsL gtL Br ssL tfL exK
def obA (s : PySem.W.SharedT) : AlQ:=Zr 6 faL [] tsL gtL Br ssL tfL exK (HandSHeadRun.getT s)
abbrev hkB : PySem.W.Hook:=Ht 6 [] fnL [] [] Br [] [] (fun _=>true)
def obB (s : PySem.W.SharedT) : AlQ:=Zr 6 [] fnL [] [] Br [] [] (fun _=>true) (HandSHeadRun.getT s)
theorem JBw (w : World) : HandSHeadRun.RunEq RR (PySem.W.view RR.prog [46]) hkB obB 4000 looseL (wf w true):=by
  intro os
  kernel_rfl
theorem JGt (w : World) : HandSHeadRun.RunEq RR (PySem.W.view RR.prog [46]) hkB obB 4000 looseL (wf w false):=by
  intro os
  kernel_rfl
theorem JL0 (w : World) : HandSHeadRun.RunEq RR (PySem.W.view RR.prog [46]) hkA obA 4000 looseL (wf w true):=by
  intro os
  kernel_rfl
theorem JPh (w : World) : HandSHeadRun.RunEq RR (PySem.W.view RR.prog [46]) hkA obA 4000 looseL (wf w false):=by
  intro os
  kernel_rfl
theorem runL (w : World) : HandSHeadRun.RunEq RR (PySem.W.view RR.prog [46]) hkL obL 4000 looseL w:=JFl (H:=hkL) (H1:=hkB) (H2:=hkA) (ob:=obL) (ob1:=obB) (ob2:=obA) (fun s h1 h2=>JHa h1 h2) (So (P:=fun w=>HandSHeadRun.RunEq RR (PySem.W.view RR.prog [46]) hkB obB 4000 looseL w) JBw JGt w) (So (P:=fun w=>HandSHeadRun.RunEq RR (PySem.W.view RR.prog [46]) hkA obA 4000 looseL w) JL0 JPh w)
end Law
namespace Law
open PySem PySem.Spec PyProof.Rows L2 Vs
theorem JPi {Pr : Program} {w : World} : ∀ st H s e s',¬ L2.CX Pr w st H s (fun _ _ _=>False) e s':=fun st H s e s' c=>by
  unfold L2.CX at c
  first
    | exact c.elim
    | (obtain ⟨_,_,_,_,_,_,_,_,_,_,_,_,_,_,_,h⟩:=c; exact h)
    | (obtain ⟨_,_,_,_,_,_,_,_,_,_,_,_,_,_,h⟩:=c; exact h)
    | (obtain ⟨_,_,_,_,_,_,_,_,_,_,_,_,_,h⟩:=c; exact h)
    | (obtain ⟨_,_,_,_,_,_,_,_,_,_,_,_,h⟩:=c; exact h)
theorem walk_w {l : PySem.W.OpenLaw} {n k : Nat} {q : Program} {loose : List Str} {XP : (Str → Option Value) → Heap → Prop} {YP : World → Heap → Prop} {d : DefRec} {x : Str}
    (h1 : l.most = some n) (h2 : n ≤ sizeLine) (h3 : d.params.defaults = []) (hr : Room k callerA)
    (F : ∀ (w : World) (mg : Str → Option Value) (ad : Addr) (h : Heap),YP w h → h.Ns mainGlobals mg → mg d.name = some (.ref ad) → ∃ (K : PySem.W.Frag) (fd : FuncData) (sp : Sp) (cs : List (Addr × Addr)),K.In h ∧ (∀ p ∈ cs,h.get? p.2 = some { cls:=.none,data:=.fields #[] }) ∧ (∀ p ∈ cs,K.lookup p.2 = none) ∧ (∀ p ∈ cs,PySem.W.CodeHd h p.1 p.2) ∧ (∀ (s : Shared) (u : Value),BindsTo s fd ⟨[u],[]⟩ [(x,u)]) ∧
        (∀ (H : Hp) (a : Addr) (ns : List Int),ns.length ≤ n → (∀ p ∈ cs,H p.2 = some (.tbl #[])) → SqL K H a (ns.map V.int) → sp [.ref a] H (fun v _=>v = .bl true) fun _ _ _=>False) ∧ ∀ base : Heap,K.In base → base.Ns mainGlobals mg → (∀ p ∈ cs,LamX.TabB base mg p.1 p.2) → FnOk l.prog w K mg base (L2.CX l.prog w) k ad fd [x] sp) :
    PySem.W.WalkO q loose XP YP l.row.toRowW d [] (fun f vs=>PySem.call f vs):=by
  refine Att.attach_call h1 h3 ?_
  intro w sa sb mg mb ad o pm cd doc a vs ns G Y ho hd hc hm hb hi hl hg
  obtain ⟨K,fd,sp,cs,KX,hT,nT,hC,hbd,hsp,hF⟩:=F w mg ad _ Y G.T.g hm
  exact LamX.law_callTs KX G.T.g G.T.b G.T.builtins G.T.nolimit hg hT nT hC G.T.bmain hb hi (Nat.le_trans hl h2) hr hF hbd (fun H hH hS=>hsp H a ns hl hH hS) fun H e s' z=>JPi _ _ _ _ _ z
end Law
section
open PySem PySem.W PySem.Calls PyProof.Rows
theorem Law.close (hF : ∀ (w : World) (K : PySem.W.Frag) (h : Heap) (mg : PySem.Str → Option Value) (fa : Addr),K.In h → h.Ns mainGlobals mg → mg ("law" : PySem.Str) = some (.ref fa) → He.SaysX Law.faL Law.fnL Law.tsL Law.tfL Law.exK w h K → Vs.SaysG Law.gtL K → ∃ (fd : FuncData) (sp : L2.Sp),(∀ (s : Shared) (v : Value),BindsTo s fd ⟨[v],[]⟩ [("_law_script",v)]) ∧ (∀ (H : L2.Hp) (a : Addr) (ns : List Int),ns.length ≤ 63 → (∀ p ∈ Law.tfL.map (He.cT K),H p.2 = some (.tbl #[])) → L2.SqL K H a (ns.map L2.V.int) → sp [.ref a] H (fun v _=>v = .bl true) fun _ _ _=>False) ∧
    ∀ base : Heap,K.In base → base.Ns mainGlobals mg → (∀ p ∈ Law.tfL.map (He.cT K),LamX.TabB base mg p.1 p.2) → L2.FnOk (PySem.Challenge.rw_asofhall_k77_lines_written).prog w K mg base (L2.CX (PySem.Challenge.rw_asofhall_k77_lines_written).prog w) 6 fa fd ["_law_script"] sp) : PySem.Challenge.rw_asofhall_k77_lines_written.Holds:=by
  w_on; o_law
  refine HandSHeadRun.head_any (r:=OpenLaw.row PySem.Challenge.rw_asofhall_k77_lines_written) (q:=view (OpenLaw.row PySem.Challenge.rw_asofhall_k77_lines_written).prog [46]) (H:=Law.hkL) (ob:=Law.obL) (M:=4000) (loose:=Law.looseL) (d:=HandSHeadRun.topDef (OpenLaw.row PySem.Challenge.rw_asofhall_k77_lines_written).prog 46) (kwd:=[]) Law.ob_eqL
    (by kernel_rfl) (fun s=>by kernel_rfl) Law.runL (by kernel_rfl) (by kernel_rfl) (by kernel_rfl) (by rfl) (by first | assumption | decide +kernel) (by decide +kernel) ⟨rfl,rfl,rfl,rfl,rfl,by decide +kernel⟩ ?hw ?hc
  case hw=>w_witness2
  case hc =>
    refine Law.walk_w (l:=PySem.Challenge.rw_asofhall_k77_lines_written) (n:=63) (k:=6) (x:="_law_script") rfl (by decide) (by kernel_rfl) ⟨rfl,by decide,by decide⟩ ?F
    intro w mg fa h Y G hmg0
    obtain ⟨K,KX,c,cg,_⟩:=Y
    have hmg : mg ("law" : PySem.Str) = some (.ref fa):=by
      have e : (HandSHeadRun.topDef (OpenLaw.row PySem.Challenge.rw_asofhall_k77_lines_written).prog 46).name = ("law" : PySem.Str):=by kernel_rfl
      rw [← e]
      exact hmg0
    obtain ⟨fd,sp,h1,h2,h3⟩:=hF w K h mg fa KX G hmg c cg
    exact ⟨K,fd,sp,Law.tfL.map (He.cT K),KX,fun p hp=>let ⟨_,h1,e⟩:=List.mem_map.mp hp; e ▸ c.empty _ h1,fun p hp=>let ⟨_,h1,e⟩:=List.mem_map.mp hp; e ▸ c.out _ h1,fun p hp=>let ⟨_,h1,e⟩:=List.mem_map.mp hp; e ▸ PySem.W.codeHd_of_K KX (c.hd _ h1),h1,h2,h3⟩
end
set_option maxHeartbeats 1000000
namespace Vs
open PySem L2
abbrev Fg:=PySem.W.Frag
/-- plain data -/
inductive D where
  | non | bl (b : Bool) | int (i : Int) | str (x : Str) | ty (n : String)
  | lst (xs : List D) | tup (xs : List D) | dic (kvs : List (Key × D)) | obj (C : Addr) (fs : List (Str × D)) | any
/-- a step of a path: an index,a key,a field -/
inductive Stp where
  | n (i : Nat) | k (k : Key) | f (x : Str)
/-- what a name or an expression holds: shared data; an owned list,dict,instance; what slot i owns; an owned list,dict,tuple whose items may be owned; a thing of value w that is told of; a reference to what stands at slot i,path p -/
inductive A where
  | v (d : D)
  | lst (xs : List D) | dic (kvs : List (Key × D)) | obj (C : Addr) (fs : List (Str × A))
  | loc (i : Nat)
  | nl (xs : List A) | nd (kvs : List (Key × A)) | nt (xs : List A) | cel (w : V) (x : A) | pth (i : Nat) (p : List Stp) (w : V)
mutual
def Rep (K : Fg) (S : Hp) : D → V → Prop
  | .non,v=>v = .non
  | .bl b,v=>v = .bl b
  | .int i,v=>v = .int i
  | .str x,v=>v = .str x
  | .ty n,v=>v = .ty n
  | .lst xs,v=>∃ a vs,v = .ref a ∧ SqL K S a vs ∧ RepL K S xs vs
  | .tup xs,v=>∃ a vs,v = .ref a ∧ SqT K S a vs ∧ RepL K S xs vs
  | .dic kvs,v=>∃ a ws,v = .ref a ∧ Rd S a (.dK ws) ∧ RepK K S kvs ws
  | .obj C fs,v=>∃ a dx ws,v = .ref a ∧ S a = some (.ins C dx ws) ∧ RepF K S fs ws
  | .any,v=>∃ a,v = .ref a
def RepL (K : Fg) (S : Hp) : List D → List V → Prop
  | [],vs=>vs = []
  | x :: xs,vs=>∃ v r,vs = v :: r ∧ Rep K S x v ∧ RepL K S xs r
def RepK (K : Fg) (S : Hp) : List (Key × D) → List (Key × V) → Prop
  | [],vs=>vs = []
  | (k,x) :: xs,vs=>∃ v r,vs = (k,v) :: r ∧ Rep K S x v ∧ RepK K S xs r
def RepF (K : Fg) (S : Hp) : List (Str × D) → List (Str × V) → Prop
  | [],vs=>vs = []
  | (k,x) :: xs,vs=>∃ v r,vs = (k,v) :: r ∧ Rep K S x v ∧ RepF K S xs r
end
mutual
def A.toD : A → D
  | .v d=>d
  | .lst xs=>.lst xs
  | .dic kvs=>.dic kvs
  | .obj C fs=>.obj C (A.toDs fs)
  | .loc _=>.non
  | .nl _=>.any
  | .nd _=>.any
  | .nt _=>.any
  | .cel _ _=>.any
  | .pth _ _ _=>.any
def A.toDs : List (Str × A) → List (Str × D)
  | []=>[]
  | (k,x) :: r=>(k,x.toD) :: A.toDs r
end
mutual
def RepA (K : Fg) (S H : Hp) : A → V → List Addr → Prop
  | .v d,v,fp=>Rep K S d v ∧ fp = []
  | .lst xs,v,fp=>∃ a vs,v = .ref a ∧ H a = some (.lst vs) ∧ RepL K S xs vs ∧ fp = [a]
  | .dic kvs,v,fp=>∃ a ws,v = .ref a ∧ H a = some (.dK ws) ∧ RepK K S kvs ws ∧ fp = [a]
  | .obj C fs,v,fp=>∃ a dx ws g,v = .ref a ∧ H a = some (.ins C dx ws) ∧ RepAF K S H fs ws g ∧ fp = a :: g
  | .loc _,_,_=>False
  | .nl xs,v,fp=>∃ a vs g,v = .ref a ∧ H a = some (.lst vs) ∧ RepAL K S H xs vs g ∧ fp = a :: g
  | .nd kvs,v,fp=>∃ a ws g,v = .ref a ∧ H a = some (.dK ws) ∧ RepAK K S H kvs ws g ∧ fp = a :: g
  | .nt xs,v,fp=>∃ a vs g,v = .ref a ∧ H a = some (.tup vs) ∧ RepAL K S H xs vs g ∧ fp = a :: g
  | .cel w x,v,fp=>v = w ∧ (∃ a,w = .ref a) ∧ RepA K S H x v fp
  | .pth _ _ w,v,fp=>v = w ∧ (∃ a,w = .ref a) ∧ fp = []
def RepAF (K : Fg) (S H : Hp) : List (Str × A) → List (Str × V) → List Addr → Prop
  | [],vs,fp=>vs = [] ∧ fp = []
  | (k,x) :: xs,vs,fp=>∃ v r g h,vs = (k,v) :: r ∧ RepA K S H x v g ∧ RepAF K S H xs r h ∧ fp = g ++ h
def RepAL (K : Fg) (S H : Hp) : List A → List V → List Addr → Prop
  | [],vs,fp=>vs = [] ∧ fp = []
  | x :: xs,vs,fp=>∃ v r g h,vs = v :: r ∧ RepA K S H x v g ∧ RepAL K S H xs r h ∧ fp = g ++ h
def RepAK (K : Fg) (S H : Hp) : List (Key × A) → List (Key × V) → List Addr → Prop
  | [],vs,fp=>vs = [] ∧ fp = []
  | (k,x) :: xs,vs,fp=>∃ v r g h,vs = (k,v) :: r ∧ RepA K S H x v g ∧ RepAK K S H xs r h ∧ fp = g ++ h
end
/-- S is part of H; a dict may be locked there -/
def Le (S H : Hp) : Prop:=∀ a o,S a = some o → H a = some o ∨ ∃ ob ws,o = .dK ws ∧ H a = some (.frz ob (.dK ws))
theorem Le.of_same {S H : Hp} (h : Same S H) : Le S H:=fun a o e=>.inl (h a o e)
theorem Same.up {H : Hp} {p : Addr} {o : HO} (h : H p = none) : Same H (upd H p o):=fun a u e=>by
  rw [upd_ne (ne_of_none e h)]; exact e
theorem Le.up {S H : Hp} {p : Addr} {o : HO} (h : Le S H) (hn : S p = none) : Le S (upd H p o):=fun a u e=>by
  have ne : a ≠ p:=ne_of_none e hn
  rcases h a u e with q | ⟨ob,ws,q1,q2⟩
  · exact .inl (by rw [upd_ne ne]; exact q)
  · exact .inr ⟨ob,ws,q1,by rw [upd_ne ne]; exact q2⟩
theorem Le.none {S H : Hp} {p : Addr} (h : Le S H) (hn : H p = none) : S p = none:=by
  cases e : S p with
  | none=>rfl
  | some o =>
    rcases h p o e with q | ⟨_,_,_,q⟩
    · rw [hn] at q; cases q
    · rw [hn] at q; cases q
theorem Same.none {S H : Hp} {p : Addr} (h : Same S H) (hn : H p = none) : S p = none:=by
  cases e : S p with
  | none=>rfl
  | some o=>have:=h p o e; rw [hn] at this; cases this
theorem Le.trans {S S' H : Hp} (h : Same S S') (h' : Le S' H) : Le S H:=fun a o e=>h' a o (h a o e)
theorem Rd.le {S H : Hp} {a : Addr} {u : HO} (hl : Le S H) (hu : (∃ xs,u = .lst xs) ∨ (∃ xs,u = .tup xs) ∨ ∃ ws,u = .dK ws) (h : Rd S a u) : Rd H a u:=by
  rcases h with h | ⟨o,h⟩
  · rcases hl a u h with q | ⟨ob,ws,q1,q2⟩
    · exact .inl q
    · subst q1; exact .inr ⟨ob,q2⟩
  · rcases hl a _ h with q | ⟨ob,ws,q1,q2⟩
    · exact .inr ⟨o,q⟩
    · cases q1
theorem SqL.le {K : Fg} {S H : Hp} {a : Addr} {xs : List V} (hl : Le S H) (h : SqL K S a xs) : SqL K H a xs:=by
  rcases h with h | h
  · exact .inl (Rd.le hl (.inl ⟨_,rfl⟩) h)
  · exact .inr h
theorem SqT.le {K : Fg} {S H : Hp} {a : Addr} {xs : List V} (hl : Le S H) (h : SqT K S a xs) : SqT K H a xs:=by
  rcases h with h | h
  · exact .inl (Rd.le hl (.inr (.inl ⟨_,rfl⟩)) h)
  · exact .inr h
theorem D7 {S H : Hp} {a C dx : Addr} {ws : List (Str × V)} (hl : Le S H) (h : S a = some (.ins C dx ws)) : H a = some (.ins C dx ws):=by
  rcases hl a _ h with q | ⟨_,_,q1,_⟩
  · exact q
  · cases q1
section
variable {K : Fg} {S H : Hp}
mutual
theorem Rep.le (hl : Le S H) : ∀ (d : D) (v : V),Rep K S d v → Rep K H d v
  | .non,v,h=>by simpa only [Rep] using h
  | .bl _,v,h=>by simpa only [Rep] using h
  | .int _,v,h=>by simpa only [Rep] using h
  | .str _,v,h=>by simpa only [Rep] using h
  | .ty _,v,h=>by simpa only [Rep] using h
  | .lst xs,v,h=>by
    simp only [Rep] at h ⊢
    obtain ⟨a,vs,e,h1,h2⟩:=h
    exact ⟨a,vs,e,SqL.le hl h1,RepL.le hl xs vs h2⟩
  | .tup xs,v,h=>by
    simp only [Rep] at h ⊢
    obtain ⟨a,vs,e,h1,h2⟩:=h
    exact ⟨a,vs,e,SqT.le hl h1,RepL.le hl xs vs h2⟩
  | .dic xs,v,h=>by
    simp only [Rep] at h ⊢
    obtain ⟨a,vs,e,h1,h2⟩:=h
    exact ⟨a,vs,e,Rd.le hl (.inr (.inr ⟨_,rfl⟩)) h1,RepK.le hl xs vs h2⟩
  | .obj C fs,v,h=>by
    simp only [Rep] at h ⊢
    obtain ⟨a,dx,vs,e,h1,h2⟩:=h
    exact ⟨a,dx,vs,e,D7 hl h1,RepF.le hl fs vs h2⟩
  | .any,v,h=>by simpa only [Rep] using h
theorem RepL.le (hl : Le S H) : ∀ (xs : List D) (vs : List V),RepL K S xs vs → RepL K H xs vs
  | [],vs,h=>by simpa only [RepL] using h
  | x :: xs,vs,h=>by
    simp only [RepL] at h ⊢
    obtain ⟨v,r,e,h1,h2⟩:=h
    exact ⟨v,r,e,Rep.le hl x v h1,RepL.le hl xs r h2⟩
theorem RepK.le (hl : Le S H) : ∀ (xs : List (Key × D)) (vs : List (Key × V)),RepK K S xs vs → RepK K H xs vs
  | [],vs,h=>by simpa only [RepK] using h
  | (k,x) :: xs,vs,h=>by
    simp only [RepK] at h ⊢
    obtain ⟨v,r,e,h1,h2⟩:=h
    exact ⟨v,r,e,Rep.le hl x v h1,RepK.le hl xs r h2⟩
theorem RepF.le (hl : Le S H) : ∀ (xs : List (Str × D)) (vs : List (Str × V)),RepF K S xs vs → RepF K H xs vs
  | [],vs,h=>by simpa only [RepF] using h
  | (k,x) :: xs,vs,h=>by
    simp only [RepF] at h ⊢
    obtain ⟨v,r,e,h1,h2⟩:=h
    exact ⟨v,r,e,Rep.le hl x v h1,RepF.le hl xs r h2⟩
end
mutual
/-- an owned thing stays while S grows and its own cells are as they were -/
theorem RepA.keep {S' H' : Hp} (hs : Same S S') : ∀ (x : A) (v : V) (fp : List Addr),(∀ a ∈ fp,H' a = H a) → RepA K S H x v fp → RepA K S' H' x v fp
  | .v d,v,fp,_,h=>by
    simp only [RepA] at h ⊢
    exact ⟨Rep.le (Le.of_same hs) d v h.1,h.2⟩
  | .lst xs,v,fp,hk,h=>by
    simp only [RepA] at h ⊢
    obtain ⟨a,vs,e,h1,h2,h3⟩:=h
    exact ⟨a,vs,e,by rw [hk a (by simp [h3])]; exact h1,RepL.le (Le.of_same hs) xs vs h2,h3⟩
  | .dic xs,v,fp,hk,h=>by
    simp only [RepA] at h ⊢
    obtain ⟨a,vs,e,h1,h2,h3⟩:=h
    exact ⟨a,vs,e,by rw [hk a (by simp [h3])]; exact h1,RepK.le (Le.of_same hs) xs vs h2,h3⟩
  | .obj C fs,v,fp,hk,h=>by
    simp only [RepA] at h ⊢
    obtain ⟨a,dx,vs,g,e,h1,h2,h3⟩:=h
    exact ⟨a,dx,vs,g,e,by rw [hk a (by simp [h3])]; exact h1,RepAF.keep hs fs vs g (fun b hb=>hk b (by simp [h3,hb])) h2,h3⟩
  | .loc i,v,fp,hk,h=>by
    simp only [RepA] at h
  | .nl xs,v,fp,hk,h=>by
    simp only [RepA] at h ⊢
    obtain ⟨a,vs,g,e,h1,h2,h3⟩:=h
    exact ⟨a,vs,g,e,by rw [hk a (by simp [h3])]; exact h1,RepAL.keep hs xs vs g (fun b hb=>hk b (by simp [h3,hb])) h2,h3⟩
  | .nt xs,v,fp,hk,h=>by
    simp only [RepA] at h ⊢
    obtain ⟨a,vs,g,e,h1,h2,h3⟩:=h
    exact ⟨a,vs,g,e,by rw [hk a (by simp [h3])]; exact h1,RepAL.keep hs xs vs g (fun b hb=>hk b (by simp [h3,hb])) h2,h3⟩
  | .nd xs,v,fp,hk,h=>by
    simp only [RepA] at h ⊢
    obtain ⟨a,vs,g,e,h1,h2,h3⟩:=h
    exact ⟨a,vs,g,e,by rw [hk a (by simp [h3])]; exact h1,RepAK.keep hs xs vs g (fun b hb=>hk b (by simp [h3,hb])) h2,h3⟩
  | .cel w x,v,fp,hk,h=>by
    simp only [RepA] at h ⊢
    exact ⟨h.1,h.2.1,RepA.keep hs x v fp hk h.2.2⟩
  | .pth _ _ w,v,fp,hk,h=>by simpa only [RepA] using h
theorem RepAF.keep {S' H' : Hp} (hs : Same S S') : ∀ (xs : List (Str × A)) (vs : List (Str × V)) (fp : List Addr),(∀ a ∈ fp,H' a = H a) → RepAF K S H xs vs fp → RepAF K S' H' xs vs fp
  | [],vs,fp,_,h=>by simpa only [RepAF] using h
  | (k,x) :: xs,vs,fp,hk,h=>by
    simp only [RepAF] at h ⊢
    obtain ⟨v,r,g,g',e,h1,h2,h3⟩:=h
    exact ⟨v,r,g,g',e,RepA.keep hs x v g (fun b hb=>hk b (by simp [h3,hb])) h1,RepAF.keep hs xs r g' (fun b hb=>hk b (by simp [h3,hb])) h2,h3⟩
theorem RepAL.keep {S' H' : Hp} (hs : Same S S') : ∀ (xs : List A) (vs : List V) (fp : List Addr),(∀ a ∈ fp,H' a = H a) → RepAL K S H xs vs fp → RepAL K S' H' xs vs fp
  | [],vs,fp,_,h=>by simpa only [RepAL] using h
  | x :: xs,vs,fp,hk,h=>by
    simp only [RepAL] at h ⊢
    obtain ⟨v,r,g,g',e,h1,h2,h3⟩:=h
    exact ⟨v,r,g,g',e,RepA.keep hs x v g (fun b hb=>hk b (by simp [h3,hb])) h1,RepAL.keep hs xs r g' (fun b hb=>hk b (by simp [h3,hb])) h2,h3⟩
theorem RepAK.keep {S' H' : Hp} (hs : Same S S') : ∀ (xs : List (Key × A)) (vs : List (Key × V)) (fp : List Addr),(∀ a ∈ fp,H' a = H a) → RepAK K S H xs vs fp → RepAK K S' H' xs vs fp
  | [],vs,fp,_,h=>by simpa only [RepAK] using h
  | (k,x) :: xs,vs,fp,hk,h=>by
    simp only [RepAK] at h ⊢
    obtain ⟨v,r,g,g',e,h1,h2,h3⟩:=h
    exact ⟨v,r,g,g',e,RepA.keep hs x v g (fun b hb=>hk b (by simp [h3,hb])) h1,RepAK.keep hs xs r g' (fun b hb=>hk b (by simp [h3,hb])) h2,h3⟩
end
mutual
/-- the own cells stand in H -/
theorem RepA.there : ∀ (x : A) (v : V) (fp : List Addr),RepA K S H x v fp → ∀ a ∈ fp,H a ≠ none
  | .v d,v,fp,h,a,ha=>by
    simp only [RepA] at h
    simp [h.2] at ha
  | .lst xs,v,fp,h,b,hb=>by
    simp only [RepA] at h
    obtain ⟨a,vs,e,h1,h2,h3⟩:=h
    have : b = a:=by simpa [h3] using hb
    rw [this,h1]; simp
  | .dic xs,v,fp,h,b,hb=>by
    simp only [RepA] at h
    obtain ⟨a,vs,e,h1,h2,h3⟩:=h
    have : b = a:=by simpa [h3] using hb
    rw [this,h1]; simp
  | .obj C fs,v,fp,h,b,hb=>by
    simp only [RepA] at h
    obtain ⟨a,dx,vs,g,e,h1,h2,h3⟩:=h
    rw [h3] at hb
    rcases List.mem_cons.mp hb with q | q
    · rw [q,h1]; simp
    · exact RepAF.there fs vs g h2 b q
  | .loc i,v,fp,h,_,_=>by
    simp only [RepA] at h
  | .nl xs,v,fp,h,b,hb=>by
    simp only [RepA] at h
    obtain ⟨a,vs,g,e,h1,h2,h3⟩:=h
    rw [h3] at hb
    rcases List.mem_cons.mp hb with q | q
    · rw [q,h1]; simp
    · exact RepAL.there xs vs g h2 b q
  | .nt xs,v,fp,h,b,hb=>by
    simp only [RepA] at h
    obtain ⟨a,vs,g,e,h1,h2,h3⟩:=h
    rw [h3] at hb
    rcases List.mem_cons.mp hb with q | q
    · rw [q,h1]; simp
    · exact RepAL.there xs vs g h2 b q
  | .nd xs,v,fp,h,b,hb=>by
    simp only [RepA] at h
    obtain ⟨a,vs,g,e,h1,h2,h3⟩:=h
    rw [h3] at hb
    rcases List.mem_cons.mp hb with q | q
    · rw [q,h1]; simp
    · exact RepAK.there xs vs g h2 b q
  | .cel w x,v,fp,h,a,ha=>by
    simp only [RepA] at h
    exact RepA.there x v fp h.2.2 a ha
  | .pth _ _ w,v,fp,h,a,ha=>by
    simp only [RepA] at h
    simp [h.2.2] at ha
theorem RepAF.there : ∀ (xs : List (Str × A)) (vs : List (Str × V)) (fp : List Addr),RepAF K S H xs vs fp → ∀ a ∈ fp,H a ≠ none
  | [],vs,fp,h,a,ha=>by
    simp only [RepAF] at h
    simp [h.2] at ha
  | (k,x) :: xs,vs,fp,h,a,ha=>by
    simp only [RepAF] at h
    obtain ⟨v,r,g,g',e,h1,h2,h3⟩:=h
    rw [h3] at ha
    rcases List.mem_append.mp ha with q | q
    · exact RepA.there x v g h1 a q
    · exact RepAF.there xs r g' h2 a q
theorem RepAL.there : ∀ (xs : List A) (vs : List V) (fp : List Addr),RepAL K S H xs vs fp → ∀ a ∈ fp,H a ≠ none
  | [],vs,fp,h,a,ha=>by
    simp only [RepAL] at h
    simp [h.2] at ha
  | x :: xs,vs,fp,h,a,ha=>by
    simp only [RepAL] at h
    obtain ⟨v,r,g,g',e,h1,h2,h3⟩:=h
    rw [h3] at ha
    rcases List.mem_append.mp ha with q | q
    · exact RepA.there x v g h1 a q
    · exact RepAL.there xs r g' h2 a q
theorem RepAK.there : ∀ (xs : List (Key × A)) (vs : List (Key × V)) (fp : List Addr),RepAK K S H xs vs fp → ∀ a ∈ fp,H a ≠ none
  | [],vs,fp,h,a,ha=>by
    simp only [RepAK] at h
    simp [h.2] at ha
  | (k,x) :: xs,vs,fp,h,a,ha=>by
    simp only [RepAK] at h
    obtain ⟨v,r,g,g',e,h1,h2,h3⟩:=h
    rw [h3] at ha
    rcases List.mem_append.mp ha with q | q
    · exact RepA.there x v g h1 a q
    · exact RepAK.there xs r g' h2 a q
end
mutual
theorem RepA.fp_eq : ∀ (x : A) (v : V) (f g : List Addr),RepA K S H x v f → RepA K S H x v g → f = g
  | .v d,v,f,g,h,h2=>by
    simp only [RepA] at h h2
    rw [h.2,h2.2]
  | .lst xs,v,f,g,h,h2=>by
    simp only [RepA] at h h2
    obtain ⟨a,vs,e,_,_,h3⟩:=h
    obtain ⟨b,ws,e2,_,_,h4⟩:=h2
    rw [e] at e2; cases e2
    rw [h3,h4]
  | .dic xs,v,f,g,h,h2=>by
    simp only [RepA] at h h2
    obtain ⟨a,vs,e,_,_,h3⟩:=h
    obtain ⟨b,ws,e2,_,_,h4⟩:=h2
    rw [e] at e2; cases e2
    rw [h3,h4]
  | .obj C fs,v,f,g,h,h2=>by
    simp only [RepA] at h h2
    obtain ⟨a,dx,vs,g1,e,h1,q1,h3⟩:=h
    obtain ⟨b,dy,ws,g2,e2,h4,q2,h5⟩:=h2
    rw [e] at e2; cases e2
    rw [h1] at h4; cases h4
    rw [h3,h5,RepAF.fp_eq fs vs g1 g2 q1 q2]
  | .loc i,v,f,g,h,_=>by
    simp only [RepA] at h
  | .nl fs,v,f,g,h,h2=>by
    simp only [RepA] at h h2
    obtain ⟨a,vs,g1,e,h1,q1,h3⟩:=h
    obtain ⟨b,ws,g2,e2,h4,q2,h5⟩:=h2
    rw [e] at e2; cases e2
    rw [h1] at h4; cases h4
    rw [h3,h5,RepAL.fp_eq fs vs g1 g2 q1 q2]
  | .nt fs,v,f,g,h,h2=>by
    simp only [RepA] at h h2
    obtain ⟨a,vs,g1,e,h1,q1,h3⟩:=h
    obtain ⟨b,ws,g2,e2,h4,q2,h5⟩:=h2
    rw [e] at e2; cases e2
    rw [h1] at h4; cases h4
    rw [h3,h5,RepAL.fp_eq fs vs g1 g2 q1 q2]
  | .nd fs,v,f,g,h,h2=>by
    simp only [RepA] at h h2
    obtain ⟨a,vs,g1,e,h1,q1,h3⟩:=h
    obtain ⟨b,ws,g2,e2,h4,q2,h5⟩:=h2
    rw [e] at e2; cases e2
    rw [h1] at h4; cases h4
    rw [h3,h5,RepAK.fp_eq fs vs g1 g2 q1 q2]
  | .cel w x,v,f,g,h,h2=>by
    simp only [RepA] at h h2
    exact RepA.fp_eq x v f g h.2.2 h2.2.2
  | .pth _ _ w,v,f,g,h,h2=>by
    simp only [RepA] at h h2
    rw [h.2.2,h2.2.2]
theorem RepAF.fp_eq : ∀ (xs : List (Str × A)) (vs : List (Str × V)) (f g : List Addr),RepAF K S H xs vs f → RepAF K S H xs vs g → f = g
  | [],vs,f,g,h,h2=>by
    simp only [RepAF] at h h2
    rw [h.2,h2.2]
  | (k,x) :: xs,vs,f,g,h,h2=>by
    simp only [RepAF] at h h2
    obtain ⟨v,r,g1,g2,e,a1,a2,a3⟩:=h
    obtain ⟨v2,r2,g3,g4,e2,b1,b2,b3⟩:=h2
    rw [e] at e2
    injection e2 with e3 e4
    injection e3 with _ e5
    subst e4 e5
    rw [a3,b3,RepA.fp_eq x v g1 g3 a1 b1,RepAF.fp_eq xs r g2 g4 a2 b2]
theorem RepAL.fp_eq : ∀ (xs : List A) (vs : List V) (f g : List Addr),RepAL K S H xs vs f → RepAL K S H xs vs g → f = g
  | [],vs,f,g,h,h2=>by
    simp only [RepAL] at h h2
    rw [h.2,h2.2]
  | x :: xs,vs,f,g,h,h2=>by
    simp only [RepAL] at h h2
    obtain ⟨v,r,g1,g2,e,a1,a2,a3⟩:=h
    obtain ⟨v2,r2,g3,g4,e2,b1,b2,b3⟩:=h2
    rw [e] at e2
    injection e2 with e3 e4
    subst e4 e3
    rw [a3,b3,RepA.fp_eq x v g1 g3 a1 b1,RepAL.fp_eq xs r g2 g4 a2 b2]
theorem RepAK.fp_eq : ∀ (xs : List (Key × A)) (vs : List (Key × V)) (f g : List Addr),RepAK K S H xs vs f → RepAK K S H xs vs g → f = g
  | [],vs,f,g,h,h2=>by
    simp only [RepAK] at h h2
    rw [h.2,h2.2]
  | (k,x) :: xs,vs,f,g,h,h2=>by
    simp only [RepAK] at h h2
    obtain ⟨v,r,g1,g2,e,a1,a2,a3⟩:=h
    obtain ⟨v2,r2,g3,g4,e2,b1,b2,b3⟩:=h2
    rw [e] at e2
    injection e2 with e3 e4
    injection e3 with _ e5
    subst e4 e5
    rw [a3,b3,RepA.fp_eq x v g1 g3 a1 b1,RepAK.fp_eq xs r g2 g4 a2 b2]
end
/-- the own cells of a thing,added to the shared part -/
def addF (S H : Hp) (fp : List Addr) : Hp:=fun a=>if a ∈ fp then H a else S a
theorem Ny {fp : List Addr} {a : Addr} (h : a ∈ fp) : addF S H fp a = H a:=if_pos h
theorem Xy {fp : List Addr} {a : Addr} (h : a ∉ fp) : addF S H fp a = S a:=if_neg h
theorem Lh {fp : List Addr} (h : ∀ a ∈ fp,S a = none) : Same S (addF S H fp):=fun a o e=>by
  by_cases q : a ∈ fp
  · rw [h a q] at e; cases e
  · rw [Xy q]; exact e
theorem JVk {fp : List Addr} (hl : Le S H) : Le (addF S H fp) H:=fun a o e=>by
  by_cases q : a ∈ fp
  · rw [Ny q] at e; exact .inl e
  · rw [Xy q] at e; exact hl a o e
mutual
/-- an owned thing seen as plain data,in any heap that has S and its cells -/
theorem RepA.plain {T : Hp} (hs : Le S T) : ∀ (x : A) (v : V) (fp : List Addr),(∀ a ∈ fp,∀ o,H a = some o → T a = some o) → RepA K S H x v fp → Rep K T x.toD v
  | .v d,v,fp,_,h=>by
    simp only [RepA] at h
    exact Rep.le hs d v h.1
  | .lst xs,v,fp,hk,h=>by
    simp only [RepA] at h
    obtain ⟨a,vs,e,h1,h2,h3⟩:=h
    simp only [A.toD,Rep]
    exact ⟨a,vs,e,SqL.of (hk a (by simp [h3]) _ h1),RepL.le hs xs vs h2⟩
  | .dic xs,v,fp,hk,h=>by
    simp only [RepA] at h
    obtain ⟨a,vs,e,h1,h2,h3⟩:=h
    simp only [A.toD,Rep]
    exact ⟨a,vs,e,.inl (hk a (by simp [h3]) _ h1),RepK.le hs xs vs h2⟩
  | .obj C fs,v,fp,hk,h=>by
    simp only [RepA] at h
    obtain ⟨a,dx,vs,g,e,h1,h2,h3⟩:=h
    simp only [A.toD,Rep]
    exact ⟨a,dx,vs,e,hk a (by simp [h3]) _ h1,RepAF.plain hs fs vs g (fun b hb=>hk b (by simp [h3,hb])) h2⟩
  | .loc i,v,fp,hk,h=>by
    simp only [RepA] at h
  | .nl xs,v,fp,hk,h=>by
    simp only [RepA] at h
    obtain ⟨a,vs,g,e,h1,h2,h3⟩:=h
    simp only [A.toD,Rep]
    exact ⟨a,e⟩
  | .nt xs,v,fp,hk,h=>by
    simp only [RepA] at h
    obtain ⟨a,vs,g,e,h1,h2,h3⟩:=h
    simp only [A.toD,Rep]
    exact ⟨a,e⟩
  | .nd xs,v,fp,hk,h=>by
    simp only [RepA] at h
    obtain ⟨a,vs,g,e,h1,h2,h3⟩:=h
    simp only [A.toD,Rep]
    exact ⟨a,e⟩
  | .cel w x,v,fp,hk,h=>by
    simp only [RepA] at h
    simp only [A.toD,Rep]
    rw [h.1]
    exact h.2.1
  | .pth _ _ w,v,fp,hk,h=>by
    simp only [RepA] at h
    simp only [A.toD,Rep]
    rw [h.1]
    exact h.2.1
theorem RepAF.plain {T : Hp} (hs : Le S T) : ∀ (xs : List (Str × A)) (vs : List (Str × V)) (fp : List Addr),(∀ a ∈ fp,∀ o,H a = some o → T a = some o) → RepAF K S H xs vs fp → RepF K T (A.toDs xs) vs
  | [],vs,fp,_,h=>by
    simp only [RepAF] at h
    simpa only [A.toDs,RepF] using h.1
  | (k,x) :: xs,vs,fp,hk,h=>by
    simp only [RepAF] at h
    obtain ⟨v,r,g,g',e,h1,h2,h3⟩:=h
    simp only [A.toDs,RepF]
    exact ⟨v,r,e,RepA.plain hs x v g (fun b hb=>hk b (by simp [h3,hb])) h1,RepAF.plain hs xs r g' (fun b hb=>hk b (by simp [h3,hb])) h2⟩
end
end
def unc : A → A
  | .cel _ x=>x
  | t=>t
def W8 : List (Key × A) → Key → Option A
  | [],_=>none
  | (k',x) :: r,k=>if k' = k then some x else W8 r k
def Zu : List (Key × A) → Key → A → List (Key × A)
  | [],_,_=>[]
  | (k',x) :: r,k,z=>if k' = k then (k',z) :: r else (k',x) :: Zu r k z
def Zs : List (Str × A) → Str → Option A
  | [],_=>none
  | (k',x) :: r,k=>if k' = k then some x else Zs r k
def Bu : List (Str × A) → Str → A → List (Str × A)
  | [],_,_=>[]
  | (k',x) :: r,k,z=>if k' = k then (k',z) :: r else (k',x) :: Bu r k z
/-- an item of an owned thing -/
def itN : A → Stp → Option A
  | .nl xs,.n i=>xs[i]?
  | .nt xs,.n i=>xs[i]?
  | .nd kvs,.k k=>W8 kvs k
  | .obj _ fs,.f x=>Zs fs x
  | _,_=>none
def Zg : A → Stp → A → A
  | .nl xs,.n i,z=>.nl (xs.set i z)
  | .nt xs,.n i,z=>.nt (xs.set i z)
  | .nd kvs,.k k,z=>.nd (Zu kvs k z)
  | .obj C fs,.f x,z=>.obj C (Bu fs x z)
  | t,_,_=>t
def stN : A → Stp → A → A
  | .cel w x,s,z=>.cel w (Zg x s z)
  | t,s,z=>Zg t s z
def A.at (t : A) : List Stp → Option A
  | []=>some t
  | s :: p=>(itN (unc t) s).bind fun x=>A.at x p
def A.upd (t : A) : List Stp → A → A
  | [],z=>z
  | s :: p,z=>match itN (unc t) s with
    | some x=>stN t s (A.upd x p z)
    | none=>t
section
variable {K : Fg} {S H : Hp}
theorem RepAL.lens : ∀ {xs : List A} {vs : List V} {fp : List Addr} {i : Nat} {x : A},RepAL K S H xs vs fp → xs[i]? = some x → ∃ v g f,vs[i]? = some v ∧ RepA K S H x v g ∧ fp.Perm (g ++ f) ∧
    ∀ (S' H' : Hp) (z : A) (g' : List Addr),Same S S' → (∀ a ∈ f,H' a = H a) → RepA K S' H' z v g' → ∃ fp',RepAL K S' H' (xs.set i z) vs fp' ∧ fp'.Perm (g' ++ f)
  | [],vs,fp,i,x,h,e=>by simp at e
  | y :: xs,vs,fp,0,x,h,e=>by
    simp only [RepAL] at h
    obtain ⟨v,r,g,h',e1,h1,h2,e2⟩:=h
    have ey : y = x:=by simpa using e
    subst ey e1 e2
    refine ⟨v,g,h',by simp,h1,.refl _,fun S' H' z g' hs hk hz=>⟨g' ++ h',?_,.refl _⟩⟩
    simp only [List.set_cons_zero,RepAL]
    exact ⟨v,r,g',h',rfl,hz,RepAL.keep hs xs r h' hk h2,rfl⟩
  | y :: xs,vs,fp,i + 1,x,h,e=>by
    simp only [RepAL] at h
    obtain ⟨v0,r,g0,h',e1,h1,h2,e2⟩:=h
    subst e1 e2
    obtain ⟨v,g,f,a1,a2,a3,a4⟩:=RepAL.lens (i:=i) h2 (by simpa using e)
    refine ⟨v,g,g0 ++ f,by simpa using a1,a2,?_,fun S' H' z g' hs hk hz=>?_⟩
    · exact (List.Perm.append_left g0 a3).trans (by
        rw [← List.append_assoc,← List.append_assoc]
        exact List.Perm.append_right _ List.perm_append_comm)
    · obtain ⟨fp',b1,b2⟩:=a4 S' H' z g' hs (fun a ha=>hk a (List.mem_append_right _ ha)) hz
      refine ⟨g0 ++ fp',?_,(List.Perm.append_left g0 b2).trans (by
        rw [← List.append_assoc,← List.append_assoc]
        exact List.Perm.append_right _ List.perm_append_comm)⟩
      simp only [List.set_cons_succ,RepAL]
      exact ⟨v0,r,g0,fp',rfl,RepA.keep hs y v0 g0 (fun a ha=>hk a (List.mem_append_left _ ha)) h1,b1,rfl⟩
theorem RepAK.lens : ∀ {xs : List (Key × A)} {vs : List (Key × V)} {fp : List Addr} {i : Key} {x : A},RepAK K S H xs vs fp → W8 xs i = some x → ∃ v g f,valV vs i = some v ∧ RepA K S H x v g ∧ fp.Perm (g ++ f) ∧
    ∀ (S' H' : Hp) (z : A) (g' : List Addr),Same S S' → (∀ a ∈ f,H' a = H a) → RepA K S' H' z v g' → ∃ fp',RepAK K S' H' (Zu xs i z) vs fp' ∧ fp'.Perm (g' ++ f)
  | [],vs,fp,i,x,h,e=>by simp [W8] at e
  | (k,y) :: xs,vs,fp,i,x,h,e=>by
    simp only [RepAK] at h
    obtain ⟨v0,r,g0,h',e1,h1,h2,e2⟩:=h
    subst e1 e2
    simp only [W8] at e
    by_cases q : k = i
    · rw [if_pos q] at e
      have ey : y = x:=Option.some.inj e
      subst ey q
      refine ⟨v0,g0,h',by simp [valV,List.find?_cons],h1,.refl _,fun S' H' z g' hs hk hz=>⟨g' ++ h',?_,.refl _⟩⟩
      simp only [Zu,↓reduceIte,RepAK]
      exact ⟨v0,r,g',h',rfl,hz,RepAK.keep hs xs r h' hk h2,rfl⟩
    · rw [if_neg q] at e
      obtain ⟨v,g,f,a1,a2,a3,a4⟩:=RepAK.lens h2 e
      refine ⟨v,g,g0 ++ f,by
        simpa [valV,List.find?_cons,q] using a1,a2,?_,fun S' H' z g' hs hk hz=>?_⟩
      · exact (List.Perm.append_left g0 a3).trans (by
          rw [← List.append_assoc,← List.append_assoc]
          exact List.Perm.append_right _ List.perm_append_comm)
      · obtain ⟨fp',b1,b2⟩:=a4 S' H' z g' hs (fun a ha=>hk a (List.mem_append_right _ ha)) hz
        refine ⟨g0 ++ fp',?_,(List.Perm.append_left g0 b2).trans (by
          rw [← List.append_assoc,← List.append_assoc]
          exact List.Perm.append_right _ List.perm_append_comm)⟩
        simp only [Zu,if_neg q,RepAK]
        exact ⟨v0,r,g0,fp',rfl,RepA.keep hs y v0 g0 (fun a ha=>hk a (List.mem_append_left _ ha)) h1,b1,rfl⟩
theorem RepAF.lens : ∀ {xs : List (Str × A)} {vs : List (Str × V)} {fp : List Addr} {i : Str} {x : A},RepAF K S H xs vs fp → Zs xs i = some x → ∃ v g f,vs.lookup i = some v ∧ RepA K S H x v g ∧ fp.Perm (g ++ f) ∧
    ∀ (S' H' : Hp) (z : A) (g' : List Addr),Same S S' → (∀ a ∈ f,H' a = H a) → RepA K S' H' z v g' → ∃ fp',RepAF K S' H' (Bu xs i z) vs fp' ∧ fp'.Perm (g' ++ f)
  | [],vs,fp,i,x,h,e=>by simp [Zs] at e
  | (k,y) :: xs,vs,fp,i,x,h,e=>by
    simp only [RepAF] at h
    obtain ⟨v0,r,g0,h',e1,h1,h2,e2⟩:=h
    subst e1 e2
    simp only [Zs] at e
    by_cases q : k = i
    · rw [if_pos q] at e
      have ey : y = x:=Option.some.inj e
      subst ey q
      refine ⟨v0,g0,h',by simp [List.lookup_cons],h1,.refl _,fun S' H' z g' hs hk hz=>⟨g' ++ h',?_,.refl _⟩⟩
      simp only [Bu,↓reduceIte,RepAF]
      exact ⟨v0,r,g',h',rfl,hz,RepAF.keep hs xs r h' hk h2,rfl⟩
    · rw [if_neg q] at e
      obtain ⟨v,g,f,a1,a2,a3,a4⟩:=RepAF.lens h2 e
      refine ⟨v,g,g0 ++ f,by
        rw [List.lookup_cons,show (i == k) = false from by simpa using fun (z : i = k)=>q z.symm]; exact a1,a2,?_,fun S' H' z g' hs hk hz=>?_⟩
      · exact (List.Perm.append_left g0 a3).trans (by
          rw [← List.append_assoc,← List.append_assoc]
          exact List.Perm.append_right _ List.perm_append_comm)
      · obtain ⟨fp',b1,b2⟩:=a4 S' H' z g' hs (fun a ha=>hk a (List.mem_append_right _ ha)) hz
        refine ⟨g0 ++ fp',?_,(List.Perm.append_left g0 b2).trans (by
          rw [← List.append_assoc,← List.append_assoc]
          exact List.Perm.append_right _ List.perm_append_comm)⟩
        simp only [Bu,if_neg q,RepAF]
        exact ⟨v0,r,g0,fp',rfl,RepA.keep hs y v0 g0 (fun a ha=>hk a (List.mem_append_left _ ha)) h1,b1,rfl⟩
/-- an item of an owned thing,and what holds it -/
theorem RepA.lens1 {t x : A} {s : Stp} {u : V} {fp : List Addr} (h : RepA K S H t u fp) (e : itN t s = some x) : ∃ v g f,RepA K S H x v g ∧ fp.Perm (g ++ f) ∧
    (∀ (S' H' : Hp) (z : A) (g' : List Addr),Same S S' → (∀ a ∈ f,H' a = H a) → RepA K S' H' z v g' → ∃ fp',RepA K S' H' (Zg t s z) u fp' ∧ fp'.Perm (g' ++ f)):=by
  have mv : ∀ {a : Addr} {g f fp : List Addr},fp.Perm (g ++ f) → (a :: fp).Perm (g ++ a :: f):=fun p=>(List.Perm.cons _ p).trans List.perm_middle.symm
  cases t with
  | nl xs =>
    cases s with
    | n i =>
      simp only [RepA] at h
      obtain ⟨a,vs,g0,rfl,h1,h2,rfl⟩:=h
      obtain ⟨v,g,f,a1,a2,a3,a4⟩:=RepAL.lens h2 e
      refine ⟨v,g,a :: f,a2,mv a3,fun S' H' z g' hs hk hz=>?_⟩
      obtain ⟨fp',b1,b2⟩:=a4 S' H' z g' hs (fun b hb=>hk b (List.mem_cons_of_mem _ hb)) hz
      refine ⟨a :: fp',?_,mv b2⟩
      simp only [Zg,RepA]
      exact ⟨a,vs,fp',rfl,by rw [hk a (by simp)]; exact h1,b1,rfl⟩
    | _=>cases e
  | nt xs =>
    cases s with
    | n i =>
      simp only [RepA] at h
      obtain ⟨a,vs,g0,rfl,h1,h2,rfl⟩:=h
      obtain ⟨v,g,f,a1,a2,a3,a4⟩:=RepAL.lens h2 e
      refine ⟨v,g,a :: f,a2,mv a3,fun S' H' z g' hs hk hz=>?_⟩
      obtain ⟨fp',b1,b2⟩:=a4 S' H' z g' hs (fun b hb=>hk b (List.mem_cons_of_mem _ hb)) hz
      refine ⟨a :: fp',?_,mv b2⟩
      simp only [Zg,RepA]
      exact ⟨a,vs,fp',rfl,by rw [hk a (by simp)]; exact h1,b1,rfl⟩
    | _=>cases e
  | nd xs =>
    cases s with
    | k i =>
      simp only [RepA] at h
      obtain ⟨a,vs,g0,rfl,h1,h2,rfl⟩:=h
      obtain ⟨v,g,f,a1,a2,a3,a4⟩:=RepAK.lens h2 e
      refine ⟨v,g,a :: f,a2,mv a3,fun S' H' z g' hs hk hz=>?_⟩
      obtain ⟨fp',b1,b2⟩:=a4 S' H' z g' hs (fun b hb=>hk b (List.mem_cons_of_mem _ hb)) hz
      refine ⟨a :: fp',?_,mv b2⟩
      simp only [Zg,RepA]
      exact ⟨a,vs,fp',rfl,by rw [hk a (by simp)]; exact h1,b1,rfl⟩
    | _=>cases e
  | obj C xs =>
    cases s with
    | f i =>
      simp only [RepA] at h
      obtain ⟨a,dx,vs,g0,rfl,h1,h2,rfl⟩:=h
      obtain ⟨v,g,f,a1,a2,a3,a4⟩:=RepAF.lens h2 e
      refine ⟨v,g,a :: f,a2,mv a3,fun S' H' z g' hs hk hz=>?_⟩
      obtain ⟨fp',b1,b2⟩:=a4 S' H' z g' hs (fun b hb=>hk b (List.mem_cons_of_mem _ hb)) hz
      refine ⟨a :: fp',?_,mv b2⟩
      simp only [Zg,RepA]
      exact ⟨a,dx,vs,fp',rfl,by rw [hk a (by simp)]; exact h1,b1,rfl⟩
    | _=>cases e
  | _=>cases s <;> cases e
theorem RepA.unc {t : A} {u : V} {fp : List Addr} (h : RepA K S H t u fp) : RepA K S H (Vs.unc t) u fp:=by
  cases t with
  | cel w x =>
    simp only [RepA] at h
    exact h.2.2
  | _=>exact h
/-- what stands at a path -/
theorem RepA.lens : ∀ {p : List Stp} {t x : A} {u : V} {fp : List Addr},RepA K S H t u fp → A.at t p = some x → ∃ v g f,RepA K S H x v g ∧ fp.Perm (g ++ f) ∧
    (∀ (S' H' : Hp) (z : A) (g' : List Addr),Same S S' → (∀ a ∈ f,H' a = H a) → RepA K S' H' z v g' → ∃ fp',RepA K S' H' (A.upd t p z) u fp' ∧ fp'.Perm (g' ++ f))
  | [],t,x,u,fp,h,e=>by
    have ex : t = x:=Option.some.inj e
    subst ex
    exact ⟨u,fp,[],h,by simp,fun S' H' z g' _ _ hz=>⟨g',hz,by simp⟩⟩
  | s :: p,t,x,u,fp,h,e=>by
    cases q : itN (Vs.unc t) s with
    | none=>rw [A.at,q] at e; cases e
    | some y =>
      rw [A.at,q] at e
      obtain ⟨v,g,f,a1,a2,a3⟩:=RepA.lens1 h.unc q
      obtain ⟨v2,g2,f2,b1,b2,b3⟩:=RepA.lens a1 e
      refine ⟨v2,g2,f2 ++ f,b1,(a2.trans (List.Perm.append_right f b2)).trans (by rw [List.append_assoc]),fun S' H' z g' hs hk hz=>?_⟩
      obtain ⟨fp1,c1,c2⟩:=b3 S' H' z g' hs (fun a ha=>hk a (List.mem_append_left _ ha)) hz
      obtain ⟨fp2,d1,d2⟩:=a3 S' H' (A.upd y p z) fp1 hs (fun a ha=>hk a (List.mem_append_right _ ha)) c1
      refine ⟨fp2,?_,(d2.trans (List.Perm.append_right f c2)).trans (by rw [List.append_assoc])⟩
      rw [A.upd,q]
      show RepA K S' H' (stN t s (A.upd y p z)) u fp2
      cases t with
      | cel w t0 =>
        simp only [RepA] at h
        simp only [stN,RepA]
        exact ⟨h.1,h.2.1,d1⟩
      | _=>exact d1
end
/-- several things,each with its own cells -/
def RepP (K : Fg) (S H : Hp) : List (V × A) → List Addr → Prop
  | [],fp=>fp = []
  | (v,x) :: r,fp=>∃ g h,RepA K S H x v g ∧ RepP K S H r h ∧ fp = g ++ h
section
variable {K : Fg} {S H : Hp}
theorem RepP.perm {ps qs : List (V × A)} (p : ps.Perm qs) : ∀ {fp : List Addr},RepP K S H ps fp → ∃ fq,RepP K S H qs fq ∧ fp.Perm fq:=by
  induction p with
  | nil=>intro fp h; exact ⟨fp,h,.refl _⟩
  | cons x p ih =>
    obtain ⟨v,x⟩:=x
    intro fp h
    obtain ⟨g,h',h1,h2,h3⟩:=h
    obtain ⟨fq,q1,q2⟩:=ih h2
    exact ⟨g ++ fq,⟨g,fq,h1,q1,rfl⟩,by rw [h3]; exact List.Perm.append_left _ q2⟩
  | swap x y l =>
    obtain ⟨v,x⟩:=x
    obtain ⟨u,y⟩:=y
    intro fp h
    obtain ⟨g,h',h1,⟨g2,h4,h5,h6,h7⟩,h3⟩:=h
    subst h7 h3
    refine ⟨g2 ++ (g ++ h4),⟨g2,g ++ h4,h5,⟨g,h4,h1,h6,rfl⟩,rfl⟩,?_⟩
    rw [← List.append_assoc,← List.append_assoc]
    exact List.Perm.append_right _ List.perm_append_comm
  | trans p q ih1 ih2 =>
    intro fp h
    obtain ⟨f1,h1,p1⟩:=ih1 h
    obtain ⟨f2,h2,p2⟩:=ih2 h1
    exact ⟨f2,h2,p1.trans p2⟩
theorem RepP.append {ps qs : List (V × A)} : ∀ {fp : List Addr},RepP K S H (ps ++ qs) fp → ∃ f1 f2,RepP K S H ps f1 ∧ RepP K S H qs f2 ∧ fp = f1 ++ f2:=by
  induction ps with
  | nil=>intro fp h; exact ⟨[],fp,rfl,h,rfl⟩
  | cons x ps ih =>
    obtain ⟨v,x⟩:=x
    intro fp h
    obtain ⟨g,h',h1,h2,h3⟩:=h
    obtain ⟨f1,f2,q1,q2,q3⟩:=ih h2
    exact ⟨g ++ f1,f2,⟨g,f1,h1,q1,rfl⟩,q2,by rw [h3,q3,List.append_assoc]⟩
theorem RepP.join {ps qs : List (V × A)} : ∀ {f1 f2 : List Addr},RepP K S H ps f1 → RepP K S H qs f2 → RepP K S H (ps ++ qs) (f1 ++ f2):=by
  induction ps with
  | nil=>intro f1 f2 h1 h2; cases h1; exact h2
  | cons x ps ih =>
    obtain ⟨v,x⟩:=x
    intro f1 f2 h1 h2
    obtain ⟨g,h',q1,q2,q3⟩:=h1
    exact ⟨g,h' ++ f2,q1,ih q2 h2,by rw [q3,List.append_assoc]⟩
theorem RepP.keep {S' H' : Hp} (hs : Same S S') : ∀ {ps : List (V × A)} {fp : List Addr},(∀ a ∈ fp,H' a = H a) → RepP K S H ps fp → RepP K S' H' ps fp:=by
  intro ps
  induction ps with
  | nil=>intro fp _ h; exact h
  | cons x ps ih =>
    obtain ⟨v,x⟩:=x
    intro fp hk h
    obtain ⟨g,h',h1,h2,h3⟩:=h
    subst h3
    exact ⟨g,h',h1.keep hs x v g (fun a ha=>hk a (List.mem_append_left _ ha)),ih (fun a ha=>hk a (List.mem_append_right _ ha)) h2,rfl⟩
theorem RepP.there : ∀ {ps : List (V × A)} {fp : List Addr},RepP K S H ps fp → ∀ a ∈ fp,H a ≠ none:=by
  intro ps
  induction ps with
  | nil=>intro fp h a ha; cases h; simp at ha
  | cons x ps ih =>
    obtain ⟨v,x⟩:=x
    intro fp h a ha
    obtain ⟨g,h',h1,h2,h3⟩:=h
    subst h3
    rcases List.mem_append.mp ha with q | q
    · exact h1.there x v g a q
    · exact ih h2 a q
end
abbrev J0:=List (Option A)
/-- the names' things -/
def Y2 : J0 → L2.St → List (V × A)
  | some x :: ρ,some v :: σ=>(v,x) :: Y2 ρ σ
  | _ :: ρ,_ :: σ=>Y2 ρ σ
  | _,_=>[]
/-- every name that holds a thing holds a value -/
def EnvOk : J0 → L2.St → Prop
  | [],σ=>σ = []
  | o :: ρ,σ=>∃ w r,σ = w :: r ∧ (∀ x,o = some x → (∃ v,w = some v) ∧ ∀ i,x ≠ .loc i) ∧ EnvOk ρ r
/-- what is held beside: owned or shared things; loc: the value of slot i -/
def Yc (τ : List (V × A)) : List (V × A):=τ.filter fun p=>match p.2 with
  | .loc _=>false
  | _=>true
/-- what does not change through a def's body -/
structure Ctx where
  R : Hp
  S0 : Hp
  os : List (Nat × V)
/-- the tables of code objects that the program's lambdas are noted in -/
class Tbs where
  T : Fg → List (Addr × Str)
/-- no tables at all -/
@[reducible] def tbs0 : Tbs:=⟨fun _=>[]⟩
def spc : HO → Bool
  | .tbl _=>true
  | _=>false
variable [Tbs]
def Tb (K : Fg) (R S H : Hp) : Prop:=∀ p ∈ Tbs.T K,R p.1 = none ∧ S p.1 = none ∧ ∃ ps : Array Value,H p.1 = some (.tbl ps) ∧ TriplesOk ps.toList ∧ ∀ (pos : Pos) (cv : Value),codeAmong pos ps.toList = some cv → ∃ c,cv = .ref c ∧ S c = some (LamX.CodeO c p.2)
theorem Tb.mv {K : Fg} {R S H R' S' H' : Hp} (h : Tb K R S H) (hR : ∀ a ps,H a = some (.tbl ps) → R a = none → R' a = none) (hS : ∀ a ps,H a = some (.tbl ps) → S a = none → S' a = none) (hM : Same S S') (hH : ∀ b o,spc o = true → H b = some o → H' b = some o) : Tb K R' S' H':=fun p hp=>by
  obtain ⟨h1,h2,ps,h3,h4,h5⟩:=h p hp
  refine ⟨hR _ _ h3 h1,hS _ _ h3 h2,ps,hH _ _ rfl h3,h4,fun pos cv hc=>?_⟩
  obtain ⟨c,e1,e2⟩:=h5 pos cv hc
  exact ⟨c,e1,hM _ _ e2⟩
theorem Tb.new {K : Fg} {R S H : Hp} {p : Addr} {o : HO} (h : Tb K R S H) (hp : H p = none) : Tb K R S (upd H p o):=h.mv (fun _ _ _ e=>e) (fun _ _ _ e=>e) (Same.refl S) fun b u _ e=>by
  rw [upd_ne (ne_of_none e hp)]; exact e
theorem Tb.put {K : Fg} {R S H : Hp} {p : Addr} {o u : HO} (h : Tb K R S H) (hp : H p = some u) (hu : spc u = false) : Tb K R S (upd H p o):=h.mv (fun _ _ _ e=>e) (fun _ _ _ e=>e) (Same.refl S) fun b w hw e=>by
  rw [upd_ne (fun z=>by rw [z,hp] at e; cases e; rw [hu] at hw; cases hw)]; exact e
theorem Tb.addF {K : Fg} {R S H : Hp} {g : List Addr} (h : Tb K R S H) (hs : ∀ a ∈ g,S a = none) (hg : ∀ a ∈ g,∃ o,H a = some o ∧ spc o = false) : Tb K R (addF S H g) H:=h.mv (fun _ _ _ e=>e) (fun a ps e1 e2=>by
  rw [Xy (fun z=>by
    obtain ⟨o,q1,q2⟩:=hg a z
    rw [e1] at q1; cases q1; cases q2)]
  exact e2) (Lh hs) fun _ _ _ e=>e
section
variable {K : Fg} {S H : Hp}
mutual
/-- the own cells are no tables -/
theorem RepA.nsp : ∀ (x : A) (v : V) (fp : List Addr),RepA K S H x v fp → ∀ a ∈ fp,∃ o,H a = some o ∧ spc o = false
  | .v d,v,fp,h,a,ha=>by
    simp only [RepA] at h
    simp [h.2] at ha
  | .lst xs,v,fp,h,b,hb=>by
    simp only [RepA] at h
    obtain ⟨a,vs,e,h1,h2,h3⟩:=h
    have : b = a:=by simpa [h3] using hb
    exact ⟨_,by rw [this]; exact h1,rfl⟩
  | .dic xs,v,fp,h,b,hb=>by
    simp only [RepA] at h
    obtain ⟨a,vs,e,h1,h2,h3⟩:=h
    have : b = a:=by simpa [h3] using hb
    exact ⟨_,by rw [this]; exact h1,rfl⟩
  | .obj C fs,v,fp,h,b,hb=>by
    simp only [RepA] at h
    obtain ⟨a,dx,vs,g,e,h1,h2,h3⟩:=h
    rw [h3] at hb
    rcases List.mem_cons.mp hb with q | q
    · exact ⟨_,by rw [q]; exact h1,rfl⟩
    · exact RepAF.nsp fs vs g h2 b q
  | .loc i,v,fp,h,_,_=>by
    simp only [RepA] at h
  | .nl xs,v,fp,h,b,hb=>by
    simp only [RepA] at h
    obtain ⟨a,vs,g,e,h1,h2,h3⟩:=h
    rw [h3] at hb
    rcases List.mem_cons.mp hb with q | q
    · exact ⟨_,by rw [q]; exact h1,rfl⟩
    · exact RepAL.nsp xs vs g h2 b q
  | .nt xs,v,fp,h,b,hb=>by
    simp only [RepA] at h
    obtain ⟨a,vs,g,e,h1,h2,h3⟩:=h
    rw [h3] at hb
    rcases List.mem_cons.mp hb with q | q
    · exact ⟨_,by rw [q]; exact h1,rfl⟩
    · exact RepAL.nsp xs vs g h2 b q
  | .nd xs,v,fp,h,b,hb=>by
    simp only [RepA] at h
    obtain ⟨a,vs,g,e,h1,h2,h3⟩:=h
    rw [h3] at hb
    rcases List.mem_cons.mp hb with q | q
    · exact ⟨_,by rw [q]; exact h1,rfl⟩
    · exact RepAK.nsp xs vs g h2 b q
  | .cel w x,v,fp,h,a,ha=>by
    simp only [RepA] at h
    exact RepA.nsp x v fp h.2.2 a ha
  | .pth _ _ w,v,fp,h,a,ha=>by
    simp only [RepA] at h
    simp [h.2.2] at ha
theorem RepAF.nsp : ∀ (xs : List (Str × A)) (vs : List (Str × V)) (fp : List Addr),RepAF K S H xs vs fp → ∀ a ∈ fp,∃ o,H a = some o ∧ spc o = false
  | [],vs,fp,h,a,ha=>by
    simp only [RepAF] at h
    simp [h.2] at ha
  | (k,x) :: xs,vs,fp,h,a,ha=>by
    simp only [RepAF] at h
    obtain ⟨v,r,g,g',e,h1,h2,h3⟩:=h
    rw [h3] at ha
    rcases List.mem_append.mp ha with q | q
    · exact RepA.nsp x v g h1 a q
    · exact RepAF.nsp xs r g' h2 a q
theorem RepAL.nsp : ∀ (xs : List A) (vs : List V) (fp : List Addr),RepAL K S H xs vs fp → ∀ a ∈ fp,∃ o,H a = some o ∧ spc o = false
  | [],vs,fp,h,a,ha=>by
    simp only [RepAL] at h
    simp [h.2] at ha
  | x :: xs,vs,fp,h,a,ha=>by
    simp only [RepAL] at h
    obtain ⟨v,r,g,g',e,h1,h2,h3⟩:=h
    rw [h3] at ha
    rcases List.mem_append.mp ha with q | q
    · exact RepA.nsp x v g h1 a q
    · exact RepAL.nsp xs r g' h2 a q
theorem RepAK.nsp : ∀ (xs : List (Key × A)) (vs : List (Key × V)) (fp : List Addr),RepAK K S H xs vs fp → ∀ a ∈ fp,∃ o,H a = some o ∧ spc o = false
  | [],vs,fp,h,a,ha=>by
    simp only [RepAK] at h
    simp [h.2] at ha
  | (k,x) :: xs,vs,fp,h,a,ha=>by
    simp only [RepAK] at h
    obtain ⟨v,r,g,g',e,h1,h2,h3⟩:=h
    rw [h3] at ha
    rcases List.mem_append.mp ha with q | q
    · exact RepA.nsp x v g h1 a q
    · exact RepAK.nsp xs r g' h2 a q
end
theorem RepP.nsp : ∀ {ps : List (V × A)} {fp : List Addr},RepP K S H ps fp → ∀ a ∈ fp,∃ o,H a = some o ∧ spc o = false:=by
  intro ps
  induction ps with
  | nil=>intro fp h a ha; cases h; simp at ha
  | cons x ps ih =>
    obtain ⟨v,x⟩:=x
    intro fp h a ha
    obtain ⟨g,h',h1,h2,h3⟩:=h
    subst h3
    rcases List.mem_append.mp ha with q | q
    · exact h1.nsp x v g a q
    · exact ih h2 a q
end
structure Stt (K : Fg) (c : Ctx) (S H : Hp) (σ : L2.St) (ρ : J0) (τ : List (V × A)) : Prop where
  own : ∃ fp,RepP K S H (Y2 ρ σ ++ Yc τ) fp ∧ fp.Nodup ∧ ∀ a ∈ fp,S a = none ∧ c.R a = none
  env : EnvOk ρ σ
  loc : ∀ v i,(v,.loc i) ∈ τ → σ[i]? = some (some v) ∧ ∃ y,ρ[i]? = some (some y)
  le : Le S H
  r : Same c.R H
  new : ∀ a,c.R a ≠ none → S a = c.S0 a
  up : Same c.S0 S
  os : ∀ p ∈ c.os,σ[p.1]? = some (some p.2)
  tb : Tb K c.R S H
end Vs
namespace Vs
open PySem L2
variable [Tbs]
theorem Tb.lk {K : Fg} {R S H : Hp} {d : Addr} {o u : HO} (h : Tb K R S H) (hd : H d = some u) (hu : spc u = false) : Tb K (upd R d o) S H:=h.mv (fun a ps e1 e2=>by
  rw [upd_ne (fun z=>by rw [z,hd] at e1; cases e1; cases hu)]; exact e2) (fun _ _ _ e=>e) (Same.refl S) fun _ _ _ e=>e
theorem Tb.bk {K : Fg} {R S H : Hp} {d : Addr} {o : HO} (h : Tb K (upd R d o) S H) : Tb K R S H:=fun p hp=>by
  obtain ⟨h1,h2⟩:=h p hp
  refine ⟨?_,h2⟩
  by_cases q : p.1 = d
  · rw [q,upd_same] at h1; cases h1
  · rw [upd_ne q] at h1; exact h1
theorem Fk : ∀ {ρ : J0} {σ : L2.St} {i : Nat} {y : A} {v : V},i < ρ.length → σ[i]? = some (some v) → (Y2 (ρ.set i (some y)) σ).Perm ((v,y) :: Y2 (ρ.set i none) σ)
  | [],_,_,_,_,h,_=>by simp at h
  | o :: ρ,[],_,_,_,_,h=>by simp at h
  | o :: ρ,w :: σ,0,y,v,_,h=>by
    have e : w = some v:=by simpa using h
    subst e
    simp only [List.set_cons_zero,Y2]
    exact .refl _
  | o :: ρ,w :: σ,i + 1,y,v,hl,h=>by
    have ih:=Fk (ρ:=ρ) (σ:=σ) (i:=i) (y:=y) (v:=v) (by simpa using hl) (by simpa using h)
    simp only [List.set_cons_succ]
    cases o with
    | none=>cases w <;> simpa only [Y2] using ih
    | some x =>
      cases w with
      | none=>simpa only [Y2] using ih
      | some u =>
        simp only [Y2]
        exact (List.Perm.cons _ ih).trans (.swap _ _ _)
theorem Lz : ∀ {ρ : J0} {σ : L2.St} {i : Nat} {w : Option V},Y2 (ρ.set i none) (σ.set i w) = Y2 (ρ.set i none) σ
  | [],_,_,_=>by simp [Y2]
  | o :: ρ,[],i,_=>by simp
  | o :: ρ,u :: σ,0,w=>by cases u <;> cases w <;> simp [Y2]
  | o :: ρ,u :: σ,i + 1,w=>by
    have ih:=Lz (ρ:=ρ) (σ:=σ) (i:=i) (w:=w)
    simp only [List.set_cons_succ]
    cases o <;> cases u <;> simp [Y2,ih]
theorem Hj : ∀ {ρ : J0} {i : Nat} {o : Option A},ρ[i]? = some o → ρ.set i o = ρ
  | [],_,_,h=>by simp at h
  | a :: ρ,0,o,h=>by
    have e : a = o:=by simpa using h
    simp [e]
  | a :: ρ,i + 1,o,h=>by
    simp only [List.set_cons_succ]
    rw [Hj (ρ:=ρ) (i:=i) (o:=o) (by simpa using h)]
theorem Z5 {α : Type} {l : List α} {i : Nat} {x : α} (h : l[i]? = some x) : i < l.length:=(List.getElem?_eq_some_iff.mp h).1
theorem Zp {ρ : J0} {σ : L2.St} {i : Nat} {y : A} {v : V} (h : ρ[i]? = some (some y)) (hv : σ[i]? = some (some v)) : (Y2 ρ σ).Perm ((v,y) :: Y2 (ρ.set i none) σ):=by
  have p:=Fk (ρ:=ρ) (σ:=σ) (i:=i) (y:=y) (v:=v) (Z5 h) hv
  rwa [Hj h] at p
theorem set_set {α : Type} (l : List α) (i : Nat) (a b : α) : (l.set i a).set i b = l.set i b:=by simp
theorem EnvOk.get : ∀ {ρ : J0} {σ : L2.St} {i : Nat} {y : A},EnvOk ρ σ → ρ[i]? = some (some y) → (∃ v,σ[i]? = some (some v)) ∧ ∀ j,y ≠ .loc j
  | [],_,_,_,_,h=>by simp at h
  | o :: ρ,σ,0,y,he,h=>by
    obtain ⟨w,r,rfl,h1,h2⟩:=he
    have e : o = some y:=by simpa using h
    obtain ⟨⟨v,hv⟩,h3⟩:=h1 y e
    exact ⟨⟨v,by simp [hv]⟩,h3⟩
  | o :: ρ,σ,i + 1,y,he,h=>by
    obtain ⟨w,r,rfl,h1,h2⟩:=he
    obtain ⟨⟨v,hv⟩,h3⟩:=h2.get (i:=i) (y:=y) (by simpa using h)
    exact ⟨⟨v,by simpa using hv⟩,h3⟩
theorem EnvOk.len : ∀ {ρ : J0} {σ : L2.St},EnvOk ρ σ → σ.length = ρ.length
  | [],σ,h=>by cases h; rfl
  | o :: ρ,σ,h=>by
    obtain ⟨w,r,rfl,h1,h2⟩:=h
    simp [h2.len]
/-- one name's thing is exchanged -/
theorem EnvOk.put : ∀ {ρ : J0} {σ : L2.St} {i : Nat} {o : Option A},EnvOk ρ σ → (∀ y,o = some y → (∃ v,σ[i]? = some (some v)) ∧ ∀ j,y ≠ .loc j) → EnvOk (ρ.set i o) σ
  | [],_,_,_,he,_=>by simpa using he
  | u :: ρ,σ,0,o,he,h=>by
    obtain ⟨w,r,rfl,h1,h2⟩:=he
    refine ⟨w,r,rfl,fun y hy=>?_,h2⟩
    obtain ⟨⟨v,hv⟩,h3⟩:=h y hy
    exact ⟨⟨v,by simpa using hv⟩,h3⟩
  | u :: ρ,σ,i + 1,o,he,h=>by
    obtain ⟨w,r,rfl,h1,h2⟩:=he
    refine ⟨w,r,rfl,h1,h2.put (i:=i) (o:=o) fun y hy=>?_⟩
    obtain ⟨⟨v,hv⟩,h3⟩:=h y hy
    exact ⟨⟨v,by simpa using hv⟩,h3⟩
/-- a name gets a value -/
theorem EnvOk.store : ∀ {ρ : J0} {σ : L2.St} {i : Nat} {o : Option A} {w : Option V},EnvOk ρ σ → (∀ y,o = some y → (∃ v,w = some v) ∧ ∀ j,y ≠ .loc j) → EnvOk (ρ.set i o) (σ.set i w)
  | [],σ,_,_,_,he,_=>by
    cases he
    simp [EnvOk]
  | u :: ρ,σ,0,o,w',he,h=>by
    obtain ⟨w,r,rfl,h1,h2⟩:=he
    exact ⟨w',r,rfl,h,h2⟩
  | u :: ρ,σ,i + 1,o,w',he,h=>by
    obtain ⟨w,r,rfl,h1,h2⟩:=he
    exact ⟨w,r.set i w',rfl,h1,h2.store (i:=i) (o:=o) (w:=w') h⟩
theorem RepA.ofv {K : Fg} {S H : Hp} {d : D} {v : V} (h : Rep K S d v) : RepA K S H (.v d) v []:=by
  simp only [RepA]
  exact ⟨h,trivial⟩
def Yg : A → Bool
  | .loc _=>true
  | _=>false
theorem By {v : V} {x : A} {τ : List (V × A)} (h : Yg x = false) : Yc ((v,x) :: τ) = (v,x) :: Yc τ:=by
  cases x <;> first | rfl | cases h
theorem JXa {v : V} {i : Nat} {τ : List (V × A)} : Yc ((v,.loc i) :: τ) = Yc τ:=rfl
theorem Pj {x : A} (h : ∀ j,x ≠ .loc j) : Yg x = false:=by
  cases x <;> first | rfl | exact absurd rfl (h _)
theorem Fi {x : A} (h : Yg x = false) : ∀ j,x ≠ .loc j:=by
  intro j e; subst e; cases h
section
variable {K : Fg} {c : Ctx} {S H : Hp} {σ : L2.St} {ρ : J0} {τ : List (V × A)} {v : V} {x y : A} {i : Nat}
/-- what is held is let go -/
theorem Stt.drop (s : Stt K c S H σ ρ ((v,x) :: τ)) : Stt K c S H σ ρ τ:=by
  refine ⟨?_,s.env,fun v' i m=>s.loc v' i (List.mem_cons_of_mem _ m),s.le,s.r,s.new,s.up,s.os,s.tb⟩
  obtain ⟨fp,h1,h2,h3⟩:=s.own
  by_cases hx : Yg x = true
  · cases x with
    | loc j=>exact ⟨fp,h1,h2,h3⟩
    | _=>cases hx
  · have hx' : Yg x = false:=by simpa using hx
    rw [By hx'] at h1
    obtain ⟨fq,q1,q2⟩:=RepP.perm (List.perm_middle (l₁:=Y2 ρ σ) (a:=(v,x)) (l₂:=Yc τ)) h1
    obtain ⟨g,h',a1,a2,a3⟩:=q1
    subst a3
    have nd : (g ++ h').Nodup:=q2.nodup_iff.mp h2
    exact ⟨h',a2,(List.nodup_append.mp nd).2.1,fun a ha=>h3 a (q2.symm.subset (List.mem_append_right _ ha))⟩
theorem Stt.drops {τ' : List (V × A)} : ∀ {ts : List (V × A)},Stt K c S H σ ρ (ts ++ τ') → Stt K c S H σ ρ τ'
  | [],s=>s
  | (v,x) :: ts,s=>Stt.drops (ts:=ts) s.drop
/-- one held thing ahead: its own cells,those of all else -/
theorem Stt.top (s : Stt K c S H σ ρ ((v,x) :: τ)) (hx : Yg x = false) :
    ∃ g h,RepA K S H x v g ∧ RepP K S H (Y2 ρ σ ++ Yc τ) h ∧ (g ++ h).Nodup ∧ ∀ a ∈ g ++ h,S a = none ∧ c.R a = none:=by
  obtain ⟨fp,h1,h2,h3⟩:=s.own
  rw [By hx] at h1
  obtain ⟨fq,q1,q2⟩:=RepP.perm (List.perm_middle (l₁:=Y2 ρ σ) (a:=(v,x)) (l₂:=Yc τ)) h1
  obtain ⟨g,h',a1,a2,a3⟩:=q1
  subst a3
  exact ⟨g,h',a1,a2,q2.nodup_iff.mp h2,fun a ha=>h3 a (q2.symm.subset ha)⟩
/-- from such parts a state -/
theorem Stt.push {S' H' : Hp} {ρ' : J0} {τ' : List (V × A)} {g h : List Addr} (hx : Yg x = false) (h1 : RepA K S' H' x v g) (h2 : RepP K S' H' (Y2 ρ' σ ++ Yc τ') h) (nd : (g ++ h).Nodup)
    (h3 : ∀ a ∈ g ++ h,S' a = none ∧ c.R a = none) (he : EnvOk ρ' σ) (hl : ∀ v i,(v,.loc i) ∈ τ' → σ[i]? = some (some v) ∧ ∃ y,ρ'[i]? = some (some y)) (le : Le S' H') (r : Same c.R H') (new : ∀ a,c.R a ≠ none → S' a = c.S0 a) (up : Same c.S0 S')
    (os : ∀ p ∈ c.os,σ[p.1]? = some (some p.2)) (tb : Tb K c.R S' H') : Stt K c S' H' σ ρ' ((v,x) :: τ'):=by
  refine ⟨?_,he,fun v' j m=>?_,le,r,new,up,os,tb⟩
  · obtain ⟨fq,q1,q2⟩:=RepP.perm (List.perm_middle (l₁:=Y2 ρ' σ) (a:=(v,x)) (l₂:=Yc τ')).symm (show RepP K S' H' ((v,x) :: (Y2 ρ' σ ++ Yc τ')) (g ++ h) from ⟨g,h,h1,h2,rfl⟩)
    exact ⟨fq,by rw [By hx]; exact q1,q2.nodup_iff.mp nd,fun a ha=>h3 a (q2.symm.subset ha)⟩
  · rcases List.mem_cons.mp m with q | q
    · injection q with q1 q2; subst q2; cases hx
    · exact hl v' j q
/-- a shared datum is held -/
theorem Stt.hold {d : D} (s : Stt K c S H σ ρ τ) (h : Rep K S d v) : Stt K c S H σ ρ ((v,.v d) :: τ):=by
  obtain ⟨fp,h1,h2,h3⟩:=s.own
  exact Stt.push (g:=[]) (h:=fp) rfl (RepA.ofv h) h1 (by simpa using h2) (by simpa using h3) s.env s.loc s.le s.r s.new s.up s.os s.tb
/-- what is held is shared data: they stand in S -/
theorem Stt.data {d : D} (s : Stt K c S H σ ρ ((v,.v d) :: τ)) : Rep K S d v:=by
  obtain ⟨g,h,h1,_⟩:=s.top rfl
  simp only [RepA] at h1
  exact h1.1
theorem Stt.dataMem {d : D} (s : Stt K c S H σ ρ τ) (m : (v,.v d) ∈ τ) : Rep K S d v:=by
  obtain ⟨fp,h1,_,_⟩:=s.own
  have m2 : (v,A.v d) ∈ Y2 ρ σ ++ Yc τ:=List.mem_append_right _ (List.mem_filter.mpr ⟨m,rfl⟩)
  have key : ∀ (ps : List (V × A)) (fp : List Addr),RepP K S H ps fp → (v,A.v d) ∈ ps → Rep K S d v:=by
    intro ps
    induction ps with
    | nil=>intro _ _ z; simp at z
    | cons p ps ih =>
      obtain ⟨u,y⟩:=p
      intro fp h z
      obtain ⟨g,h',a1,a2,_⟩:=h
      rcases List.mem_cons.mp z with q | q
      · injection q with q1 q2; subst q1 q2
        simp only [RepA] at a1
        exact a1.1
      · exact ih h' a2 q
  exact key _ _ h1 m2
/-- a slot that holds shared data -/
theorem Stt.slot {d : D} (s : Stt K c S H σ ρ τ) (h : ρ[i]? = some (some (.v d))) : ∃ v,σ[i]? = some (some v) ∧ Rep K S d v:=by
  obtain ⟨⟨v,hv⟩,_⟩:=s.env.get h
  refine ⟨v,hv,?_⟩
  obtain ⟨fp,h1,_,_⟩:=s.own
  obtain ⟨f1,f2,q1,q2,q3⟩:=h1.append
  obtain ⟨fq,z1,z2⟩:=RepP.perm (Zp h hv) q1
  obtain ⟨g,h',a1,_,_⟩:=z1
  simp only [RepA] at a1
  exact a1.1
/-- an order of what is held -/
theorem Stt.swap {τ' : List (V × A)} (s : Stt K c S H σ ρ τ) (p : τ.Perm τ') : Stt K c S H σ ρ τ':=by
  refine ⟨?_,s.env,fun v' i m=>s.loc v' i (p.symm.subset m),s.le,s.r,s.new,s.up,s.os,s.tb⟩
  obtain ⟨fp,h1,h2,h3⟩:=s.own
  obtain ⟨fq,q1,q2⟩:=RepP.perm (List.Perm.append_left (Y2 ρ σ) (p.filter _)) h1
  exact ⟨fq,q1,q2.nodup_iff.mp h2,fun a ha=>h3 a (q2.symm.subset ha)⟩
/-- what a thing is now -/
noncomputable def Kk (o : Option A) (w : V) : Option D:=match o with
  | some (.cel w' n)=>@ite _ (w' = w) (Classical.propDecidable _) (some n.toD) none
  | _=>none
noncomputable def dat (x : A) (ρ : J0) : Option D:=match x with
  | .loc i=>(match ρ[i]? with
    | some (some y)=>some y.toD
    | _=>none)
  | .pth i p w=>(match ρ[i]? with
    | some (some t)=>Kk (t.at p) w
    | _=>none)
  | y=>some y.toD
theorem JUr {o : Option A} {w : V} {d : D} (h : Kk o w = some d) : ∃ n,o = some (.cel w n) ∧ n.toD = d:=by
  unfold Kk at h
  split at h
  · rename_i w' n
    by_cases e : w' = w
    · rw [if_pos e] at h
      subst e
      exact ⟨n,rfl,Option.some.inj h⟩
    · rw [if_neg e] at h; cases h
  · cases h
def Az : A → Bool
  | .pth _ _ _=>true
  | _=>false
theorem RepP.pick {ps : List (V × A)} : ∀ {fp : List Addr},RepP K S H ps fp → (v,x) ∈ ps → ∃ g,RepA K S H x v g ∧ ∀ a ∈ g,a ∈ fp:=by
  induction ps with
  | nil=>intro _ _ z; simp at z
  | cons p ps ih =>
    obtain ⟨u,y⟩:=p
    intro fp h z
    obtain ⟨g,h',a1,a2,a3⟩:=h
    subst a3
    rcases List.mem_cons.mp z with q | q
    · injection q with q1 q2; subst q1 q2
      exact ⟨g,a1,fun a ha=>List.mem_append_left _ ha⟩
    · obtain ⟨g',b1,b2⟩:=ih a2 q
      exact ⟨g',b1,fun a ha=>List.mem_append_right _ (b2 a ha)⟩
/-- what a reference tells of -/
theorem Stt.atP {p : List Stp} {w : V} {t n : A} (s : Stt K c S H σ ρ τ) (m : (v,A.pth i p w) ∈ τ) (ht : ρ[i]? = some (some t)) (hn : t.at p = some (.cel w n)) : ∃ g,RepA K S H n v g ∧ v = w:=by
  obtain ⟨fp,h1,_,_⟩:=s.own
  have m2 : (v,A.pth i p w) ∈ Y2 ρ σ ++ Yc τ:=List.mem_append_right _ (List.mem_filter.mpr ⟨m,rfl⟩)
  obtain ⟨g,a1,_⟩:=h1.pick m2
  simp only [RepA] at a1
  obtain ⟨⟨u,hu⟩,_⟩:=s.env.get ht
  obtain ⟨f1,f2,q1,q2,q3⟩:=h1.append
  obtain ⟨fq,z1,z2⟩:=RepP.perm (Zp ht hu) q1
  obtain ⟨g1,h',b1,_,_⟩:=z1
  obtain ⟨v',g2,f,c1,c2,c3⟩:=RepA.lens b1 hn
  simp only [RepA] at c1
  rw [a1.1,← c1.1]
  exact ⟨g2,c1.2.2,rfl⟩
/-- .. in the heap -/
theorem Stt.dat {d : D} (s : Stt K c S H σ ρ τ) (m : (v,x) ∈ τ) (h : dat x ρ = some d) : Rep K H d v:=by
  obtain ⟨fp,h1,_,_⟩:=s.own
  cases hx : Yg x with
  | false =>
    cases hp : Az x with
    | false =>
      have e : x.toD = d:=by
        cases x <;> first | exact Option.some.inj h | (cases hx; done) | (cases hp; done)
      have m2 : (v,x) ∈ Y2 ρ σ ++ Yc τ:=List.mem_append_right _ (List.mem_filter.mpr ⟨m,by cases x <;> first | rfl | cases hx⟩)
      obtain ⟨g,a1,_⟩:=h1.pick m2
      rw [← e]
      exact a1.plain s.le x v g (fun _ _ _ q=>q)
    | true =>
      cases x with
      | pth i p w =>
        simp only [Vs.dat] at h
        split at h
        · rename_i t ht
          obtain ⟨n,e1,e2⟩:=JUr h
          obtain ⟨g,a1,_⟩:=s.atP m ht e1
          rw [← e2]
          exact a1.plain s.le n v g (fun _ _ _ q=>q)
        · cases h
      | _=>cases hp
  | true =>
    cases x with
    | loc i =>
      obtain ⟨hv,y,hy⟩:=s.loc v i m
      have e : y.toD = d:=by
        simp only [Vs.dat,hy] at h
        exact Option.some.inj h
      obtain ⟨f1,f2,q1,q2,q3⟩:=h1.append
      obtain ⟨fq,z1,z2⟩:=RepP.perm (Zp hy hv) q1
      obtain ⟨g,h',a1,_,_⟩:=z1
      rw [← e]
      exact a1.plain s.le y v g (fun _ _ _ q=>q)
    | _=>cases hx
theorem Stt.fresh (s : Stt K c S H σ ρ τ) {p : Addr} (h : H p = none) : S p = none ∧ c.R p = none ∧ ∀ fp,RepP K S H (Y2 ρ σ ++ Yc τ) fp → p ∉ fp :=
  ⟨s.le.none h,Same.none s.r h,fun fp q z=>q.there p z h⟩
/-- a new owned cell -/
theorem Stt.alloc {p : Addr} {o : HO} (s : Stt K c S H σ ρ τ) (hp : H p = none) (hx : Yg x = false) (h : RepA K S (upd H p o) x (.ref p) [p]) : Stt K c S (upd H p o) σ ρ ((.ref p,x) :: τ):=by
  obtain ⟨f1,f2,f3⟩:=s.fresh hp
  obtain ⟨fp,h1,h2,h3⟩:=s.own
  have np:=f3 fp h1
  refine Stt.push (g:=[p]) (h:=fp) hx h ?_ ?_ ?_ s.env s.loc (s.le.up f1) (fun a o e=>?_) s.new s.up s.os (s.tb.new hp)
  · exact h1.keep (Same.refl S) fun a ha=>upd_ne (fun z=>np (z ▸ ha))
  · exact List.nodup_cons.mpr ⟨np,h2⟩
  · intro a ha
    rcases List.mem_cons.mp ha with q | q
    · exact ⟨by rw [q]; exact f1,by rw [q]; exact f2⟩
    · exact h3 a q
  · rw [upd_ne (ne_of_none e f2)]; exact s.r a o e
/-- a new shared cell -/
theorem Stt.share {p : Addr} {o : HO} {d : D} (s : Stt K c S H σ ρ τ) (hp : H p = none) (h : Rep K (upd S p o) d (.ref p)) : Stt K c (upd S p o) (upd H p o) σ ρ ((.ref p,.v d) :: τ):=by
  obtain ⟨f1,f2,f3⟩:=s.fresh hp
  obtain ⟨fp,h1,h2,h3⟩:=s.own
  have np:=f3 fp h1
  refine Stt.push (g:=[]) (h:=fp) rfl (RepA.ofv h) ?_ (by simpa using h2) ?_ s.env s.loc ?_ (fun a o e=>?_) (fun a ha=>?_) (fun a u e=>?_) s.os (s.tb.mv (fun _ _ _ e=>e) (fun a ps e1 e2=>by rw [upd_ne (ne_of_none e1 hp)]; exact e2) (Same.up f1) fun b u _ e=>by rw [upd_ne (ne_of_none e hp)]; exact e)
  · exact h1.keep (Same.up f1) fun a ha=>upd_ne (fun z=>np (z ▸ ha))
  · intro a ha
    have ha : a ∈ fp:=by simpa using ha
    obtain ⟨q1,q2⟩:=h3 a ha
    exact ⟨by rw [upd_ne (show a ≠ p from fun z=>np (z ▸ ha))]; exact q1,q2⟩
  · intro a u e
    by_cases q : a = p
    · subst q
      rw [upd_same] at e
      exact .inl (by rw [upd_same]; exact e)
    · rw [upd_ne q] at e
      rcases s.le a u e with z | ⟨ob,ws,z1,z2⟩
      · exact .inl (by rw [upd_ne q]; exact z)
      · exact .inr ⟨ob,ws,z1,by rw [upd_ne q]; exact z2⟩
  · rw [upd_ne (ne_of_none e f2)]; exact s.r a o e
  · rw [upd_ne (show a ≠ p from fun z=>ha (by rw [z]; exact f2))]; exact s.new a ha
  · rw [upd_ne (ne_of_none (s.up a u e) f1)]; exact s.up a u e
/-- an untracked cell comes beside (an instance's own dict) -/
theorem Stt.beside {p : Addr} {o : HO} (s : Stt K c S H σ ρ τ) (hp : H p = none) : Stt K c S (upd H p o) σ ρ τ:=by
  obtain ⟨f1,f2,f3⟩:=s.fresh hp
  obtain ⟨fp,h1,h2,h3⟩:=s.own
  have np:=f3 fp h1
  refine ⟨⟨fp,h1.keep (Same.refl S) fun a ha=>upd_ne (fun z=>np (z ▸ ha)),h2,h3⟩,s.env,s.loc,s.le.up f1,fun a o e=>?_,s.new,s.up,s.os,s.tb.new hp⟩
  rw [upd_ne (ne_of_none e f2)]; exact s.r a o e
theorem Stt.freeze (s : Stt K c S H σ ρ ((v,x) :: τ)) (hx : Yg x = false) : ∃ S',Same S S' ∧ Stt K c S' H σ ρ ((v,.v x.toD) :: τ):=by
  obtain ⟨g,h,h1,h2,nd,h3⟩:=s.top hx
  have hg : ∀ a ∈ g,S a = none:=fun a ha=>(h3 a (List.mem_append_left _ ha)).1
  have sm : Same S (addF S H g):=Lh hg
  refine ⟨addF S H g,sm,Stt.push (g:=[]) (h:=h) rfl ?_ (h2.keep sm fun _ _=>rfl) (List.nodup_append.mp nd).2.1 ?_ s.env (fun v' i m=>s.loc v' i (List.mem_cons_of_mem _ m)) (JVk s.le) s.r (fun a ha=>?_) (fun a o e=>sm a o (s.up a o e)) s.os (s.tb.addF hg fun a ha=>h1.nsp x v g a ha)⟩
  · exact RepA.ofv (h1.plain (Le.of_same sm) x v g fun a ha o e=>by rw [Ny ha]; exact e)
  · intro a ha
    have ha : a ∈ h:=by simpa using ha
    have ng : a ∉ g:=fun z=>(List.nodup_append.mp nd).2.2 a z a ha rfl
    exact ⟨by rw [Xy ng]; exact (h3 a (List.mem_append_right _ ha)).1,(h3 a (List.mem_append_right _ ha)).2⟩
  · have ng : a ∉ g:=fun z=>ha (h3 a (List.mem_append_left _ z)).2
    rw [Xy ng]; exact s.new a ha
/-- a slot's thing is taken into the hand -/
theorem Stt.takeSlot (s : Stt K c S H σ ρ τ) (h : ρ[i]? = some (some y)) (hv : σ[i]? = some (some v)) (hn : ∀ u,(u,A.loc i) ∉ τ) : Stt K c S H σ (ρ.set i none) ((v,y) :: τ):=by
  have hy:=Pj (s.env.get h).2
  refine ⟨?_,s.env.put (fun _ e=>nomatch e),fun v' j m=>?_,s.le,s.r,s.new,s.up,s.os,s.tb⟩
  · obtain ⟨fp,h1,h2,h3⟩:=s.own
    have p : (Y2 ρ σ ++ Yc τ).Perm (Y2 (ρ.set i none) σ ++ Yc ((v,y) :: τ)):=by
      rw [By hy]
      exact (List.Perm.append_right _ (Zp h hv)).trans List.perm_middle.symm
    obtain ⟨fq,q1,q2⟩:=RepP.perm p h1
    exact ⟨fq,q1,q2.nodup_iff.mp h2,fun a ha=>h3 a (q2.symm.subset ha)⟩
  · rcases List.mem_cons.mp m with q | q
    · injection q with q1 q2; subst q2; cases hy
    · obtain ⟨z1,z2,z3⟩:=s.loc v' j q
      have ne : i ≠ j:=fun e=>hn v' (e ▸ q)
      exact ⟨z1,z2,by rw [List.getElem?_set_ne ne]; exact z3⟩
/-- a slot's thing is exchanged for what is done with it -/
theorem Stt.slotTo {S' H' : Hp} {y' : A} (s : Stt K c S H σ ρ τ) (h : ρ[i]? = some (some y)) (hv : σ[i]? = some (some v))
    (step : ∀ g f,RepA K S H y v g → RepP K S H (Y2 (ρ.set i none) σ ++ Yc τ) f → (g ++ f).Nodup → (∀ a ∈ g ++ f,S a = none ∧ c.R a = none) →
      ∃ g',RepA K S' H' y' v g' ∧ (g' ++ f).Nodup ∧ (∀ a ∈ g' ++ f,S' a = none ∧ c.R a = none) ∧ (∀ a ∈ f,H' a = H a) ∧ Same S S' ∧ Le S' H' ∧ Same c.R H' ∧ (∀ a,c.R a ≠ none → S' a = c.S0 a) ∧ Tb K c.R S' H')
    (hy : Yg y' = false) : Stt K c S' H' σ (ρ.set i (some y')) τ:=by
  obtain ⟨fp,h1,h2,h3⟩:=s.own
  have p : (Y2 ρ σ ++ Yc τ).Perm ((v,y) :: (Y2 (ρ.set i none) σ ++ Yc τ)):=List.Perm.append_right _ (Zp h hv)
  obtain ⟨fq,q1,q2⟩:=RepP.perm p h1
  obtain ⟨g,f,a1,a2,a3⟩:=q1
  subst a3
  obtain ⟨g',b1,b2,b3,b4,b5,b6,b7,b8,b9⟩:=step g f a1 a2 (q2.nodup_iff.mp h2) (fun a ha=>h3 a (q2.symm.subset ha))
  have p2 : ((v,y') :: (Y2 (ρ.set i none) σ ++ Yc τ)).Perm (Y2 (ρ.set i (some y')) σ ++ Yc τ):=List.Perm.append_right _ (Fk (Z5 h) hv).symm
  obtain ⟨fr,c1,c2⟩:=RepP.perm p2 (show RepP K S' H' ((v,y') :: (Y2 (ρ.set i none) σ ++ Yc τ)) (g' ++ f) from ⟨g',f,b1,a2.keep b5 b4,rfl⟩)
  refine ⟨⟨fr,c1,c2.nodup_iff.mp b2,fun a ha=>b3 a (c2.symm.subset ha)⟩,s.env.put (fun z e=>by cases e; exact ⟨⟨v,hv⟩,Fi hy⟩),fun v' j m=>?_,b6,b7,b8,fun a o e=>b5 a o (s.up a o e),s.os,b9⟩
  obtain ⟨z1,z,z2⟩:=s.loc v' j m
  by_cases e : i = j
  · subst e; exact ⟨z1,y',by rw [List.getElem?_set_self (Z5 h)]⟩
  · exact ⟨z1,z,by rw [List.getElem?_set_ne e]; exact z2⟩
/-- a slot's thing becomes shared -/
theorem Stt.freezeSlot (s : Stt K c S H σ ρ τ) (h : ρ[i]? = some (some y)) : ∃ S',Same S S' ∧ Stt K c S' H σ (ρ.set i (some (.v y.toD))) τ:=by
  obtain ⟨⟨v,hv⟩,hy⟩:=s.env.get h
  obtain ⟨fp,h1,h2,h3⟩:=s.own
  have p : (Y2 ρ σ ++ Yc τ).Perm ((v,y) :: (Y2 (ρ.set i none) σ ++ Yc τ)):=List.Perm.append_right _ (Zp h hv)
  obtain ⟨fq,q1,q2⟩:=RepP.perm p h1
  obtain ⟨g,f,a1,a2,a3⟩:=q1
  refine ⟨addF S H g,Lh fun a ha=>(h3 a (q2.symm.subset (by rw [a3]; exact List.mem_append_left _ ha))).1,s.slotTo (y':=.v y.toD) h hv (fun g' f' b1 b2 nd b3=>?_) rfl⟩
  have eg : g' = g:=RepA.fp_eq y v g' g b1 a1
  subst eg
  have hg : ∀ a ∈ g',S a = none:=fun a ha=>(b3 a (List.mem_append_left _ ha)).1
  have sm : Same S (addF S H g'):=Lh hg
  refine ⟨[],?_,by simpa using (List.nodup_append.mp nd).2.1,fun a ha=>?_,fun _ _=>rfl,sm,JVk s.le,s.r,fun a ha=>?_,s.tb.addF hg fun a ha=>b1.nsp y v g' a ha⟩
  · exact RepA.ofv (b1.plain (Le.of_same sm) y v g' fun a ha o e=>by rw [Ny ha]; exact e)
  · have ha : a ∈ f':=by simpa using ha
    have ng : a ∉ g':=fun z=>(List.nodup_append.mp nd).2.2 a z a ha rfl
    exact ⟨by rw [Xy ng]; exact (b3 a (List.mem_append_right _ ha)).1,(b3 a (List.mem_append_right _ ha)).2⟩
  · have ng : a ∉ g':=fun z=>ha (b3 a (List.mem_append_left _ z)).2
    rw [Xy ng]; exact s.new a ha
end
end Vs
namespace Vs
open PySem L2
variable [Tbs]
abbrev AX:=Addr → List (Str × D) → J0 → Prop
abbrev AK:=A → J0 → Prop
abbrev AE:=AX → J0 → AK → Prop
abbrev AT:=AX → J0 → (Bool → J0 → Prop) → Prop
abbrev AA:=AX → J0 → (List A → J0 → Prop) → Prop
structure AEnds where
  nx : J0 → Prop
  rt : A → J0 → Prop
  bk : J0 → Prop
  ct : J0 → Prop
  ex : AX
abbrev AS:=AEnds → J0 → Prop
/-- what an exception's own dict tells -/
def XD (K : Fg) (S H : Hp) (dd : Option Addr) (fs : List (Str × D)) : Prop:=(fs = [] ∧ dd = none) ∨ ∃ d ws,dd = some d ∧ H d = some (.xd ws) ∧ RepF K S fs ws
def XOk (K : Fg) (c : Ctx) (W : WX) (EA : AX) : Prop:=∀ S H σ ρ C fs dd,Stt K c S H σ ρ [] → XD K S H dd fs → EA C fs ρ → W (.ref C) dd σ H
/-- what follows an expression -/
def KE (K : Fg) (c : Ctx) (σ : L2.St) (τ : List (V × A)) (Q : AK) : VK:=fun v H=>∃ S ρ x,Stt K c S H σ ρ ((v,x) :: τ) ∧ Q x ρ
def KT (K : Fg) (c : Ctx) (σ : L2.St) (τ : List (V × A)) (Q : Bool → J0 → Prop) : Bool → Hp → Prop:=fun b H=>∃ S ρ,Stt K c S H σ ρ τ ∧ Q b ρ
def KA (K : Fg) (c : Ctx) (σ : L2.St) (τ : List (V × A)) (Q : List A → J0 → Prop) : List V → Hp → Prop:=fun vs H=>∃ S ρ xs,vs.length = xs.length ∧ Stt K c S H σ ρ (vs.zip xs ++ τ) ∧ Q xs ρ
/-- the wish about exceptions; the slots that are never stored to -/
structure OL where
  l : List Nat
  J : Hp → Hp → L2.St → Prop
  un : ∀ S H σ d o ws,H d = some (.frz o (.dK ws)) → J S (upd H d (.dK ws)) σ → J S H σ
instance : Membership Nat OL:=⟨fun o i=>i ∈ o.l⟩
instance : Coe (List Nat) OL:=⟨fun l=>⟨l,fun _ _ _=>True,fun _ _ _ _ _ _ _ _=>trivial⟩⟩
structure Pm where
  W : WX
  O : OL
def OsIn (K : Fg) (c : Ctx) (O : OL) : Prop:=(∀ p ∈ c.os,p.1 ∈ O) ∧ (∀ j ∈ O,∃ v,(j,v) ∈ c.os) ∧ ∀ S H σ ρ τ,Stt K c S H σ ρ τ → O.J S H σ
def U5 (K : Fg) (P : Pm) (te : TE) (ae : AE) : Prop:=∀ c EA,OsIn K c P.O → XOk K c P.W EA → ∀ τ S H σ ρ Q (R : VK),Stt K c S H σ ρ τ → ae EA ρ Q → (∀ v H',KE K c σ τ Q v H' → R v H') → te σ H R
def Vp (K : Fg) (P : Pm) (tt : TT) (at_ : AT) : Prop:=∀ c EA,OsIn K c P.O → XOk K c P.W EA → ∀ τ S H σ ρ Q (R : Bool → Hp → Prop),Stt K c S H σ ρ τ → at_ EA ρ Q → (∀ b H',KT K c σ τ Q b H' → R b H') → tt σ H R
def X9 (K : Fg) (P : Pm) (ta : TA) (aa : AA) : Prop:=∀ c EA,OsIn K c P.O → XOk K c P.W EA → ∀ τ S H σ ρ Q (R : List V → Hp → Prop),Stt K c S H σ ρ τ → aa EA ρ Q → (∀ vs H',KA K c σ τ Q vs H' → R vs H') → ta σ H R
/-- the ends of a statement -/
structure Link (K : Fg) (c : Ctx) (D : Ends) (DA : AEnds) : Prop where
  nx : ∀ S H σ ρ,Stt K c S H σ ρ [] → DA.nx ρ → D.nx σ H
  rt : ∀ S H σ ρ v x,Stt K c S H σ ρ [(v,x)] → Yg x = false → DA.rt x ρ → D.rt v H
  bk : ∀ S H σ ρ,Stt K c S H σ ρ [] → DA.bk ρ → D.bk σ H
  ct : ∀ S H σ ρ,Stt K c S H σ ρ [] → DA.ct ρ → D.ct σ H
def Z2 (K : Fg) (P : Pm) (ts : TS) (as : AS) : Prop:=∀ c D DA,OsIn K c P.O → XOk K c P.W DA.ex → Link K c D DA → ∀ S H σ ρ,Stt K c S H σ ρ [] → as DA ρ → ts D σ H
structure ASp where
  pre : List A → Prop
  post : List A → A → List A → Prop
  exc : List A → Addr → List (Str × D) → List A → Prop:=fun _ _ _ _=>False
def lift (K : Fg) (sp : ASp) : Sp:=fun vs H Q E=>∃ (c : Ctx) (S : Hp) (xs : List A),vs.length = xs.length ∧ c.os = [] ∧ Stt K c S H (vs.map some) (xs.map some) [] ∧ Same c.S0 S ∧ Same S c.S0 ∧ sp.pre xs ∧
  (∀ r xs' v H' S',sp.post xs r xs' → vs.length = xs'.length → Yg r = false → Stt K c S' H' (vs.map some) (xs'.map some) [(v,r)] → Q v H') ∧
  (∀ C fs xs' dd H' S',sp.exc xs C fs xs' → vs.length = xs'.length → Stt K c S' H' (vs.map some) (xs'.map some) [] → XD K S' H' dd fs → E (.ref C) dd H')
theorem C5 {K : Fg} {sp : ASp} {vs : List V} {H : Hp} {Q Q' : VK} {E E' : XK} (h : lift K sp vs H Q E) (hq : ∀ v H,Q v H → Q' v H) (he : ∀ a b H,E a b H → E' a b H) : lift K sp vs H Q' E':=by
  obtain ⟨c,S,xs,h1,h2,h3,h4,h5,h6,h7,h8⟩:=h
  exact ⟨c,S,xs,h1,h2,h3,h4,h5,h6,fun r xs' v H' S' a b d e=>hq _ _ (h7 r xs' v H' S' a b d e),fun C fs xs' dd H' S' a b d e=>he _ _ _ (h8 C fs xs' dd H' S' a b d e)⟩
def pass : List A → J0 → Option (List A × J0)
  | [],ρ=>some ([],ρ)
  | .loc i :: xs,ρ=>(match ρ[i]? with
    | some (some y)=>(match pass xs (ρ.set i none) with
      | some (ys,ρ')=>some (y :: ys,ρ')
      | none=>none)
    | _=>none)
  | x :: xs,ρ=>(match pass xs ρ with
    | some (ys,ρ')=>some (x :: ys,ρ')
    | none=>none)
/-- what was handed over comes back -/
def give : List A → List A → J0 → J0
  | .loc i :: xs,y :: ys,ρ=>give xs ys (ρ.set i (some y))
  | _ :: xs,_ :: ys,ρ=>give xs ys ρ
  | _,_,ρ=>ρ
theorem Fz : ∀ {vs : List V} {xs : List A},vs.length = xs.length → Y2 (xs.map some) (vs.map some) = vs.zip xs
  | [],[],_=>rfl
  | [],_ :: _,h=>by simp at h
  | _ :: _,[],h=>by simp at h
  | v :: vs,x :: xs,h=>by
    simp only [List.map_cons,Y2,List.zip_cons_cons]
    rw [Fz (by simpa using h)]
theorem Fj : ∀ {vs : List V} {xs : List A},vs.length = xs.length → (∀ x ∈ xs,Yg x = false) → EnvOk (xs.map some) (vs.map some)
  | [],[],_,_=>rfl
  | [],_ :: _,h,_=>by simp at h
  | _ :: _,[],h,_=>by simp at h
  | v :: vs, x :: xs, h, hx => ⟨some v, vs.map some, rfl, fun y e => by
      have e2 : x = y:=Option.some.inj e
      exact ⟨⟨v,rfl⟩,e2 ▸ Fi (hx x (by simp))⟩,Fj (by simpa using h) fun y hy=>hx y (by simp [hy])⟩
theorem EnvOk.noloc : ∀ {xs : List A} {σ : L2.St},EnvOk (xs.map some) σ → ∀ x ∈ xs,Yg x = false
  | [],_,_,x,hx=>by simp at hx
  | y :: xs,σ,h,x,hx=>by
    obtain ⟨w,r,rfl,h1,h2⟩:=h
    rcases List.mem_cons.mp hx with e | e
    · rw [e]; exact Pj (h1 y rfl).2
    · exact EnvOk.noloc h2 x e
/-- S without some cells -/
def Ws (S : Hp) (fp : List Addr) : Hp:=fun a=>if a ∈ fp then none else S a
section
variable {K : Fg} {c : Ctx} {S H : Hp} {σ : L2.St} {ρ : J0} {τ : List (V × A)}
theorem Hi {fp : List Addr} {a : Addr} (h : a ∈ fp) : Ws S fp a = none:=if_pos h
theorem Ft {fp : List Addr} {a : Addr} (h : a ∉ fp) : Ws S fp a = S a:=if_neg h
theorem RepP.noloc : ∀ {vs : List V} {xs : List A} {fp : List Addr},vs.length = xs.length → RepP K S H (vs.zip xs) fp → ∀ x ∈ xs,Yg x = false
  | [],[],_,_,_,x,hx=>by simp at hx
  | [],_ :: _,_,h,_,_,_=>by simp at h
  | _ :: _,[],_,h,_,_,_=>by simp at h
  | v :: vs,y :: xs,fp,hl,h,x,hx=>by
    obtain ⟨g,f,h1,h2,_⟩:=h
    rcases List.mem_cons.mp hx with e | e
    · rw [e]
      cases y <;> first | rfl | (simp only [RepA] at h1)
    · exact RepP.noloc (by simpa using hl) h2 x e
theorem Np : ∀ {xs : List A} {ρ ρ' : J0} {ys : List A},pass xs ρ = some (ys,ρ') → ys.length = xs.length
  | [],ρ,ρ',ys,h=>by
    simp only [pass] at h
    injection h with h3
    injection h3 with h4 h5
    rw [← h4]
  | x :: xs,ρ,ρ',ys,h=>by
    cases hx : Yg x with
    | false =>
      have e : pass (x :: xs) ρ = (match pass xs ρ with
        | some (ys,ρ')=>some (x :: ys,ρ')
        | none=>none):=by cases x <;> first | rfl | cases hx
      rw [e] at h
      cases q : pass xs ρ with
      | none=>rw [q] at h; cases h
      | some z =>
        obtain ⟨zs,ρ1⟩:=z
        rw [q] at h
        injection h with h3
        injection h3 with h4 h5
        rw [← h4]
        simp [Np q]
    | true =>
      cases x with
      | loc i =>
        cases hy : ρ[i]? with
        | none=>simp [pass,hy] at h
        | some o =>
          cases o with
          | none=>simp [pass,hy] at h
          | some y =>
            simp only [pass,hy] at h
            cases q : pass xs (ρ.set i none) with
            | none=>rw [q] at h; cases h
            | some z =>
              obtain ⟨zs,ρ1⟩:=z
              rw [q] at h
              injection h with h3
              injection h3 with h4 h5
              rw [← h4]
              simp [Np q]
      | _=>cases hx
/-- the things: what is handed over,and the rest -/
theorem Nu : ∀ {xs : List A} {vs : List V} {ρ ρ' : J0} {ys : List A},vs.length = xs.length → pass xs ρ = some (ys,ρ') → (∀ v i,(v,A.loc i) ∈ vs.zip xs → σ[i]? = some (some v)) →
    (Y2 ρ σ ++ Yc (vs.zip xs)).Perm (vs.zip ys ++ Y2 ρ' σ)
  | [],vs,ρ,ρ',ys,hl,h,_=>by
    have e : vs = []:=by simpa using hl
    subst e
    simp only [pass] at h
    injection h with h3
    injection h3 with h4 h5
    subst h4 h5
    simp [Yc]
  | x :: xs,[],ρ,ρ',ys,hl,h,_=>by simp at hl
  | x :: xs,v :: vs,ρ,ρ',ys,hl,h,hs=>by
    have hl' : vs.length = xs.length:=by simpa using hl
    have hs' : ∀ v i,(v,A.loc i) ∈ vs.zip xs → σ[i]? = some (some v):=fun v i q=>hs v i (by simp [q])
    cases hx : Yg x with
    | false =>
      have e : pass (x :: xs) ρ = (match pass xs ρ with
        | some (ys,ρ')=>some (x :: ys,ρ')
        | none=>none):=by cases x <;> first | rfl | cases hx
      rw [e] at h
      cases q : pass xs ρ with
      | none=>rw [q] at h; cases h
      | some z =>
        obtain ⟨zs,ρ1⟩:=z
        rw [q] at h
        injection h with h3
        injection h3 with h4 h5
        subst h4 h5
        have ih:=Nu hl' q hs'
        rw [List.zip_cons_cons,By hx,List.zip_cons_cons]
        exact List.perm_middle.trans (List.Perm.cons _ ih)
    | true =>
      cases x with
      | loc i =>
        have hv : σ[i]? = some (some v):=hs v i (by simp)
        rw [List.zip_cons_cons,JXa]
        cases hy : ρ[i]? with
        | none=>simp [pass,hy] at h
        | some o =>
          cases o with
          | none=>simp [pass,hy] at h
          | some y =>
            simp only [pass,hy] at h
            cases q : pass xs (ρ.set i none) with
            | none=>rw [q] at h; cases h
            | some z =>
              obtain ⟨zs,ρ1⟩:=z
              rw [q] at h
              injection h with h3
              injection h3 with h4 h5
              subst h4 h5
              have ih:=Nu hl' q hs'
              rw [List.zip_cons_cons]
              exact (List.Perm.append_right _ (Zp hy hv)).trans (List.Perm.cons _ ih)
      | _=>cases hx
theorem getElem?_none_set {ρ : J0} {i j : Nat} (h : ρ[j]? = some none) : (ρ.set i none)[j]? = some none:=by
  by_cases e : i = j
  · subst e; rw [List.getElem?_set_self (Z5 h)]
  · rw [List.getElem?_set_ne e]; exact h
/-- a slot that is empty stays so while others are handed over -/
theorem Lx : ∀ {xs : List A} {ρ ρ' : J0} {ys : List A},pass xs ρ = some (ys,ρ') → ρ'.length = ρ.length ∧ (∀ j : Nat,ρ[j]? = some none → ρ'[j]? = some none) ∧ (∀ i : Nat,A.loc i ∈ xs → ρ'[i]? = some none) ∧
    (∀ j : Nat,A.loc j ∉ xs → ρ'[j]? = ρ[j]?) ∧ ∀ {σ : L2.St},EnvOk ρ σ → EnvOk ρ' σ
  | [],ρ,ρ',ys,h=>by
    simp only [pass] at h
    injection h with h3
    injection h3 with h4 h5
    subst h5
    exact ⟨rfl,fun _ q=>q,fun _ q=>by simp at q,fun _ _=>rfl,fun q=>q⟩
  | x :: xs,ρ,ρ',ys,h=>by
    cases hx : Yg x with
    | false =>
      have e : pass (x :: xs) ρ = (match pass xs ρ with
        | some (ys,ρ')=>some (x :: ys,ρ')
        | none=>none):=by cases x <;> first | rfl | cases hx
      rw [e] at h
      cases q : pass xs ρ with
      | none=>rw [q] at h; cases h
      | some z =>
        obtain ⟨zs,ρ1⟩:=z
        rw [q] at h
        injection h with h3
        injection h3 with h4 h5
        subst h5
        obtain ⟨a1,a2,a3,a4,a5⟩:=Lx q
        refine ⟨a1,a2,fun i m=>?_,fun j m=>a4 j fun z=>m (List.mem_cons_of_mem _ z),a5⟩
        rcases List.mem_cons.mp m with z | z
        · rw [← z] at hx; cases hx
        · exact a3 i z
    | true =>
      cases x with
      | loc i =>
        cases hy : ρ[i]? with
        | none=>simp [pass,hy] at h
        | some o =>
          cases o with
          | none=>simp [pass,hy] at h
          | some y =>
            simp only [pass,hy] at h
            cases q : pass xs (ρ.set i none) with
            | none=>rw [q] at h; cases h
            | some z =>
              obtain ⟨zs,ρ1⟩:=z
              rw [q] at h
              injection h with h3
              injection h3 with h4 h5
              subst h5
              obtain ⟨a1,a2,a3,a4,a5⟩:=Lx q
              refine ⟨by simpa using a1,fun j hj=>a2 j (getElem?_none_set hj),fun j m=>?_,fun j m=>?_,fun he=>a5 (he.put fun _ z=>nomatch z)⟩
              · rcases List.mem_cons.mp m with z | z
                · injection z with z; subst z
                  exact a2 j (by rw [List.getElem?_set_self (Z5 hy)])
                · exact a3 j z
              · have nj : i ≠ j:=fun z=>m (by simp [z])
                rw [a4 j fun z=>m (List.mem_cons_of_mem _ z),List.getElem?_set_ne nj]
      | _=>cases hx
/-- no slot is handed over twice -/
theorem Kd : ∀ {xs : List A} {ρ ρ' : J0} {ys : List A},pass xs ρ = some (ys,ρ') → ∀ i,ρ[i]? = some none → A.loc i ∉ xs
  | [],ρ,ρ',ys,h,i,_=>by simp
  | x :: xs,ρ,ρ',ys,h,i,hi=>by
    cases hx : Yg x with
    | false =>
      have e : pass (x :: xs) ρ = (match pass xs ρ with
        | some (ys,ρ')=>some (x :: ys,ρ')
        | none=>none):=by cases x <;> first | rfl | cases hx
      rw [e] at h
      cases q : pass xs ρ with
      | none=>rw [q] at h; cases h
      | some z =>
        intro m
        rcases List.mem_cons.mp m with z' | z'
        · rw [← z'] at hx; cases hx
        · exact Kd (ρ':=z.2) (ys:=z.1) q i hi z'
    | true =>
      cases x with
      | loc j =>
        cases hy : ρ[j]? with
        | none=>simp [pass,hy] at h
        | some o =>
          cases o with
          | none=>simp [pass,hy] at h
          | some y =>
            simp only [pass,hy] at h
            cases q : pass xs (ρ.set j none) with
            | none=>rw [q] at h; cases h
            | some z =>
              intro m
              rcases List.mem_cons.mp m with z' | z'
              · injection z' with z'; subst z'; rw [hi] at hy; cases hy
              · exact Kd (ρ':=z.2) (ys:=z.1) q i (getElem?_none_set hi) z'
      | _=>cases hx
/-- the passed things that stand in no slot,as they are in the end -/
def Uh : List A → List V → List A → List (V × A)
  | .loc _ :: xs,_ :: vs,_ :: ys=>Uh xs vs ys
  | _ :: xs,v :: vs,y :: ys=>(v,y) :: Uh xs vs ys
  | _,_,_=>[]
theorem A9 {x y : A} {v : V} {xs ys : List A} {vs : List V} (h : Yg x = false) : Uh (x :: xs) (v :: vs) (y :: ys) = (v,y) :: Uh xs vs ys:=by
  cases x <;> first | rfl | cases h
/-- back: the things again -/
theorem N2 : ∀ {xs : List A} {vs : List V} {ρ : J0} {ys : List A},vs.length = xs.length → vs.length = ys.length → (∀ v i,(v,A.loc i) ∈ vs.zip xs → σ[i]? = some (some v)) → (∀ i,A.loc i ∈ xs → ρ[i]? = some none) → (xs.filter Yg).Nodup →
    (vs.zip ys ++ Y2 ρ σ).Perm (Uh xs vs ys ++ Y2 (give xs ys ρ) σ)
  | [],vs,ρ,ys,hl,hl2,_,_,_=>by
    have e : vs = []:=by simpa using hl
    subst e
    have e2 : give [] ys ρ = ρ:=by cases ys <;> rfl
    rw [e2]
    simp [Uh]
  | x :: xs,[],ρ,ys,hl,hl2,_,_,_=>by simp at hl
  | x :: xs,v :: vs,ρ,[],hl,hl2,_,_,_=>by simp at hl2
  | x :: xs,v :: vs,ρ,y :: ys,hl,hl2,hs,hn,hd=>by
    have hl' : vs.length = xs.length:=by simpa using hl
    have hl2' : vs.length = ys.length:=by simpa using hl2
    have hs' : ∀ v i,(v,A.loc i) ∈ vs.zip xs → σ[i]? = some (some v):=fun v i q=>hs v i (by simp [q])
    cases hx : Yg x with
    | false =>
      have e : give (x :: xs) (y :: ys) ρ = give xs ys ρ:=by cases x <;> first | rfl | cases hx
      rw [e,A9 hx,List.zip_cons_cons]
      rw [List.filter_cons_of_neg (by rw [hx]; exact Bool.false_ne_true)] at hd
      exact List.Perm.cons _ (N2 hl' hl2' hs' (fun i m=>hn i (List.mem_cons_of_mem _ m)) hd)
    | true =>
      cases x with
      | loc i =>
        have hv : σ[i]? = some (some v):=hs v i (by simp)
        have hi : ρ[i]? = some none:=hn i (by simp)
        have hd' : A.loc i ∉ xs ∧ (xs.filter Yg).Nodup:=by
          rw [List.filter_cons_of_pos (by exact hx)] at hd
          obtain ⟨d1,d2⟩:=List.nodup_cons.mp hd
          exact ⟨fun m=>d1 (List.mem_filter.mpr ⟨m,rfl⟩),d2⟩
        have hn' : ∀ j,A.loc j ∈ xs → (ρ.set i (some y))[j]? = some none:=fun j m=>by
          have ne : i ≠ j:=fun z=>hd'.1 (z ▸ m)
          rw [List.getElem?_set_ne ne]
          exact hn j (List.mem_cons_of_mem _ m)
        have ih:=N2 (ρ:=ρ.set i (some y)) hl' hl2' hs' hn' hd'.2
        have p : (Y2 (ρ.set i (some y)) σ).Perm ((v,y) :: Y2 ρ σ):=by
          have q:=Fk (ρ:=ρ) (σ:=σ) (i:=i) (y:=y) (v:=v) (Z5 hi) hv
          rwa [Hj hi] at q
        show ((v,y) :: (vs.zip ys ++ Y2 ρ σ)).Perm (Uh xs vs ys ++ Y2 (give xs ys (ρ.set i (some y))) σ)
        exact (List.perm_middle.symm.trans (List.Perm.append_left _ p.symm)).trans ih
      | _=>cases hx
theorem Mi : ∀ {xs : List A} {vs : List V} {ρ : J0} {ys : List A},vs.length = xs.length → vs.length = ys.length → (∀ v i,(v,A.loc i) ∈ vs.zip xs → σ[i]? = some (some v)) → (∀ i,A.loc i ∈ xs → ρ[i]? = some none) → (xs.filter Yg).Nodup → (∀ y ∈ ys,Yg y = false) →
    EnvOk ρ σ → EnvOk (give xs ys ρ) σ ∧ (∀ (j : Nat) y,ρ[j]? = some (some y) → (give xs ys ρ)[j]? = some (some y)) ∧ ∀ i : Nat,A.loc i ∈ xs → ∃ y,(give xs ys ρ)[i]? = some (some y)
  | [],vs,ρ,ys,hl,hl2,_,_,_,_,he=>by
    have e : give [] ys ρ = ρ:=by cases ys <;> rfl
    rw [e]
    exact ⟨he,fun _ _ q=>q,fun _ q=>by simp at q⟩
  | x :: xs,[],ρ,ys,hl,hl2,_,_,_,_,he=>by simp at hl
  | x :: xs,v :: vs,ρ,[],hl,hl2,_,_,_,_,he=>by simp at hl2
  | x :: xs,v :: vs,ρ,y :: ys,hl,hl2,hs,hn,hd,hy,he=>by
    have hl' : vs.length = xs.length:=by simpa using hl
    have hl2' : vs.length = ys.length:=by simpa using hl2
    have hs' : ∀ v i,(v,A.loc i) ∈ vs.zip xs → σ[i]? = some (some v):=fun v i q=>hs v i (by simp [q])
    have hy' : ∀ y ∈ ys,Yg y = false:=fun z m=>hy z (List.mem_cons_of_mem _ m)
    cases hx : Yg x with
    | false =>
      have e : give (x :: xs) (y :: ys) ρ = give xs ys ρ:=by cases x <;> first | rfl | cases hx
      rw [e]
      rw [List.filter_cons_of_neg (by rw [hx]; exact Bool.false_ne_true)] at hd
      obtain ⟨b4,b5,b6⟩:=Mi hl' hl2' hs' (fun i m=>hn i (List.mem_cons_of_mem _ m)) hd hy' he
      refine ⟨b4,b5,fun i m=>?_⟩
      rcases List.mem_cons.mp m with z | z
      · rw [← z] at hx; cases hx
      · exact b6 i z
    | true =>
      cases x with
      | loc i =>
        have hv : σ[i]? = some (some v):=hs v i (by simp)
        have hi : ρ[i]? = some none:=hn i (by simp)
        have hd' : A.loc i ∉ xs ∧ (xs.filter Yg).Nodup:=by
          rw [List.filter_cons_of_pos (by exact hx)] at hd
          obtain ⟨d1,d2⟩:=List.nodup_cons.mp hd
          exact ⟨fun m=>d1 (List.mem_filter.mpr ⟨m,rfl⟩),d2⟩
        have hn' : ∀ j,A.loc j ∈ xs → (ρ.set i (some y))[j]? = some none:=fun j m=>by
          have ne : i ≠ j:=fun z=>hd'.1 (z ▸ m)
          rw [List.getElem?_set_ne ne]
          exact hn j (List.mem_cons_of_mem _ m)
        obtain ⟨b4,b5,b6⟩:=Mi hl' hl2' hs' hn' hd'.2 hy' (he.put (o:=some y) (i:=i) fun z e=>by cases e; exact ⟨⟨v,hv⟩,Fi (hy y (by simp))⟩)
        refine ⟨b4,fun j z hj=>b5 j z ?_,fun j m=>?_⟩
        · have ne : i ≠ j:=fun q=>by subst q; rw [hi] at hj; cases hj
          rw [List.getElem?_set_ne ne]; exact hj
        · rcases List.mem_cons.mp m with z | z
          · injection z with z; subst z
            exact ⟨y,b5 j y (by rw [List.getElem?_set_self (Z5 hi)])⟩
          · exact b6 j z
      | _=>cases hx
theorem K5 : ∀ {xs : List A} {ρ ρ' : J0} {ys : List A},pass xs ρ = some (ys,ρ') → (xs.filter Yg).Nodup
  | [],ρ,ρ',ys,h=>by simp
  | x :: xs,ρ,ρ',ys,h=>by
    cases hx : Yg x with
    | false =>
      have e : pass (x :: xs) ρ = (match pass xs ρ with
        | some (ys,ρ')=>some (x :: ys,ρ')
        | none=>none):=by cases x <;> first | rfl | cases hx
      rw [e] at h
      cases q : pass xs ρ with
      | none=>rw [q] at h; cases h
      | some z =>
        rw [List.filter_cons_of_neg (by rw [hx]; exact Bool.false_ne_true)]
        exact K5 (ρ':=z.2) (ys:=z.1) q
    | true =>
      cases x with
      | loc j =>
        cases hy : ρ[j]? with
        | none=>simp [pass,hy] at h
        | some o =>
          cases o with
          | none=>simp [pass,hy] at h
          | some y =>
            simp only [pass,hy] at h
            cases q : pass xs (ρ.set j none) with
            | none=>rw [q] at h; cases h
            | some z =>
              rw [List.filter_cons_of_pos (by exact hx)]
              refine List.nodup_cons.mpr ⟨fun m=>?_,K5 (ρ':=z.2) (ys:=z.1) q⟩
              exact Kd (ρ':=z.2) (ys:=z.1) q j (by rw [List.getElem?_set_self (Z5 hy)]) (List.mem_filter.mp m).1
      | _=>cases hx
/-- THE CALL -/
def U1 (sp : ASp) (xs : List A) : AE:=fun EA ρ Q=>∃ ys ρ',pass xs ρ = some (ys,ρ') ∧ sp.pre ys ∧ (∀ r ys',sp.post ys r ys' → ys'.length = ys.length → Q r (give xs ys' ρ')) ∧ ∀ C fs ys',sp.exc ys C fs ys' → ys'.length = ys.length → EA C fs (give xs ys' ρ')
theorem JZv {xs ys : List A} {vs : List V} {ρ' : J0} (hl : vs.length = xs.length) (s : Stt K c S H σ ρ (vs.zip xs ++ τ)) (hp : pass xs ρ = some (ys,ρ')) :
    ∃ c' : Ctx,c'.os = [] ∧ c'.S0 = S ∧ vs.length = ys.length ∧ Stt K c' S H (vs.map some) (ys.map some) [] ∧
      ∀ {H' S' : Hp} {ys' : List A} {τ' : List (V × A)},ys'.length = ys.length → (∀ p ∈ τ',Yg p.2 = false) → Stt K c' S' H' (vs.map some) (ys'.map some) τ' → Stt K c S' H' σ (give xs ys' ρ') (τ' ++ (Uh xs vs ys' ++ τ)):=by
  obtain ⟨fp,h1,h2,h3⟩:=s.own
  have hlen : ys.length = xs.length:=Np hp
  have hlv : vs.length = ys.length:=hl.trans hlen.symm
  have hs : ∀ v i,(v,A.loc i) ∈ vs.zip xs → σ[i]? = some (some v):=fun v i m=>(s.loc v i (List.mem_append_left _ m)).1
  obtain ⟨k1,k2,k3,k4,k5⟩:=Lx hp
  have he' : EnvOk ρ' σ:=k5 s.env
  have p : (Y2 ρ σ ++ Yc (vs.zip xs ++ τ)).Perm (vs.zip ys ++ (Y2 ρ' σ ++ Yc τ)):=by
    have e : Yc (vs.zip xs ++ τ) = Yc (vs.zip xs) ++ Yc τ:=List.filter_append ..
    rw [e,← List.append_assoc,← List.append_assoc]
    exact List.Perm.append_right _ (Nu hl hp hs)
  obtain ⟨fq,q1,q2⟩:=RepP.perm p h1
  obtain ⟨fh,fr,r1,r2,r3⟩:=q1.append
  subst r3
  have nd : (fh ++ fr).Nodup:=q2.nodup_iff.mp h2
  have h3' : ∀ a ∈ fh ++ fr,S a = none ∧ c.R a = none:=fun a ha=>h3 a (q2.symm.subset ha)
  have dj : ∀ a ∈ fh,a ∉ fr:=fun a ha hb=>(List.nodup_append.mp nd).2.2 a ha a hb rfl
  let ft:=fh ++ (Tbs.T K).map (·.1)
  have inT : ∀ a ∈ (Tbs.T K).map (·.1),c.R a = none ∧ ∃ ps,H a = some (.tbl ps):=fun a ha=>by
    obtain ⟨p,hp,e⟩:=List.mem_map.mp ha
    obtain ⟨q1,_,ps,q2,_⟩:=s.tb p hp
    rw [← e]
    exact ⟨q1,ps,q2⟩
  let c' : Ctx:=⟨Ws H ft,S,[]⟩
  have nl : ∀ x ∈ ys,Yg x = false:=RepP.noloc hlv r1
  have s0 : Stt K c' S H (vs.map some) (ys.map some) []:=by
    refine ⟨⟨fh,?_,(List.nodup_append.mp nd).1,fun a ha=>⟨(h3' a (List.mem_append_left _ ha)).1,Hi (List.mem_append_left _ ha)⟩⟩,Fj hlv nl,fun _ _ m=>by simp at m,s.le,fun a o e=>?_,fun _ _=>rfl,Same.refl S,(fun p m=>by cases m),fun p hp=>⟨Hi (List.mem_append_right _ (List.mem_map.mpr ⟨p,hp,rfl⟩)),(s.tb p hp).2⟩⟩
    · rw [Fz hlv]
      simpa [Yc] using r1
    · by_cases q : a ∈ ft
      · rw [show c'.R a = none from Hi q] at e; cases e
      · rw [show c'.R a = H a from Ft q] at e; exact e
  refine ⟨c',rfl,rfl,hlv,s0,?_⟩
  intro H' S' ys' τ' hl' hτ s'
  obtain ⟨gp,g1,g2,g3⟩:=s'.own
  have hlv' : vs.length = ys'.length:=hlv.trans hl'.symm
  rw [Fz hlv'] at g1
  have Rfe : ∀ a ∈ fr,Ws H ft a = H a:=fun a ha=>Ft fun z=>by
    rcases List.mem_append.mp z with z | z
    · exact dj a z ha
    · obtain ⟨o,q1,q2⟩:=r2.nsp a ha
      obtain ⟨_,ps,q3⟩:=inT a z
      rw [q3] at q1; cases q1; cases q2
  have same : ∀ a ∈ fr,H' a = H a:=fun a ha=>by
    have th : H a ≠ none:=r2.there a ha
    cases e : H a with
    | none=>exact absurd e th
    | some o=>exact s'.r a o ((Rfe a ha).trans e)
  have Ssame : Same S S':=s'.up
  have none' : ∀ a ∈ fr,S' a = none:=fun a ha=>by
    have th : H a ≠ none:=r2.there a ha
    rw [s'.new a (by rw [show c'.R a = H a from Rfe a ha]; exact th)]
    exact (h3' a (List.mem_append_right _ ha)).1
  have djg : ∀ a ∈ gp,a ∉ fr:=fun a ha hb=>by
    have z : Ws H ft a = none:=(g3 a ha).2
    rw [Rfe a hb] at z
    exact r2.there a hb z
  have RR : ∀ a o,c.R a = some o → Ws H ft a = some o:=fun a o e=>by
    have na : a ∉ ft:=fun z=>by
      rcases List.mem_append.mp z with z | z
      · rw [(h3' a (List.mem_append_left _ z)).2] at e; cases e
      · rw [(inT a z).1] at e; cases e
    rw [Ft na]; exact s.r a o e
  have inR : ∀ a,Ws H ft a = none → c.R a = none:=fun a e=>by
    cases z : c.R a with
    | none=>rfl
    | some o=>rw [RR a o z] at e; cases e
  have v1 : RepP K S' H' (Y2 ρ' σ ++ Yc τ) fr:=r2.keep Ssame same
  have big : RepP K S' H' ((vs.zip ys' ++ Yc τ') ++ (Y2 ρ' σ ++ Yc τ)) (gp ++ fr):=g1.join v1
  have nl' : ∀ x ∈ ys',Yg x = false:=EnvOk.noloc s'.env
  have gpm:=N2 (σ:=σ) (ρ:=ρ') hl hlv' hs (fun i m=>k3 i m) (K5 hp)
  obtain ⟨w4,w5,w6⟩:=Mi (σ:=σ) (ρ:=ρ') hl hlv' hs (fun i m=>k3 i m) (K5 hp) nl' he'
  have tb : Yc (Uh xs vs ys') = Uh xs vs ys':=by
    have : ∀ p ∈ Uh xs vs ys',Yg p.2 = false:=by
      have key : ∀ (xs : List A) (vs : List V) (zs : List A),(∀ z ∈ zs,Yg z = false) → ∀ p ∈ Uh xs vs zs,Yg p.2 = false:=by
        intro xs
        induction xs with
        | nil=>intro vs zs _ p m; simp [Uh] at m
        | cons x xs ih =>
          intro vs zs hz p m
          cases vs with
          | nil=>cases x <;> simp [Uh] at m
          | cons v vs =>
            cases zs with
            | nil=>cases x <;> simp [Uh] at m
            | cons z zs =>
              cases hx : Yg x with
              | false =>
                rw [A9 hx] at m
                rcases List.mem_cons.mp m with e | e
                · rw [e]; exact hz z (by simp)
                · exact ih vs zs (fun y hy=>hz y (List.mem_cons_of_mem _ hy)) p e
              | true =>
                cases x with
                | loc i=>exact ih vs zs (fun y hy=>hz y (List.mem_cons_of_mem _ hy)) p m
                | _=>cases hx
      exact key xs vs ys' nl'
    refine List.filter_eq_self.mpr fun p m=>?_
    have q:=this p m
    obtain ⟨u,z⟩:=p
    cases z <;> first | rfl | cases q
  have etmp : Yc (τ' ++ (Uh xs vs ys' ++ τ)) = Yc τ' ++ (Uh xs vs ys' ++ Yc τ):=by
    unfold Yc at tb ⊢
    rw [List.filter_append,List.filter_append,tb]
  have pm : ((vs.zip ys' ++ Yc τ') ++ (Y2 ρ' σ ++ Yc τ)).Perm (Y2 (give xs ys' ρ') σ ++ Yc (τ' ++ (Uh xs vs ys' ++ τ))):=by
    rw [etmp]
    have a1 : ((vs.zip ys' ++ Yc τ') ++ (Y2 ρ' σ ++ Yc τ)).Perm ((vs.zip ys' ++ Y2 ρ' σ) ++ (Yc τ' ++ Yc τ)):=by
      rw [List.append_assoc,List.append_assoc]
      refine List.Perm.append_left _ ?_
      rw [← List.append_assoc,← List.append_assoc]
      exact List.Perm.append_right _ List.perm_append_comm
    have a2:=List.Perm.append_right (Yc τ' ++ Yc τ) gpm
    have a3 : ((Uh xs vs ys' ++ Y2 (give xs ys' ρ') σ) ++ (Yc τ' ++ Yc τ)).Perm (Y2 (give xs ys' ρ') σ ++ (Yc τ' ++ (Uh xs vs ys' ++ Yc τ))):=by
      refine (List.Perm.append_right _ List.perm_append_comm).trans ?_
      rw [List.append_assoc]
      refine List.Perm.append_left _ ?_
      rw [← List.append_assoc,← List.append_assoc]
      exact List.Perm.append_right _ List.perm_append_comm
    exact (a1.trans a2).trans a3
  obtain ⟨fz,z1,z2⟩:=RepP.perm pm big
  have ndb : (gp ++ fr).Nodup:=List.nodup_append.mpr ⟨g2,(List.nodup_append.mp nd).2.1,fun a ha b hb e=>djg a ha (e ▸ hb)⟩
  refine ⟨⟨fz,z1,z2.nodup_iff.mp ndb,fun a ha=>?_⟩,w4,fun v i m=>?_,s'.le,fun a o e=>s'.r a o (RR a o e),fun a ha=>?_,fun a o e=>Ssame a o (s.up a o e),s.os,fun p hp=>⟨(s.tb p hp).1,(s'.tb p hp).2⟩⟩
  · rcases List.mem_append.mp (z2.symm.subset ha) with y | y
    · exact ⟨(g3 a y).1,inR a (g3 a y).2⟩
    · exact ⟨none' a y,(h3' a (List.mem_append_right _ y)).2⟩
  · rcases List.mem_append.mp m with z | z
    · have:=hτ _ z; cases this
    · rcases List.mem_append.mp z with z | z
      · have tb2 : (v,A.loc i) ∈ Yc (Uh xs vs ys'):=by rw [tb]; exact z
        have:=(List.mem_filter.mp tb2).2
        cases this
      · obtain ⟨y1,y,y2⟩:=s.loc v i (List.mem_append_right _ z)
        refine ⟨y1,?_⟩
        by_cases e : A.loc i ∈ xs
        · exact w6 i e
        · exact ⟨y,w5 i y (by rw [k4 i e]; exact y2)⟩
  · have z : Ws H ft a ≠ none:=fun e=>by
      cases y : c.R a with
      | none=>exact ha y
      | some o=>rw [RR a o y] at e; cases e
    rw [s'.new a z]; exact s.new a ha
theorem Ef {sp : ASp} {xs : List A} {vs : List V} {W : WX} {EA : AX} {Q : AK} (hw : XOk K c W EA) (hl : vs.length = xs.length) (s : Stt K c S H σ ρ (vs.zip xs ++ τ)) (h : U1 sp xs EA ρ Q) :
    lift K sp vs H (KE K c σ τ Q) (fun cls d H'=>W cls d σ H'):=by
  obtain ⟨ys,ρ',hp,hpre,hq,hx⟩:=h
  obtain ⟨c',h1,h2,hlv,s0,back⟩:=JZv hl s hp
  refine ⟨c',S,ys,hlv,h1,s0,by rw [h2]; exact Same.refl S,by rw [h2]; exact Same.refl S,hpre,fun r xs' v H' S' hpo hl' hr s'=>?_,fun C fs xs' dd H' S' hex hl' s' hd=>?_⟩
  · have s2:=back (hl'.symm.trans hlv) (τ':=[(v,r)]) (fun p m=>by
      have e : p = (v,r):=by simpa using m
      rw [e]; exact hr) s'
    refine ⟨S',give xs xs' ρ',r,?_,hq r xs' hpo (hl'.symm.trans hlv)⟩
    have s3 : Stt K c S' H' σ (give xs xs' ρ') (Uh xs vs xs' ++ ((v,r) :: τ)):=s2.swap (by
      rw [List.cons_append,List.nil_append]
      exact List.perm_middle.symm)
    exact s3.drops
  · have s2 : Stt K c S' H' σ (give xs xs' ρ') (Uh xs vs xs' ++ τ):=back (τ':=[]) (hl'.symm.trans hlv) (fun p m=>by simp at m) s'
    exact hw S' H' σ (give xs xs' ρ') C fs dd (Stt.drops (τ':=[]) (ts:=Uh xs vs xs' ++ τ) (by simpa using s2)) hd (hx C fs xs' hex (hl'.symm.trans hlv))
/-- a new instance is passed first,and is what is made -/
theorem JLi {C : Addr} {sp : ASp} {W : WX} {EA : AX} {ρ' : J0} {vs : List V} {xs ys : List A} {xa : Addr} {Q : AK} {R : VK} (hw : XOk K c W EA) (hl : (V.ref xa :: vs).length = (A.obj C [] :: xs).length)
    (s : Stt K c S H σ ρ ((V.ref xa :: vs).zip (A.obj C [] :: xs) ++ τ)) (hp : pass (A.obj C [] :: xs) ρ = some (A.obj C [] :: ys,ρ')) (hpre : sp.pre (A.obj C [] :: ys))
    (hq : ∀ r zs,sp.post (A.obj C [] :: ys) r zs → zs.length = (A.obj C [] :: ys).length → ∃ y ys',zs = y :: ys' ∧ r = .v .non ∧ Q y (give xs ys' ρ'))
    (hex : ∀ Ce fs zs,sp.exc (A.obj C [] :: ys) Ce fs zs → zs.length = (A.obj C [] :: ys).length → EA Ce fs (give (A.obj C [] :: xs) zs ρ'))
    (kk : ∀ v H',KE K c σ τ Q v H' → R v H') : lift K sp (.ref xa :: vs) H (fun v H2=>v = .non ∧ R (.ref xa) H2) (fun cls d H'=>W cls d σ H'):=by
  obtain ⟨c',h1,h2,hlv,s0,back⟩:=JZv hl s hp
  refine ⟨c',S,_,hlv,h1,s0,by rw [h2]; exact Same.refl S,by rw [h2]; exact Same.refl S,hpre,fun r xs' v H' S' hpo hl' hr s'=>?_,fun Ce fs xs' dd H' S' hex' hl' s' hd=>?_⟩
  · have s2:=back (hl'.symm.trans hlv) (τ':=[(v,r)]) (fun p m=>by
      have e : p = (v,r):=by simpa using m
      rw [e]; exact hr) s'
    obtain ⟨y,ys',rfl,rfl,hQ⟩:=hq r xs' hpo (hl'.symm.trans hlv)
    have rv:=s2.data
    simp only [Rep] at rv
    refine ⟨rv,kk _ _ ⟨S',give xs ys' ρ',y,?_,hQ⟩⟩
    have s3 : Stt K c S' H' σ (give xs ys' ρ') ((V.ref xa,y) :: Uh xs vs ys' ++ τ):=s2.drop
    have s4 : Stt K c S' H' σ (give xs ys' ρ') (Uh xs vs ys' ++ ((V.ref xa,y) :: τ)):=s3.swap (by
      rw [List.cons_append]
      exact List.perm_middle.symm)
    exact s4.drops
  · have s2 : Stt K c S' H' σ (give (A.obj C [] :: xs) xs' ρ') (Uh (A.obj C [] :: xs) (V.ref xa :: vs) xs' ++ τ):=back (τ':=[]) (hl'.symm.trans hlv) (fun p m=>by simp at m) s'
    exact hw S' H' σ _ Ce fs dd (Stt.drops (τ':=[]) (ts:=Uh (A.obj C [] :: xs) (V.ref xa :: vs) xs' ++ τ) (by simpa using s2)) hd (hex Ce fs xs' hex' (hl'.symm.trans hlv))
end
end Vs
namespace Vs
open PySem L2
variable [Tbs]
structure QE (X : Cx) (P : Pm) (e : Expr) (ae : AE) : Prop where
  ex : ∃ te,PE X e te ∧ U5 X.K P te ae
structure QT (X : Cx) (P : Pm) (e : Expr) (a : AT) : Prop where
  ex : ∃ t,PT X e t ∧ Vp X.K P t a
structure QW (X : Cx) (P : Pm) (e : Expr) (a : AT) : Prop where
  ex : ∃ t,PW X e t ∧ Vp X.K P t a
structure QA (X : Cx) (P : Pm) (es : List Expr) (a : AA) : Prop where
  ex : ∃ t,PA X es t ∧ X9 X.K P t a
structure QS (X : Cx) (P : Pm) (st : Stmt) (a : AS) : Prop where
  ex : ∃ t,PS X st t ∧ Z2 X.K P t a
structure QSs (X : Cx) (P : Pm) (st : List Stmt) (a : AS) : Prop where
  ex : ∃ t,PSs X st t ∧ Z2 X.K P t a
def Yl (x : A) (ρ : J0) (k : D → J0 → Prop) : Prop:=match x with
  | .loc i=>∃ y,ρ[i]? = some (some y) ∧ k y.toD (ρ.set i (some (.v y.toD)))
  | y=>k y.toD ρ
section
variable {K : Fg} {c : Ctx} {S H : Hp} {σ : L2.St} {ρ : J0} {τ : List (V × A)} {v : V} {x y : A} {i : Nat}
theorem W9 {k : D → J0 → Prop} (s : Stt K c S H σ ρ ((v,x) :: τ)) (h : Yl x ρ k) : ∃ S' d ρ',Same S S' ∧ Stt K c S' H σ ρ' ((v,.v d) :: τ) ∧ k d ρ':=by
  cases hx : Yg x with
  | false =>
    obtain ⟨S',sm,s'⟩:=s.freeze hx
    refine ⟨S',x.toD,ρ,sm,s',?_⟩
    cases x <;> first | exact h | cases hx
  | true =>
    cases x with
    | loc i =>
      obtain ⟨y,hy,hk⟩:=h
      obtain ⟨S',sm,s'⟩:=s.freezeSlot hy
      have hv : σ[i]? = some (some v):=(s.loc v i (List.mem_cons_self ..)).1
      obtain ⟨v',hv',hr⟩:=s'.slot (i:=i) (d:=y.toD) (by rw [List.getElem?_set_self (Z5 hy)])
      rw [hv] at hv'
      cases hv'
      exact ⟨S',y.toD,_,sm,s'.drop.hold hr,hk⟩
    | _=>cases hx
def Z6 : List A → J0 → (List D → J0 → Prop) → Prop
  | [],ρ,k=>k [] ρ
  | x :: xs,ρ,k=>Yl x ρ fun d ρ'=>Z6 xs ρ' fun ds ρ''=>k (d :: ds) ρ''
theorem Nf : ∀ {xs : List A} {vs : List V} {S : Hp} {ρ : J0} {k : List D → J0 → Prop},vs.length = xs.length → Stt K c S H σ ρ (vs.zip xs ++ τ) → Z6 xs ρ k → ∃ S' ds ρ',Same S S' ∧ RepL K S' ds vs ∧ Stt K c S' H σ ρ' τ ∧ k ds ρ'
  | [],vs,S,ρ,k,hl,s,h=>by
    have e : vs = []:=by simpa using hl
    subst e
    exact ⟨S,[],ρ,Same.refl S,by simp only [RepL],by simpa using s,h⟩
  | x :: xs,[],S,ρ,k,hl,s,h=>by simp at hl
  | x :: xs,v :: vs,S,ρ,k,hl,s,h=>by
    obtain ⟨S1,d,ρ1,sm,s1,h1⟩:=W9 (τ:=vs.zip xs ++ τ) (by simpa using s) h
    have hr:=s1.data
    obtain ⟨S2,ds,ρ2,sm2,r2,s2,h2⟩:=Nf (by simpa using hl) s1.drop h1
    exact ⟨S2,d :: ds,ρ2,sm.trans sm2,by simp only [RepL]; exact ⟨v,vs,rfl,Rep.le (Le.of_same sm2) d v hr,r2⟩,s2,h2⟩
end
section
variable {X : Cx} {P : Pm} {K : Fg}
def aC (d : D) : AE:=fun _ ρ Q=>Q (.v d) ρ
def sc : D → Option V
  | .non=>some .non
  | .bl b=>some (.bl b)
  | .int i=>some (.int i)
  | .str x=>some (.str x)
  | .ty n=>some (.ty n)
  | _=>none
theorem Zb {K : Fg} {S : Hp} {d : D} {v : V} (h : sc d = some v) : Rep K S d v:=by
  cases d <;> simp only [sc] at h <;> first | (injection h with h; simp only [Rep]; exact h.symm) | cases h
theorem G1 {d : D} {v : V} (h : sc d = some v) : U5 K P (tC v) (aC d):=fun c EA _ _ τ S H σ ρ Q R s q k=>k _ _ ⟨S,ρ,.v d,s.hold (Zb h),q⟩
theorem Ji {i j pos} : QE X P (.Constant (.int i) j pos) (aC (.int i)):=⟨_,pe_int,G1 rfl⟩
theorem Vg {b j pos} : QE X P (.Constant (.bool b) j pos) (aC (.bl b)):=⟨_,pe_bl,G1 rfl⟩
theorem Gq {j pos} : QE X P (.Constant .none j pos) (aC .non):=⟨_,pe_non,G1 rfl⟩
theorem Y9 {x j pos} : QE X P (.Constant (.str x) j pos) (aC (.str x)):=⟨_,pe_str,G1 rfl⟩
/-- a module's constant -/
theorem Ad {x : Str} {d : D} {v : V} {u : Value} {pos : Pos} (hd : sc d = some v) (hg : Gl X x) (hm : X.mg x = some u) (r : RelV v u) (h : (x == ("__debug__" : Str)) = false:=by decide) : QE X P (.Name x pos) (aC d):=⟨_,pe_glob hg hm r h,G1 hd⟩
/-- a name's shared datum; what a name holds -/
def J6 (i : Nat) : AE:=fun _ ρ Q=>∃ d,ρ[i]? = some (some (.v d)) ∧ Q (.v d) ρ
def Y0 (i : Nat) : AE:=fun _ ρ Q=>(∃ y,ρ[i]? = some (some y)) ∧ Q (.loc i) ρ
theorem JBc {i : Nat} : U5 K P (tVar i) (J6 i):=fun c EA _ _ τ S H σ ρ Q R s ⟨d,e,q⟩ k=>by
  obtain ⟨v,hv,hr⟩:=s.slot e
  exact ⟨v,hv,k _ _ ⟨S,ρ,.v d,s.hold hr,q⟩⟩
theorem Stt.ref {c : Ctx} {S H : Hp} {σ : L2.St} {ρ : J0} {τ : List (V × A)} {v : V} {y : A} {i : Nat} (s : Stt K c S H σ ρ τ) (h : ρ[i]? = some (some y)) (hv : σ[i]? = some (some v)) : Stt K c S H σ ρ ((v,.loc i) :: τ) :=
  ⟨s.own,s.env,fun v' j m=>by
    rcases List.mem_cons.mp m with q | q
    · injection q with q1 q2
      injection q2 with q2
      subst q1 q2
      exact ⟨hv,y,h⟩
    · exact s.loc v' j q,s.le,s.r,s.new,s.up,s.os,s.tb⟩
theorem JKg {i : Nat} : U5 K P (tVar i) (Y0 i):=fun c EA _ _ τ S H σ ρ Q R s ⟨⟨y,e⟩,q⟩ k=>by
  obtain ⟨⟨v,hv⟩,_⟩:=s.env.get e
  exact ⟨v,hv,k _ _ ⟨S,ρ,.loc i,s.ref e hv,q⟩⟩
theorem qv (i : Nat) {x : Str} {pos : Pos} (hN : X.N[i]? = some x:=by rfl) (hv : Vis X.env.scope x:=by first | exact Or.inl rfl | exact Or.inr (Or.inl rfl) | exact Or.inr (Or.inr rfl)) (hd : (x == ("__debug__" : Str)) = false:=by decide)
    (hcd : (x == ("__classdict__" : Str)) = false:=by decide) : QE X P (.Name x pos) (J6 i):=⟨_,pe_var hN hv hd hcd,JBc⟩
theorem qr (i : Nat) {x : Str} {pos : Pos} (hN : X.N[i]? = some x:=by rfl) (hv : Vis X.env.scope x:=by first | exact Or.inl rfl | exact Or.inr (Or.inl rfl) | exact Or.inr (Or.inr rfl)) (hd : (x == ("__debug__" : Str)) = false:=by decide)
    (hcd : (x == ("__classdict__" : Str)) = false:=by decide) : QE X P (.Name x pos) (Y0 i):=⟨_,pe_var hN hv hd hcd,JKg⟩
abbrev AR2:=A → A → J0 → AK → Prop
abbrev AR1:=A → J0 → AK → Prop
abbrev ARs:=List A → J0 → AK → Prop
def Yu (K : Fg) (r : R2) (ra : AR2) : Prop:=∀ c τ S H σ ρ vx vy x y Q (R : VK),Stt K c S H σ ρ ((vy,y) :: (vx,x) :: τ) → ra x y ρ Q → (∀ v H',KE K c σ τ Q v H' → R v H') → r vx vy H R
def Mn (K : Fg) (r : V → Hp → VK → Prop) (ra : AR1) : Prop:=∀ c τ S H σ ρ vx x Q (R : VK),Stt K c S H σ ρ ((vx,x) :: τ) → ra x ρ Q → (∀ v H',KE K c σ τ Q v H' → R v H') → r vx H R
def Vy (K : Fg) (r : List V → Hp → VK → Prop) (ra : ARs) : Prop:=∀ c τ S H σ ρ vs xs Q (R : VK),vs.length = xs.length → Stt K c S H σ ρ (vs.zip xs ++ τ) → ra xs ρ Q → (∀ v H',KE K c σ τ Q v H' → R v H') → r vs H R
def aOp (ra : AR2) (aa ab : AE) : AE:=fun EA ρ Q=>aa EA ρ fun x ρ1=>ab EA ρ1 fun y ρ2=>ra x y ρ2 Q
def aUn (ra : AR1) (aa : AE) : AE:=fun EA ρ Q=>aa EA ρ fun x ρ1=>ra x ρ1 Q
theorem L3 {r : R2} {ra : AR2} {ta tb : TE} {aa ab : AE} (ha : U5 K P ta aa) (hb : U5 K P tb ab) (hr : Yu K r ra) : U5 K P (tOp r ta tb) (aOp ra aa ab):=fun c EA ho hw τ S H σ ρ Q R s q k =>
  ha c EA ho hw τ S H σ ρ _ _ s q (fun vx H1 ⟨S1,ρ1,x,s1,q1⟩=>hb c EA ho hw ((vx,x) :: τ) S1 H1 σ ρ1 _ _ s1 q1 (fun vy H2 ⟨S2,ρ2,y,s2,q2⟩=>hr c τ S2 H2 σ ρ2 vx vy x y Q R s2 q2 k))
theorem JGl {r : V → Hp → VK → Prop} {ra : AR1} {ta : TE} {aa : AE} (ha : U5 K P ta aa) (hr : Mn K r ra) : U5 K P (tUn r ta) (aUn ra aa):=fun c EA ho hw τ S H σ ρ Q R s q k =>
  ha c EA ho hw τ S H σ ρ _ _ s q (fun vx H1 ⟨S1,ρ1,x,s1,q1⟩=>hr c τ S1 H1 σ ρ1 vx x Q R s1 q1 k)
theorem Yw {a b : Expr} {op : Operator} {pos : Pos} {aa ab : AE} {r : R2} {ra : AR2} (ho : OpR X (binaryOp op) r) (hr : Yu X.K r ra) (ha : QE X P a aa) (hb : QE X P b ab) : QE X P (.BinOp a op b pos) (aOp ra aa ab):=by
  obtain ⟨ta,pa,sa⟩:=ha.ex
  obtain ⟨tb,pb,sb⟩:=hb.ex
  exact ⟨_,pe_op ho pa pb,L3 sa sb hr⟩
theorem JFr {a : Expr} {op : UnaryOp} {pos : Pos} {aa : AE} {r : V → Hp → VK → Prop} {ra : AR1} (ho : UnR X (unaryOp op) r) (hr : Mn X.K r ra) (ha : QE X P a aa) : QE X P (.UnaryOp op a pos) (aUn ra aa):=by
  obtain ⟨ta,pa,sa⟩:=ha.ex
  exact ⟨_,pe_un ho pa,JGl sa hr⟩
theorem Wy {a b : Expr} {op : CmpOp} {pos : Pos} {aa ab : AE} {r : R2} {ra : AR2} (ho : OpR X (compareOp op) r) (hr : Yu X.K r ra) (ha : QE X P a aa) (hb : QE X P b ab) (hm : behindInMarks op b = false) : QE X P (.Compare a [op] [b] pos) (aOp ra aa ab):=by
  obtain ⟨ta,pa,sa⟩:=ha.ex
  obtain ⟨tb,pb,sb⟩:=hb.ex
  exact ⟨_,pe_cmpR ho pa pb hm,L3 sa sb hr⟩
def Y5 (ae : AE) : AT:=fun EA ρ Q=>ae EA ρ fun x ρ1=>∃ b,dat x ρ1 = some (.bl b) ∧ Q b ρ1
theorem N7 {te : TE} {ae : AE} (h : U5 K P te ae) : Vp K P (tTest te) (Y5 ae):=fun c EA ho hw τ S H σ ρ Q R s q k =>
  h c EA ho hw τ S H σ ρ _ _ s q (fun v H1 ⟨S1,ρ1,x,s1,b,e,q1⟩=>by
    have r:=s1.dat (List.mem_cons_self ..) e
    simp only [Rep] at r
    exact ⟨b,r,k _ _ ⟨S1,ρ1,s1.drop,q1⟩⟩)
theorem U2 {a b : Expr} {op : CmpOp} {pos : Pos} {aa ab : AE} {r : R2} {ra : AR2} (ho : OpR X (compareOp op) r) (hr : Yu X.K r ra) (ha : QE X P a aa) (hb : QE X P b ab) (hm : behindInMarks op b = false) : QT X P (.Compare a [op] [b] pos) (Y5 (aOp ra aa ab)):=by
  obtain ⟨ta,pa,sa⟩:=ha.ex
  obtain ⟨tb,pb,sb⟩:=hb.ex
  exact ⟨_,pt_cmpR ho pa pb hm,N7 (L3 sa sb hr)⟩
theorem Uw {e : Expr} {ae : AE} (h : QE X P e ae) (he : ∀ whole,isTrue e X.env whole = (do let v ← whole; standAt e.pos; holding [v] (truthy v)):=by intro _; rfl) : QT X P e (Y5 ae):=by
  obtain ⟨t,p,s⟩:=h.ex
  exact ⟨_,pt_val p he,N7 s⟩
/-- a op b op' c -/
def Zh (ra rb : AR2) (aa ab ac : AE) : AE:=fun EA ρ Q=>aa EA ρ fun x ρ1=>ab EA ρ1 fun y ρ2=>∃ dy,y = .v dy ∧ ra x y ρ2 fun z ρ3=>∃ b,dat z ρ3 = some (.bl b) ∧ if b = true then ac EA ρ3 fun w ρ4=>rb (.v dy) w ρ4 Q else Q (.v (.bl false)) ρ3
theorem JJb {r r' : R2} {ra rb : AR2} {ta tb tc : TE} {aa ab ac : AE} (ha : U5 K P ta aa) (hb : U5 K P tb ab) (hc : U5 K P tc ac) (h1 : Yu K r ra) (h2 : Yu K r' rb) : U5 K P (tChain r r' ta tb tc) (Zh ra rb aa ab ac):=fun c EA ho hw τ S H σ ρ Q R s q k =>
  ha c EA ho hw τ S H σ ρ _ _ s q (fun vx H1 ⟨S1,ρ1,x,s1,q1⟩=>hb c EA ho hw ((vx,x) :: τ) S1 H1 σ ρ1 _ _ s1 q1 (fun vy H2 ⟨S2,ρ2,y,s2,dy,ey,q2⟩=>by
    subst ey
    have s2' : Stt K c S2 H2 σ ρ2 ((vy,.v dy) :: (vx,x) :: (vy,.v dy) :: τ):=by
      have hr:=s2.data
      have z : Stt K c S2 H2 σ ρ2 ((vy,.v dy) :: (vy,.v dy) :: (vx,x) :: τ):=s2.hold hr
      exact z.swap (List.Perm.cons _ (.swap _ _ _))
    refine h1 c ((vy,.v dy) :: τ) S2 H2 σ ρ2 vx vy x (.v dy) _ _ s2' q2 (fun vz H3 ⟨S3,ρ3,z,s3,b,e,q3⟩=>?_)
    have rz:=s3.dat (List.mem_cons_self ..) e
    simp only [Rep] at rz
    refine ⟨b,rz,?_⟩
    cases b with
    | true =>
      rw [if_pos rfl] at q3 ⊢
      exact hc c EA ho hw ((vy,.v dy) :: τ) S3 H3 σ ρ3 _ _ s3.drop q3 (fun vw H4 ⟨S4,ρ4,w,s4,q4⟩=>h2 c τ S4 H4 σ ρ4 vy vw (.v dy) w Q R s4 q4 k)
    | false =>
      rw [if_neg Bool.false_ne_true] at q3 ⊢
      exact k _ _ ⟨S3,ρ3,.v (.bl false),s3.drop.drop.hold (Zb rfl),q3⟩))
theorem JFm {a b d : Expr} {op op' : CmpOp} {pos : Pos} {aa ab ac : AE} {r r' : R2} {ra rb : AR2} (ho : OpR X (compareOp op) r) (hr : Yu X.K r ra) (ho' : OpR X (compareOp op') r') (hr' : Yu X.K r' rb) (ha : QE X P a aa) (hb : QE X P b ab) (hc : QE X P d ac)
    (hm : lastMarks [op,op'] [b,d] = false:=by rfl) : QE X P (.Compare a [op,op'] [b,d] pos) (Zh ra rb aa ab ac):=by
  obtain ⟨ta,pa,sa⟩:=ha.ex
  obtain ⟨tb,pb,sb⟩:=hb.ex
  obtain ⟨tc,pc,sc⟩:=hc.ex
  exact ⟨_,pe_chain ho ho' pa pb pc hm,JJb sa sb sc hr hr'⟩
theorem N4 {a b d : Expr} {op op' : CmpOp} {pos : Pos} {aa ab ac : AE} {r r' : R2} {ra rb : AR2} (ho : OpR X (compareOp op) r) (hr : Yu X.K r ra) (ho' : OpR X (compareOp op') r') (hr' : Yu X.K r' rb) (ha : QE X P a aa) (hb : QE X P b ab) (hc : QE X P d ac)
    (hm : lastMarks [op,op'] [b,d] = false:=by rfl) : QT X P (.Compare a [op,op'] [b,d] pos) (Y5 (Zh ra rb aa ab ac)):=by
  obtain ⟨ta,pa,sa⟩:=ha.ex
  obtain ⟨tb,pb,sb⟩:=hb.ex
  obtain ⟨tc,pc,sc⟩:=hc.ex
  exact ⟨_,pt_chain ho ho' pa pb pc hm,N7 (JJb sa sb sc hr hr')⟩
def Hf (t u : AT) : AT:=fun EA ρ Q=>t EA ρ fun b ρ1=>if b = true then u EA ρ1 Q else Q false ρ1
def Uq (t u : AT) : AT:=fun EA ρ Q=>t EA ρ fun b ρ1=>if b = true then Q true ρ1 else u EA ρ1 Q
def Uc (t : AT) : AT:=fun EA ρ Q=>t EA ρ fun b ρ1=>Q (!b) ρ1
theorem JHo {t u : TT} {a b : AT} (h1 : Vp K P t a) (h2 : Vp K P u b) : Vp K P (tAnd t u) (Hf a b):=fun c EA ho hw τ S H σ ρ Q R s q k =>
  h1 c EA ho hw τ S H σ ρ _ _ s q (fun v H1 ⟨S1,ρ1,s1,q1⟩=>by
    cases v with
    | true=>rw [if_pos rfl] at q1 ⊢; exact h2 c EA ho hw τ S1 H1 σ ρ1 Q R s1 q1 k
    | false=>rw [if_neg Bool.false_ne_true] at q1 ⊢; exact k _ _ ⟨S1,ρ1,s1,q1⟩)
theorem JOi {t u : TT} {a b : AT} (h1 : Vp K P t a) (h2 : Vp K P u b) : Vp K P (tOr t u) (Uq a b):=fun c EA ho hw τ S H σ ρ Q R s q k =>
  h1 c EA ho hw τ S H σ ρ _ _ s q (fun v H1 ⟨S1,ρ1,s1,q1⟩=>by
    cases v with
    | true=>rw [if_pos rfl] at q1 ⊢; exact k _ _ ⟨S1,ρ1,s1,q1⟩
    | false=>rw [if_neg Bool.false_ne_true] at q1 ⊢; exact h2 c EA ho hw τ S1 H1 σ ρ1 Q R s1 q1 k)
theorem JG0 {t : TT} {a : AT} (h : Vp K P t a) : Vp K P (tNot t) (Uc a):=fun c EA ho hw τ S H σ ρ Q R s q k =>
  h c EA ho hw τ S H σ ρ _ _ s q (fun v H1 ⟨S1,ρ1,s1,q1⟩=>k _ _ ⟨S1,ρ1,s1,q1⟩)
variable {a b : Expr} {rest : List Expr} {pos : Pos}
theorem JBk {t : AT} (h : QT X P a t) : QW X P (.BoolOp .And [a] pos) t:=let ⟨_,p,s⟩:=h.ex; ⟨_,pw_and1 p,s⟩
theorem Wf {t : AT} (h : QT X P a t) : QW X P (.BoolOp .Or [a] pos) t:=let ⟨_,p,s⟩:=h.ex; ⟨_,pw_or1 p,s⟩
theorem JHe {t u : AT} (h : QT X P a t) (h2 : QW X P (.BoolOp .And (b :: rest) pos) u) : QW X P (.BoolOp .And (a :: b :: rest) pos) (Hf t u):=let ⟨_,p,s⟩:=h.ex; let ⟨_,p2,s2⟩:=h2.ex; ⟨_,pw_and p p2,JHo s s2⟩
theorem V2 {t u : AT} (h : QT X P a t) (h2 : QW X P (.BoolOp .Or (b :: rest) pos) u) : QW X P (.BoolOp .Or (a :: b :: rest) pos) (Uq t u):=let ⟨_,p,s⟩:=h.ex; let ⟨_,p2,s2⟩:=h2.ex; ⟨_,pw_or p p2,JOi s s2⟩
theorem W2 {t : AT} {e : Expr} (h : QW X P e t) : QT X P e t:=let ⟨_,p,s⟩:=h.ex; ⟨_,p.pt,s⟩
theorem Ur {t : AT} (h : QT X P a t) : QT X P (.UnaryOp .Not a pos) (Uc t):=let ⟨_,p,s⟩:=h.ex; ⟨_,pt_not p,JG0 s⟩
def W3 (aa ab : AE) : AE:=fun EA ρ Q=>aa EA ρ fun x ρ1=>∃ b,dat x ρ1 = some (.bl b) ∧ if b = true then ab EA ρ1 Q else Q (.v (.bl false)) ρ1
def aOr (aa ab : AE) : AE:=fun EA ρ Q=>aa EA ρ fun x ρ1=>∃ b,dat x ρ1 = some (.bl b) ∧ if b = true then Q (.v (.bl true)) ρ1 else ab EA ρ1 Q
def Bp (aa : AE) : AE:=fun EA ρ Q=>aa EA ρ fun x ρ1=>∃ b,dat x ρ1 = some (.bl b) ∧ Q (.v (.bl (!b))) ρ1
theorem JH4 {ta tb : TE} {aa ab : AE} (h1 : U5 K P ta aa) (h2 : U5 K P tb ab) : U5 K P (tAndV ta tb) (W3 aa ab):=fun c EA ho hw τ S H σ ρ Q R s q k =>
  h1 c EA ho hw τ S H σ ρ _ _ s q (fun v H1 ⟨S1,ρ1,x,s1,b,e,q1⟩=>by
    have r:=s1.dat (List.mem_cons_self ..) e
    simp only [Rep] at r
    refine ⟨b,r,?_⟩
    cases b with
    | true=>rw [if_pos rfl] at q1 ⊢; exact h2 c EA ho hw τ S1 H1 σ ρ1 Q R s1.drop q1 k
    | false=>rw [if_neg Bool.false_ne_true] at q1 ⊢; exact k _ _ ⟨S1,ρ1,_,s1.drop.hold (Zb rfl),q1⟩)
theorem JMa {ta : TE} {aa : AE} (h1 : U5 K P ta aa) : U5 K P (tNotV ta) (Bp aa):=fun c EA ho hw τ S H σ ρ Q R s q k =>
  h1 c EA ho hw τ S H σ ρ _ _ s q (fun v H1 ⟨S1,ρ1,x,s1,b,e,q1⟩=>by
    have r:=s1.dat (List.mem_cons_self ..) e
    simp only [Rep] at r
    exact ⟨b,r,k _ _ ⟨S1,ρ1,_,s1.drop.hold (Zb rfl),q1⟩⟩)
theorem Xo {op} {t : AE} (h : QE X P a t) : QE X P (.BoolOp op [a] pos) t:=let ⟨_,p,s⟩:=h.ex; ⟨_,pe_one p,s⟩
theorem Z4 {t u : AE} (h : QE X P a t) (h2 : QE X P (.BoolOp .And (b :: rest) pos) u) : QE X P (.BoolOp .And (a :: b :: rest) pos) (W3 t u):=let ⟨_,p,s⟩:=h.ex; let ⟨_,p2,s2⟩:=h2.ex; ⟨_,pe_and p p2,JH4 s s2⟩
theorem JY7 {t : AE} (h : QE X P a t) : QE X P (.UnaryOp .Not a pos) (Bp t):=let ⟨_,p,s⟩:=h.ex; ⟨_,pe_not p,JMa s⟩
/-- a if t else b -/
def aIf (t : AT) (aa ab : AE) : AE:=fun EA ρ Q=>t EA ρ fun b ρ1=>if b = true then aa EA ρ1 Q else ab EA ρ1 Q
theorem JNm {t : AT} {aa ab : AE} {d : Expr} (hc : QT X P d t) (ha : QE X P a aa) (hb : QE X P b ab) : QE X P (.IfExp d a b pos) (aIf t aa ab):=by
  obtain ⟨t',p,s⟩:=hc.ex
  obtain ⟨ta,pa,sa⟩:=ha.ex
  obtain ⟨tb,pb,sb⟩:=hb.ex
  refine ⟨_,pe_ifExp p pa pb,fun c EA ho hw τ S H σ ρ Q R st q k=>s c EA ho hw τ S H σ ρ _ _ st q (fun v H1 ⟨S1,ρ1,s1,q1⟩=>?_)⟩
  cases v with
  | true=>rw [if_pos rfl] at q1 ⊢; exact sa c EA ho hw τ S1 H1 σ ρ1 Q R s1 q1 k
  | false=>rw [if_neg Bool.false_ne_true] at q1 ⊢; exact sb c EA ho hw τ S1 H1 σ ρ1 Q R s1 q1 k
def Ja : AA:=fun _ ρ Q=>Q [] ρ
def J1 (ae : AE) (aa : AA) : AA:=fun EA ρ Q=>ae EA ρ fun x ρ1=>aa EA ρ1 fun xs ρ2=>Q (x :: xs) ρ2
theorem JY6 : X9 K P tNil Ja:=fun c EA ho hw τ S H σ ρ Q R s q k=>k _ _ ⟨S,ρ,[],rfl,by simpa using s,q⟩
theorem JLr {te : TE} {ta : TA} {ae : AE} {aa : AA} (h1 : U5 K P te ae) (h2 : X9 K P ta aa) : X9 K P (tCons te ta) (J1 ae aa):=fun c EA ho hw τ S H σ ρ Q R s q k =>
  h1 c EA ho hw τ S H σ ρ _ _ s q (fun v H1 ⟨S1,ρ1,x,s1,q1⟩=>h2 c EA ho hw ((v,x) :: τ) S1 H1 σ ρ1 _ _ s1 q1 (fun vs H2 ⟨S2,ρ2,xs,hl,s2,q2⟩ =>
    k _ _ ⟨S2,ρ2,x :: xs,by simp [hl],by
      rw [List.zip_cons_cons]
      exact s2.swap List.perm_middle,q2⟩))
theorem Jd : QA X P [] Ja:=⟨_,pa_nil,JY6⟩
theorem J2 {e : Expr} {es : List Expr} {ae : AE} {aa : AA} (h1 : QE X P e ae) (h2 : QA X P es aa) (hs : starEach (e :: es) X.env = (false,eval e X.env) :: starEach es X.env:=by rfl) : QA X P (e :: es) (J1 ae aa) :=
  let ⟨_,p,s⟩:=h1.ex; let ⟨_,p2,s2⟩:=h2.ex; ⟨_,pa_cons p p2 hs,JLr s s2⟩
/-- (a,b,..): a shared tuple -/
def Wa (aa : AA) : AE:=fun EA ρ Q=>aa EA ρ fun xs ρ1=>xs.length ≤ 1000 ∧ Z6 xs ρ1 fun ds ρ2=>Q (.v (.tup ds)) ρ2
def Vd (aa : AA) : AE:=fun EA ρ Q=>aa EA ρ fun xs ρ1=>xs.length ≤ 1000 ∧ Z6 xs ρ1 fun ds ρ2=>Q (.lst ds) ρ2
theorem JWn {n : Nat} (h : n ≤ 1000) : n ≤ sizeLine:=Nat.le_trans h (by decide)
theorem Z0 {es : List Expr} {aa : AA} {x1} (h : QA X P es aa) : QE X P (.Tuple es x1 pos) (Wa aa):=by
  obtain ⟨t,p,s⟩:=h.ex
  refine ⟨_,pe_tup p,fun c EA ho hw τ S H σ ρ Q R st q k=>s c EA ho hw τ S H σ ρ _ _ st q (fun vs H1 ⟨S1,ρ1,xs,hl,s1,hz,q1⟩=>⟨by rw [hl]; exact JWn hz,fun p hp=>?_⟩)⟩
  obtain ⟨S2,ds,ρ2,sm,rl,s2,q2⟩:=Nf hl s1 q1
  have f1:=(s2.fresh hp).1
  refine k _ _ ⟨_,ρ2,.v (.tup ds),s2.share (o:=.tup vs) hp ?_,q2⟩
  simp only [Rep]
  exact ⟨p,vs,rfl,SqT.of upd_same,RepL.le (Le.of_same (Same.up f1)) ds vs rl⟩
theorem W7 {es : List Expr} {aa : AA} (h : QA X P es aa) : QE X P (.List es pos) (Vd aa):=by
  obtain ⟨t,p,s⟩:=h.ex
  refine ⟨_,pe_lst p,fun c EA ho hw τ S H σ ρ Q R st q k=>s c EA ho hw τ S H σ ρ _ _ st q (fun vs H1 ⟨S1,ρ1,xs,hl,s1,hz,q1⟩=>⟨by rw [hl]; exact JWn hz,fun p hp=>?_⟩)⟩
  obtain ⟨S2,ds,ρ2,sm,rl,s2,q2⟩:=Nf hl s1 q1
  refine k _ _ ⟨_,ρ2,.lst ds,s2.alloc hp rfl ?_,q2⟩
  simp only [RepA]
  exact ⟨p,vs,rfl,upd_same,rl,by first | rfl | trivial⟩
/-- {} -/
def Ha : AE:=fun _ ρ Q=>Q (.dic []) ρ
theorem JZq : QE X P (.Dict [] [] pos) Ha:=⟨_,pe_dnewK,fun c EA ho hw τ S H σ ρ Q R s q k p hp=>k _ _ ⟨S,ρ,.dic [],s.alloc hp rfl (by
  simp only [RepA]
  exact ⟨p,[],rfl,upd_same,by simp only [RepK],by first | rfl | trivial⟩),q⟩⟩
/-- a built-in called by its name -/
def aCB (ra : ARs) (aa : AA) : AE:=fun EA ρ Q=>aa EA ρ fun xs ρ1=>ra xs ρ1 Q
theorem Ao {r : List V → Hp → VK → Prop} {ra : ARs} {ta : TA} {aa : AA} (hr : Vy K r ra) (h : X9 K P ta aa) : U5 K P (tCB r ta) (aCB ra aa):=fun c EA ho hw τ S H σ ρ Q R s q k =>
  h c EA ho hw τ S H σ ρ _ _ s q (fun vs H1 ⟨S1,ρ1,xs,hl,s1,q1⟩=>hr c τ S1 H1 σ ρ1 vs xs Q R hl s1 q1 k)
theorem U6 {x : Str} {id : String} {e : Expr} {es : List Expr} {aa : AA} {r : List V → Hp → VK → Prop} {ra : ARs} {p : Pos} (hc : CallR X (.builtin id) r) (hr : Vy X.K r ra) (hg : Gl X x) (hm : X.mg x = none) (hv : bootBuiltins x = some (.builtin id)) (ha : QA X P (e :: es) aa) (hn : x ≠ "__name__":=by decide) (hdb : (x == ("__debug__" : Str)) = false:=by decide) (he : starEach (e :: es) X.env = (false,eval e X.env) :: starEach es X.env:=by rfl) (hpl : (backTo pos (starEach es X.env)).any (·.1) = false:=by rfl) :
    QE X P (.Call (.Name x p) (e :: es) [] pos) (aCB ra aa):=let ⟨_,pa,sa⟩:=ha.ex; ⟨_,pe_callB hc hg hm hv pa hn hdb he hpl,Ao hr sa⟩
theorem Wk {x : Str} {T : String} {e : Expr} {es : List Expr} {aa : AA} {r : List V → Hp → VK → Prop} {ra : ARs} {p : Pos} (hc : CallR X (.type T) r) (hr : Vy X.K r ra) (hg : Gl X x) (hm : X.mg x = none) (hv : bootBuiltins x = some (.type T)) (ha : QA X P (e :: es) aa) (hn : x ≠ "__name__":=by decide) (hdb : (x == ("__debug__" : Str)) = false:=by decide) (he : starEach (e :: es) X.env = (false,eval e X.env) :: starEach es X.env:=by rfl) (hpl : (backTo pos (starEach es X.env)).any (·.1) = false:=by rfl) :
    QE X P (.Call (.Name x p) (e :: es) [] pos) (aCB ra aa):=let ⟨_,pa,sa⟩:=ha.ex; ⟨_,pe_callTy hc hg hm hv pa hn hdb he hpl,Ao hr sa⟩
end
end Vs
namespace Vs
open PySem L2
variable [Tbs]
mutual
def pd : D → PyData
  | .non=>.none
  | .bl b=>.bool b
  | .int i=>.int i
  | .str x=>.str x
  | .lst xs=>.list (pdL xs)
  | .tup xs=>.tuple (pdL xs)
  | .ty _=>.none
  | .dic _=>.none
  | .obj _ _=>.none
  | .any=>.none
def pdL : List D → List PyData
  | []=>[]
  | x :: xs=>pd x :: pdL xs
end
/-- no dicts,no instances,nested at most n deep -/
def PlD : Nat → D → Prop
  | _,.non=>True
  | _,.bl _=>True
  | _,.int _=>True
  | _,.str _=>True
  | 0,.lst _=>False
  | 0,.tup _=>False
  | n + 1,.lst xs=>∀ x ∈ xs,PlD n x
  | n + 1,.tup xs=>∀ x ∈ xs,PlD n x
  | _,.ty _=>False
  | _,.dic _=>False
  | _,.obj _ _=>False
  | _,.any=>False
mutual
def deq : D → D → Bool
  | .non,.non=>true
  | .bl a,.bl b=>a == b
  | .bl a,.int j=>(if a then 1 else 0) == j
  | .int i,.bl b=>i == (if b then 1 else 0)
  | .int i,.int j=>i == j
  | .str x,.str y=>x == y
  | .lst xs,.lst ys=>Zd xs ys
  | .tup xs,.tup ys=>Zd xs ys
  | _,_=>false
def Zd : List D → List D → Bool
  | [],[]=>true
  | x :: xs,y :: ys=>deq x y && Zd xs ys
  | _,_=>false
end
theorem JX1 : ∀ xs : List D,pdL xs = xs.map pd
  | []=>rfl
  | x :: xs=>by simp only [pdL,List.map_cons,JX1 xs]
mutual
theorem Zz : ∀ (n : Nat) (d e : D),PlD n d → PlD n e → deq d e = PyData.eqv (pd d) (pd e)
  | n,d,e,hd,he=>by
    cases d <;> cases e <;> first
      | (simp only [deq,pd,PyData.eqv]; done)
      | (cases n <;> simp only [PlD] at hd he; done)
      | skip
    · rename_i xs ys
      cases n with
      | zero=>simp only [PlD] at hd
      | succ n =>
        simp only [PlD] at hd he
        simp only [deq,pd,PyData.eqv]
        exact O3 n xs ys hd he
    · rename_i xs ys
      cases n with
      | zero=>simp only [PlD] at hd
      | succ n =>
        simp only [PlD] at hd he
        simp only [deq,pd,PyData.eqv]
        exact O3 n xs ys hd he
theorem O3 : ∀ (n : Nat) (xs ys : List D),(∀ x ∈ xs,PlD n x) → (∀ x ∈ ys,PlD n x) → Zd xs ys = PyData.eqvAll (pdL xs) (pdL ys)
  | n,[],[],_,_=>by simp only [Zd,pdL,PyData.eqvAll]
  | n,[],_ :: _,_,_=>by simp only [Zd,pdL,PyData.eqvAll]
  | n,_ :: _,[],_,_=>by simp only [Zd,pdL,PyData.eqvAll]
  | n,x :: xs,y :: ys,h1,h2=>by
    simp only [Zd,pdL,PyData.eqvAll]
    rw [Zz n x y (h1 x (by simp)) (h2 y (by simp)),O3 n xs ys (fun z hz=>h1 z (by simp [hz])) (fun z hz=>h2 z (by simp [hz]))]
end
mutual
theorem Vx : ∀ (n : Nat) (d : D),PlD n d → (pd d).plain = true ∧ (pd d).depth ≤ n
  | n,d,h=>by
    cases d <;> first
      | (simp only [pd,PyData.plain,PyData.depth]; exact ⟨rfl,Nat.zero_le _⟩)
      | (simp only [pd,PyData.plain,PyData.depth]; exact ⟨trivial,Nat.zero_le _⟩)
      | (cases n <;> simp only [PlD] at h; done)
      | skip
    · rename_i xs
      cases n with
      | zero=>simp only [PlD] at h
      | succ n =>
        simp only [PlD] at h
        obtain ⟨h1,h2⟩:=B2 n xs h
        simp only [pd,PyData.plain,PyData.depth]
        exact ⟨h1,by omega⟩
    · rename_i xs
      cases n with
      | zero=>simp only [PlD] at h
      | succ n =>
        simp only [PlD] at h
        obtain ⟨h1,h2⟩:=B2 n xs h
        simp only [pd,PyData.plain,PyData.depth]
        exact ⟨h1,by omega⟩
theorem B2 : ∀ (n : Nat) (xs : List D),(∀ x ∈ xs,PlD n x) → PyData.plainAll (pdL xs) = true ∧ PyData.depthAll (pdL xs) ≤ n
  | n,[],_=>by simp only [pdL,PyData.plainAll,PyData.depthAll]; exact ⟨trivial,Nat.zero_le _⟩
  | n,x :: xs,h=>by
    obtain ⟨h1,h2⟩:=Vx n x (h x (by simp))
    obtain ⟨h3,h4⟩:=B2 n xs fun z hz=>h z (by simp [hz])
    simp only [pdL,PyData.plainAll,PyData.depthAll,h1,h3]
    exact ⟨rfl,Nat.max_le.mpr ⟨h2,h4⟩⟩
end
section
variable {K : Fg} {H : Hp}
mutual
theorem V5 : ∀ (n : Nat) (d : D) (v : V),PlD n d → Rep K H d v → Dp K H v (pd d)
  | n,d,v,h,r=>by
    cases d <;> first
      | (simp only [Rep] at r; subst r; simp only [pd]; first | exact .non | exact .bl _ | exact .int _ | exact .str _)
      | (cases n <;> simp only [PlD] at h; done)
      | skip
    · rename_i xs
      cases n with
      | zero=>simp only [PlD] at h
      | succ n =>
        simp only [PlD] at h
        simp only [Rep] at r
        obtain ⟨a,vs,rfl,h1,h2⟩:=r
        simp only [pd]
        exact .lst h1 (N1 n xs vs h h2)
    · rename_i xs
      cases n with
      | zero=>simp only [PlD] at h
      | succ n =>
        simp only [PlD] at h
        simp only [Rep] at r
        obtain ⟨a,vs,rfl,h1,h2⟩:=r
        simp only [pd]
        exact .tup h1 (N1 n xs vs h h2)
theorem N1 : ∀ (n : Nat) (xs : List D) (vs : List V),(∀ x ∈ xs,PlD n x) → RepL K H xs vs → DpAll K H vs (pdL xs)
  | n,[],vs,_,r=>by
    simp only [RepL] at r
    subst r
    simp only [pdL]
    exact .nil
  | n,x :: xs,vs,h,r=>by
    simp only [RepL] at r
    obtain ⟨v,w,rfl,r1,r2⟩:=r
    simp only [pdL]
    exact .cons (V5 n x v (h x (by simp)) r1) (N1 n xs w (fun z hz=>h z (by simp [hz])) r2)
end
end
section
variable {K : Fg} {c : Ctx} {S H : Hp} {σ : L2.St} {ρ : J0} {τ : List (V × A)} {v : V} {x y : A} {i : Nat} {P : Pm}
theorem Stt.thing {d : D} (s : Stt K c S H σ ρ τ) (m : (v,x) ∈ τ) (h : Vs.dat x ρ = some d) : ∃ y g,RepA K S H y v g ∧ y.toD = d:=by
  obtain ⟨fp,h1,_,_⟩:=s.own
  cases hx : Yg x with
  | false =>
    cases hp : Az x with
    | false =>
      have e : x.toD = d:=by
        cases x <;> first | exact Option.some.inj h | (cases hx; done) | (cases hp; done)
      have m2 : (v,x) ∈ Y2 ρ σ ++ Yc τ:=List.mem_append_right _ (List.mem_filter.mpr ⟨m,by cases x <;> first | rfl | cases hx⟩)
      obtain ⟨g,a1,_⟩:=h1.pick m2
      exact ⟨x,g,a1,e⟩
    | true =>
      cases x with
      | pth i p w =>
        simp only [Vs.dat] at h
        split at h
        · rename_i t ht
          obtain ⟨n,e1,e2⟩:=JUr h
          obtain ⟨g,a1,_⟩:=s.atP m ht e1
          exact ⟨n,g,a1,e2⟩
        · cases h
      | _=>cases hp
  | true =>
    cases x with
    | loc i =>
      obtain ⟨hv,y,hy⟩:=s.loc v i m
      have e : y.toD = d:=by
        simp only [Vs.dat,hy] at h
        exact Option.some.inj h
      obtain ⟨f1,f2,q1,q2,q3⟩:=h1.append
      obtain ⟨fq,z1,z2⟩:=RepP.perm (Zp hy hv) q1
      obtain ⟨g,h',a1,_,_⟩:=z1
      exact ⟨y,g,a1,e⟩
    | _=>cases hx
theorem Vw {g : List Addr} {xs : List D} (r : RepA K S H y v g) (e : y.toD = .lst xs) (hl : Le S H) : ∃ a vs,v = .ref a ∧ SqL K H a vs ∧ RepL K S xs vs:=by
  cases y with
  | v d =>
    simp only [A.toD] at e
    subst e
    simp only [RepA,Rep] at r
    obtain ⟨⟨a,vs,h1,h2,h3⟩,_⟩:=r
    exact ⟨a,vs,h1,SqL.le hl h2,h3⟩
  | lst ys =>
    simp only [A.toD] at e
    injection e with e
    subst e
    simp only [RepA] at r
    obtain ⟨a,vs,h1,h2,h3,_⟩:=r
    exact ⟨a,vs,h1,SqL.of h2,h3⟩
  | dic ys=>simp only [A.toD] at e; cases e
  | obj C ys=>simp only [A.toD] at e; cases e
  | nl ys=>simp only [A.toD] at e; cases e
  | nd ys=>simp only [A.toD] at e; cases e
  | nt ys=>simp only [A.toD] at e; cases e
  | cel w x=>simp only [A.toD] at e; cases e
  | pth i p w=>simp only [A.toD] at e; cases e
  | loc i=>simp only [RepA] at r
theorem Xk {g : List Addr} {xs : List D} (r : RepA K S H y v g) (e : y.toD = .tup xs) (hl : Le S H) : ∃ a vs,v = .ref a ∧ SqT K S a vs ∧ SqT K H a vs ∧ RepL K S xs vs:=by
  cases y with
  | v d =>
    simp only [A.toD] at e
    subst e
    simp only [RepA,Rep] at r
    obtain ⟨⟨a,vs,h1,h2,h3⟩,_⟩:=r
    exact ⟨a,vs,h1,h2,SqT.le hl h2,h3⟩
  | lst ys=>simp only [A.toD] at e; cases e
  | dic ys=>simp only [A.toD] at e; cases e
  | obj C ys=>simp only [A.toD] at e; cases e
  | nl ys=>simp only [A.toD] at e; cases e
  | nd ys=>simp only [A.toD] at e; cases e
  | nt ys=>simp only [A.toD] at e; cases e
  | cel w x=>simp only [A.toD] at e; cases e
  | pth i p w=>simp only [A.toD] at e; cases e
  | loc i=>simp only [RepA] at r
theorem Ld {g : List Addr} {xs : List (Key × D)} (r : RepA K S H y v g) (e : y.toD = .dic xs) (hl : Le S H) : ∃ a ws,v = .ref a ∧ Rd H a (.dK ws) ∧ RepK K S xs ws:=by
  cases y with
  | v d =>
    simp only [A.toD] at e
    subst e
    simp only [RepA,Rep] at r
    obtain ⟨⟨a,vs,h1,h2,h3⟩,_⟩:=r
    exact ⟨a,vs,h1,Rd.le hl (.inr (.inr ⟨_,rfl⟩)) h2,h3⟩
  | dic ys =>
    simp only [A.toD] at e
    injection e with e
    subst e
    simp only [RepA] at r
    obtain ⟨a,vs,h1,h2,h3,_⟩:=r
    exact ⟨a,vs,h1,.inl h2,h3⟩
  | lst ys=>simp only [A.toD] at e; cases e
  | obj C ys=>simp only [A.toD] at e; cases e
  | nl ys=>simp only [A.toD] at e; cases e
  | nd ys=>simp only [A.toD] at e; cases e
  | nt ys=>simp only [A.toD] at e; cases e
  | cel w x=>simp only [A.toD] at e; cases e
  | pth i p w=>simp only [A.toD] at e; cases e
  | loc i=>simp only [RepA] at r
theorem RepL.len : ∀ {xs : List D} {vs : List V},RepL K S xs vs → vs.length = xs.length
  | [],vs,h=>by simp only [RepL] at h; rw [h]; rfl
  | x :: xs,vs,h=>by
    simp only [RepL] at h
    obtain ⟨v,r,rfl,_,h2⟩:=h
    simp [RepL.len h2]
theorem RepL.get : ∀ {xs : List D} {vs : List V} {i : Nat} {d : D},RepL K S xs vs → xs[i]? = some d → ∃ v,vs[i]? = some v ∧ Rep K S d v
  | [],vs,i,d,_,h=>by simp at h
  | x :: xs,vs,i,d,h,e=>by
    simp only [RepL] at h
    obtain ⟨v,r,rfl,h1,h2⟩:=h
    cases i with
    | zero =>
      have : x = d:=by simpa using e
      subst this
      exact ⟨v,by simp,h1⟩
    | succ i =>
      obtain ⟨w,e1,e2⟩:=RepL.get (i:=i) h2 (by simpa using e)
      exact ⟨w,by simpa using e1,e2⟩
theorem RepL.at {xs : List D} {vs : List V} {j : Int} {d : D} (h : RepL K S xs vs) (e : atI xs j = some d) : ∃ v,atI vs j = some v ∧ Rep K S d v:=by
  unfold atI at e ⊢
  rw [h.len]
  cases q : ixN xs.length j with
  | none=>rw [q] at e; cases e
  | some n =>
    rw [q] at e
    exact h.get e
theorem RepL.set : ∀ {xs : List D} {vs : List V} {d : D} {v : V} (i : Nat),RepL K S xs vs → Rep K S d v → RepL K S (xs.set i d) (vs.set i v)
  | [],vs,d,v,i,h,_=>by
    simp only [RepL] at h
    subst h
    simp [RepL]
  | x :: xs,vs,d,v,0,h,hr=>by
    simp only [RepL] at h
    obtain ⟨w,r,rfl,h1,h2⟩:=h
    simp only [List.set_cons_zero,RepL]
    exact ⟨v,r,rfl,hr,h2⟩
  | x :: xs,vs,d,v,i + 1,h,hr=>by
    simp only [RepL] at h
    obtain ⟨w,r,rfl,h1,h2⟩:=h
    simp only [List.set_cons_succ,RepL]
    exact ⟨w,r.set i v,rfl,h1,RepL.set i h2 hr⟩
theorem RepL.app : ∀ {xs ys : List D} {vs ws : List V},RepL K S xs vs → RepL K S ys ws → RepL K S (xs ++ ys) (vs ++ ws)
  | [],ys,vs,ws,h,h'=>by
    simp only [RepL] at h
    subst h
    exact h'
  | x :: xs,ys,vs,ws,h,h'=>by
    simp only [RepL] at h
    obtain ⟨v,r,rfl,h1,h2⟩:=h
    simp only [List.cons_append,RepL]
    exact ⟨v,r ++ ws,rfl,h1,RepL.app h2 h'⟩
theorem RepL.take : ∀ {xs : List D} {vs : List V} (n : Nat),RepL K S xs vs → RepL K S (xs.take n) (vs.take n)
  | xs,vs,0,_=>by simp [RepL]
  | [],vs,n + 1,h=>by
    simp only [RepL] at h
    subst h
    simp [RepL]
  | x :: xs,vs,n + 1,h=>by
    simp only [RepL] at h
    obtain ⟨v,r,rfl,h1,h2⟩:=h
    simp only [List.take_succ_cons,RepL]
    exact ⟨v,r.take n,rfl,h1,RepL.take n h2⟩
theorem RepL.drop : ∀ {xs : List D} {vs : List V} (n : Nat),RepL K S xs vs → RepL K S (xs.drop n) (vs.drop n)
  | xs,vs,0,h=>by simpa using h
  | [],vs,n + 1,h=>by
    simp only [RepL] at h
    subst h
    simp [RepL]
  | x :: xs,vs,n + 1,h=>by
    simp only [RepL] at h
    obtain ⟨v,r,rfl,h1,h2⟩:=h
    simp only [List.drop_succ_cons]
    exact RepL.drop n h2
def valD : List (Key × D) → Key → Option D
  | [],_=>none
  | (k',x) :: r,k=>if k' = k then some x else valD r k
def putD (kvs : List (Key × D)) (k : Key) (d : D) : List (Key × D):=if (kvs.any fun p=>decide (p.1 = k)) = true then kvs.map (fun p=>if p.1 = k then (p.1,d) else p) else kvs ++ [(k,d)]
/-- a datum as a key -/
def keyD : D → Option Key
  | .int i=>some (.inl i)
  | .str x=>some (.inr x)
  | _=>none
theorem Bs {d : D} {k : Key} {v : V} (h : keyD d = some k) (r : Rep K S d v) : v = kV k:=by
  cases d <;> simp [keyD] at h <;> subst h <;> simpa only [Rep,kV] using r
theorem RepK.val : ∀ {kvs : List (Key × D)} {ws : List (Key × V)} {k : Key},RepK K S kvs ws → (valD kvs k = none ∧ valV ws k = none) ∨ ∃ d v,valD kvs k = some d ∧ valV ws k = some v ∧ Rep K S d v
  | [],ws,k,h=>by
    simp only [RepK] at h
    subst h
    exact .inl ⟨rfl,rfl⟩
  | (k',x) :: r,ws,k,h=>by
    simp only [RepK] at h
    obtain ⟨v,r',rfl,h1,h2⟩:=h
    by_cases e : k' = k
    · exact .inr ⟨x,v,by simp [valD,e],by simp [valV,List.find?_cons,e],h1⟩
    · have e1 : valD ((k',x) :: r) k = valD r k:=by simp [valD,e]
      have e2 : valV ((k',v) :: r') k = valV r' k:=by simp [valV,List.find?_cons,e]
      rw [e1,e2]
      exact RepK.val h2
theorem RepK.len : ∀ {kvs : List (Key × D)} {ws : List (Key × V)},RepK K S kvs ws → ws.length = kvs.length
  | [],ws,h=>by simp only [RepK] at h; rw [h]; rfl
  | (k',x) :: r,ws,h=>by
    simp only [RepK] at h
    obtain ⟨v,r',rfl,h1,h2⟩:=h
    simp [RepK.len h2]
theorem RepK.any : ∀ {kvs : List (Key × D)} {ws : List (Key × V)} (k : Key),RepK K S kvs ws → (ws.any fun p=>decide (p.1 = k)) = kvs.any fun p=>decide (p.1 = k)
  | [],ws,k,h=>by simp only [RepK] at h; rw [h]; rfl
  | (k',x) :: r,ws,k,h=>by
    simp only [RepK] at h
    obtain ⟨v,r',rfl,h1,h2⟩:=h
    simp only [List.any_cons,RepK.any k h2]
theorem RepK.mapk : ∀ {kvs : List (Key × D)} {ws : List (Key × V)} (k : Key) {d : D} {v : V},RepK K S kvs ws → Rep K S d v → RepK K S (kvs.map fun p=>if p.1 = k then (p.1,d) else p) (ws.map fun p=>if p.1 = k then (p.1,v) else p)
  | [],ws,k,d,v,h,_=>by
    simp only [RepK] at h
    subst h
    simp [RepK]
  | (k',x) :: r,ws,k,d,v,h,hr=>by
    simp only [RepK] at h
    obtain ⟨w,r',rfl,h1,h2⟩:=h
    have ih:=RepK.mapk k h2 hr
    simp only [List.map_cons]
    by_cases e : k' = k
    · simp only [e,if_true,RepK]
      exact ⟨v,_,rfl,hr,ih⟩
    · simp only [e,if_false,RepK]
      exact ⟨w,_,rfl,h1,ih⟩
theorem RepK.app : ∀ {kvs : List (Key × D)} {ws : List (Key × V)} (k : Key) {d : D} {v : V},RepK K S kvs ws → Rep K S d v → RepK K S (kvs ++ [(k,d)]) (ws ++ [(k,v)])
  | [],ws,k,d,v,h,hr=>by
    simp only [RepK] at h
    subst h
    simp only [List.nil_append,RepK]
    exact ⟨v,[],rfl,hr,rfl⟩
  | (k',x) :: r,ws,k,d,v,h,hr=>by
    simp only [RepK] at h
    obtain ⟨w,r',rfl,h1,h2⟩:=h
    simp only [List.cons_append,RepK]
    exact ⟨w,_,rfl,h1,RepK.app k h2 hr⟩
theorem RepK.put {kvs : List (Key × D)} {ws : List (Key × V)} (k : Key) {d : D} {v : V} (h : RepK K S kvs ws) (hr : Rep K S d v) : RepK K S (putD kvs k d) (putK ws k v):=by
  unfold putD putK
  rw [h.any k]
  split
  · exact h.mapk k hr
  · exact h.app k hr
end
section
variable {X : Cx} {K : Fg}
/-- numbers -/
def aI0 (g : Int → Int → D) : AR2:=fun x y ρ Q=>∃ i j,dat x ρ = some (.int i) ∧ dat y ρ = some (.int j) ∧ Q (.v (g i j)) ρ
def aI (C : Int → Int → Prop) (g : Int → Int → D) : AR2:=fun x y ρ Q=>∃ i j,dat x ρ = some (.int i) ∧ dat y ρ = some (.int j) ∧ C i j ∧ Q (.v (g i j)) ρ
theorem Vj {c : Ctx} {S H : Hp} {σ : L2.St} {ρ : J0} {τ : List (V × A)} {vx vy : V} {x y : A} {d e : D} (s : Stt K c S H σ ρ ((vy,y) :: (vx,x) :: τ)) (h1 : dat x ρ = some d) (h2 : dat y ρ = some e) : Rep K H d vx ∧ Rep K H e vy :=
  ⟨s.dat (List.mem_cons_of_mem _ (List.mem_cons_self ..)) h1,s.dat (List.mem_cons_self ..) h2⟩
theorem KE.sc {c : Ctx} {S H : Hp} {σ : L2.St} {ρ : J0} {τ : List (V × A)} {d : D} {v : V} {Q : AK} (s : Stt K c S H σ ρ τ) (h : Vs.sc d = some v) (q : Q (.v d) ρ) : KE K c σ τ Q v H:=⟨S,ρ,.v d,s.hold (Zb h),q⟩
theorem Bw {g : Int → Int → V} {g' : Int → Int → D} (h : ∀ i j,sc (g' i j) = some (g i j)) : Yu K (rI0 g) (aI0 g'):=by
  intro c τ S H σ ρ vx vy x y Q R s q k
  obtain ⟨i,j,h1,h2,q⟩:=q
  obtain ⟨r1,r2⟩:=Vj s h1 h2
  simp only [Rep] at r1 r2
  exact ⟨i,j,r1,r2,k _ _ (KE.sc s.drop.drop (h i j) q)⟩
theorem Fv {C : Int → Int → Prop} {g : Int → Int → V} {g' : Int → Int → D} (h : ∀ i j,sc (g' i j) = some (g i j)) : Yu K (rI C g) (aI C g'):=by
  intro c τ S H σ ρ vx vy x y Q R s q k
  obtain ⟨i,j,h1,h2,hc,q⟩:=q
  obtain ⟨r1,r2⟩:=Vj s h1 h2
  simp only [Rep] at r1 r2
  exact ⟨i,j,r1,r2,hc,k _ _ (KE.sc s.drop.drop (h i j) q)⟩
def JF0 : AR2:=aI0 fun i j=>.int (i + j)
def Bq : AR2:=aI0 fun i j=>.int (i - j)
def X2 : AR2:=aI CMul fun i j=>.int (i * j)
def X8 : AR2:=aI (fun _ j=>0 < j) fun i j=>.int (i % j)
def Bo : AR2:=aI CPow fun i j=>.int (i ^ j.toNat)
def aLt : AR2:=aI0 fun i j=>.bl (decide (i < j))
def aLe : AR2:=aI0 fun i j=>.bl (decide (i ≤ j))
def aGt : AR2:=aI0 fun i j=>.bl (decide (j < i))
def aGe : AR2:=aI0 fun i j=>.bl (decide (j ≤ i))
theorem JBf : Yu K (rI0 fun i j=>.int (i + j)) JF0:=Bw fun _ _=>rfl
theorem Po : Yu K (rI0 fun i j=>.int (i - j)) Bq:=Bw fun _ _=>rfl
theorem Gi : Yu K (rI CMul fun i j=>.int (i * j)) X2:=Fv fun _ _=>rfl
theorem Gu : Yu K (rI (fun _ j=>0 < j) fun i j=>.int (i % j)) X8:=Fv fun _ _=>rfl
theorem Mu : Yu K (rI CPow fun i j=>.int (i ^ j.toNat)) Bo:=Fv fun _ _=>rfl
theorem B1 : Yu K (rI0 fun i j=>.bl (decide (i < j))) aLt:=Bw fun _ _=>rfl
theorem Xl : Yu K (rI0 fun i j=>.bl (decide (i ≤ j))) aLe:=Bw fun _ _=>rfl
theorem JV8 : Yu K (rI0 fun i j=>.bl (decide (j < i))) aGt:=Bw fun _ _=>rfl
theorem JUh : Yu K (rI0 fun i j=>.bl (decide (j ≤ i))) aGe:=Bw fun _ _=>rfl
def Lj : AR1:=fun x ρ Q=>∃ i,dat x ρ = some (.int i) ∧ Q (.v (.int (-i))) ρ
theorem JHt : Mn K (rU fun i=>.int (-i)) Lj:=by
  intro c τ S H σ ρ vx x Q R s q k
  obtain ⟨i,h1,q⟩:=q
  have r1:=s.dat (List.mem_cons_self ..) h1
  simp only [Rep] at r1
  exact ⟨i,r1,k _ _ (KE.sc s.drop rfl q)⟩
/-- == -/
def JWx (K : Fg) : R2:=fun x y H Q=>∃ d e,Rep K H d x ∧ Rep K H e y ∧ PlD 20 d ∧ PlD 20 e ∧ Q (.bl (deq d e)) H
def Ph (K : Fg) : R2:=fun x y H Q=>∃ d e,Rep K H d x ∧ Rep K H e y ∧ PlD 20 d ∧ PlD 20 e ∧ Q (.bl (!deq d e)) H
theorem or_eq (hu : X.A.units + 64 < cLine) : OpR X (compareOp .Eq) (JWx X.K):=by
  intro pins s σ H x y v u Q I rx ry h
  obtain ⟨d,e,hd,he,pd1,pe1,q⟩:=h
  obtain ⟨as,r1⟩:=Dp.reads I _ x v (V5 20 d x pd1 hd) rx
  obtain ⟨bs,r2⟩:=Dp.reads I _ y u (V5 20 e y pe1 he) ry
  obtain ⟨a1,a2⟩:=Vx 20 d pd1
  obtain ⟨b1,b2⟩:=Vx 20 e pe1
  refine SeqAt.eq_plain r1 r2 a1 b1 ?_ ⟨.bl _,H,I,rfl,?_⟩
  · have:=Nat.min_le_left (pd d).depth (pd e).depth
    omega
  · rw [← Zz 20 d e pd1 pe1]; exact q
theorem F8 (hu : X.A.units + 64 < cLine) : OpR X (compareOp .NotEq) (Ph X.K):=by
  intro pins s σ H x y v u Q I rx ry h
  obtain ⟨d,e,hd,he,pd1,pe1,q⟩:=h
  obtain ⟨as,r1⟩:=Dp.reads I _ x v (V5 20 d x pd1 hd) rx
  obtain ⟨bs,r2⟩:=Dp.reads I _ y u (V5 20 e y pe1 he) ry
  obtain ⟨a1,a2⟩:=Vx 20 d pd1
  obtain ⟨b1,b2⟩:=Vx 20 e pe1
  refine SeqAt.ne_plain r1 r2 a1 b1 ?_ ⟨.bl _,H,I,rfl,?_⟩
  · have:=Nat.min_le_left (pd d).depth (pd e).depth
    omega
  · rw [← Zz 20 d e pd1 pe1]; exact q
def aEq : AR2:=fun x y ρ Q=>∃ d e,dat x ρ = some d ∧ dat y ρ = some e ∧ PlD 20 d ∧ PlD 20 e ∧ Q (.v (.bl (deq d e))) ρ
def aNe : AR2:=fun x y ρ Q=>∃ d e,dat x ρ = some d ∧ dat y ρ = some e ∧ PlD 20 d ∧ PlD 20 e ∧ Q (.v (.bl (!deq d e))) ρ
theorem s_eq : Yu K (JWx K) aEq:=by
  intro c τ S H σ ρ vx vy x y Q R s q k
  obtain ⟨d,e,h1,h2,p1,p2,q⟩:=q
  obtain ⟨r1,r2⟩:=Vj s h1 h2
  exact ⟨d,e,r1,r2,p1,p2,k _ _ (KE.sc s.drop.drop rfl q)⟩
theorem Bv : Yu K (Ph K) aNe:=by
  intro c τ S H σ ρ vx vy x y Q R s q k
  obtain ⟨d,e,h1,h2,p1,p2,q⟩:=q
  obtain ⟨r1,r2⟩:=Vj s h1 h2
  exact ⟨d,e,r1,r2,p1,p2,k _ _ (KE.sc s.drop.drop rfl q)⟩
/-- is None -/
def isNon : D → Bool
  | .non=>true
  | _=>false
theorem JUu {H : Hp} {d : D} {v : V} (r : Rep K H d v) : decide (v = .non) = isNon d:=by
  cases d <;> simp only [Rep] at r <;> first
    | (subst r; rfl)
    | (obtain ⟨_,_,rfl,_⟩:=r; rfl)
    | (obtain ⟨_,_,_,rfl,_⟩:=r; rfl)
def aIs : AR2:=fun x y ρ Q=>∃ d,dat x ρ = some d ∧ dat y ρ = some .non ∧ Q (.v (.bl (isNon d))) ρ
def La : AR2:=fun x y ρ Q=>∃ d,dat x ρ = some d ∧ dat y ρ = some .non ∧ Q (.v (.bl (!isNon d))) ρ
theorem JNw : Yu K (fun x y H Q=>y = .non ∧ Q (.bl (decide (x = .non))) H) aIs:=by
  intro c τ S H σ ρ vx vy x y Q R s q k
  obtain ⟨d,h1,h2,q⟩:=q
  obtain ⟨r1,r2⟩:=Vj s h1 h2
  simp only [Rep] at r2
  refine ⟨r2,?_⟩
  rw [JUu r1]
  exact k _ _ (KE.sc s.drop.drop rfl q)
theorem JH1 : Yu K (fun x y H Q=>y = .non ∧ Q (.bl (!decide (x = .non))) H) La:=by
  intro c τ S H σ ρ vx vy x y Q R s q k
  obtain ⟨d,h1,h2,q⟩:=q
  obtain ⟨r1,r2⟩:=Vj s h1 h2
  simp only [Rep] at r2
  refine ⟨r2,?_⟩
  rw [JUu r1]
  exact k _ _ (KE.sc s.drop.drop rfl q)
/-- x in c -/
def InD (d e : D) (b : Bool) : Prop:=match e with
  | .lst xs=>PlD 20 d ∧ (∀ x ∈ xs,PlD 20 x) ∧ b = xs.any fun z=>deq z d
  | .tup xs=>PlD 20 d ∧ (∀ x ∈ xs,PlD 20 x) ∧ b = xs.any fun z=>deq z d
  | .dic kvs=>∃ k,keyD d = some k ∧ b = (valD kvs k).isSome
  | .str z=>∃ c,d = .str ⟨#[c]⟩ ∧ b = decide (c ∈ z.cps.toList)
  | _=>False
def Pa (K : Fg) (neg : Bool) : R2:=fun x y H Q=>∃ d e b,Rep K H d x ∧ Rep K H e y ∧ InD d e b ∧ Q (.bl (if neg then !b else b)) H
theorem Ly {xs : List D} {d : D} (hx : ∀ x ∈ xs,PlD 20 x) (hd : PlD 20 d) : ((pdL xs).any fun y=>PyData.eqv y (pd d)) = xs.any fun z=>deq z d:=by
  rw [JX1,List.any_map]
  induction xs with
  | nil=>rfl
  | cons x xs ih =>
    have:=ih fun z hz=>hx z (by simp [hz])
    simp only [List.any_cons,Function.comp] at this ⊢
    rw [Zz 20 x d (hx x (by simp)) hd,this]
theorem JVf (hu : X.A.units + 64 < cLine) : OpR X (compareOp .In) (Pa X.K false):=by
  intro pins s σ H x y v u Q I rx ry h
  obtain ⟨d,e,b,hd,he,hin,q⟩:=h
  cases e with
  | lst xs =>
    simp only [InD] at hin
    obtain ⟨p1,p2,rfl⟩:=hin
    obtain ⟨as,r1⟩:=Dp.reads I _ x v (V5 20 d x p1 hd) rx
    obtain ⟨bs,r2⟩:=Dp.reads I _ y u (V5 21 (.lst xs) y (by simpa only [PlD] using p2) he) ry
    obtain ⟨a1,a2⟩:=Vx 20 d p1
    obtain ⟨b1,b2⟩:=B2 20 xs p2
    simp only [pd] at r2
    refine SeqAt.in_list_data r2 r1 b1 a1 ?_ ⟨.bl _,H,I,rfl,?_⟩
    · have:=Nat.min_le_right (PyData.depthAll (pdL xs)) (pd d).depth
      omega
    · rw [Ly p2 p1]; exact q
  | tup xs =>
    simp only [InD] at hin
    obtain ⟨p1,p2,rfl⟩:=hin
    obtain ⟨as,r1⟩:=Dp.reads I _ x v (V5 20 d x p1 hd) rx
    obtain ⟨bs,r2⟩:=Dp.reads I _ y u (V5 21 (.tup xs) y (by simpa only [PlD] using p2) he) ry
    obtain ⟨a1,a2⟩:=Vx 20 d p1
    obtain ⟨b1,b2⟩:=B2 20 xs p2
    simp only [pd] at r2
    refine SeqAt.in_tuple_data r2 r1 b1 a1 ?_ ⟨.bl _,H,I,rfl,?_⟩
    · have:=Nat.min_le_right (PyData.depthAll (pdL xs)) (pd d).depth
      omega
    · rw [Ly p2 p1]; exact q
  | dic kvs =>
    simp only [InD] at hin
    obtain ⟨k,hk,rfl⟩:=hin
    simp only [Rep] at he
    obtain ⟨a,ws,rfl,h1,h2⟩:=he
    have ex:=Bs hk hd
    subst ex
    cases ry
    refine d_in (by omega) I (o:=valV ws k) (.inl ⟨ws,k,h1,rfl,rfl⟩) rx fun s' I'=>⟨.bl _,H,I',rfl,?_⟩
    rcases h2.val (k:=k) with ⟨e1,e2⟩ | ⟨d',v',e1,e2,_⟩ <;> (rw [e2]; rw [e1] at q; exact q)
  | str z =>
    simp only [InD] at hin
    obtain ⟨ch,rfl,rfl⟩:=hin
    simp only [Rep] at hd he
    exact op_in_sign pins s σ H x y v u Q I rx ry ⟨ch,z,hd,he,q⟩
  | non=>cases hin
  | bl _=>cases hin
  | int _=>cases hin
  | ty _=>cases hin
  | obj _ _=>cases hin
  | any=>cases hin
theorem N3 (hu : X.A.units + 64 < cLine) : OpR X (compareOp .NotIn) (Pa X.K true):=by
  intro pins s σ H x y v u Q I rx ry h
  obtain ⟨d,e,b,hd,he,hin,q⟩:=h
  cases e with
  | lst xs =>
    simp only [InD] at hin
    obtain ⟨p1,p2,rfl⟩:=hin
    obtain ⟨as,r1⟩:=Dp.reads I _ x v (V5 20 d x p1 hd) rx
    obtain ⟨bs,r2⟩:=Dp.reads I _ y u (V5 21 (.lst xs) y (by simpa only [PlD] using p2) he) ry
    obtain ⟨a1,a2⟩:=Vx 20 d p1
    obtain ⟨b1,b2⟩:=B2 20 xs p2
    simp only [pd] at r2
    refine SeqAt.notIn_list_data r2 r1 b1 a1 ?_ ⟨.bl _,H,I,rfl,?_⟩
    · have:=Nat.min_le_right (PyData.depthAll (pdL xs)) (pd d).depth
      omega
    · rw [Ly p2 p1]; exact q
  | tup xs =>
    simp only [InD] at hin
    obtain ⟨p1,p2,rfl⟩:=hin
    obtain ⟨as,r1⟩:=Dp.reads I _ x v (V5 20 d x p1 hd) rx
    obtain ⟨bs,r2⟩:=Dp.reads I _ y u (V5 21 (.tup xs) y (by simpa only [PlD] using p2) he) ry
    obtain ⟨a1,a2⟩:=Vx 20 d p1
    obtain ⟨b1,b2⟩:=B2 20 xs p2
    simp only [pd] at r2
    refine SeqAt.notIn_tuple_data r2 r1 b1 a1 ?_ ⟨.bl _,H,I,rfl,?_⟩
    · have:=Nat.min_le_right (PyData.depthAll (pdL xs)) (pd d).depth
      omega
    · rw [Ly p2 p1]; exact q
  | dic kvs =>
    simp only [InD] at hin
    obtain ⟨k,hk,rfl⟩:=hin
    simp only [Rep] at he
    obtain ⟨a,ws,rfl,h1,h2⟩:=he
    have ex:=Bs hk hd
    subst ex
    cases ry
    refine d_notIn (by omega) I (o:=valV ws k) (.inl ⟨ws,k,h1,rfl,rfl⟩) rx fun s' I'=>⟨.bl _,H,I',rfl,?_⟩
    rcases h2.val (k:=k) with ⟨e1,e2⟩ | ⟨d',v',e1,e2,_⟩ <;> (rw [e2]; rw [e1] at q; exact q)
  | str z =>
    simp only [InD] at hin
    obtain ⟨ch,rfl,rfl⟩:=hin
    simp only [Rep] at hd he
    exact op_notIn_sign pins s σ H x y v u Q I rx ry ⟨ch,z,hd,he,q⟩
  | non=>cases hin
  | bl _=>cases hin
  | int _=>cases hin
  | ty _=>cases hin
  | obj _ _=>cases hin
  | any=>cases hin
def aIn (neg : Bool) : AR2:=fun x y ρ Q=>∃ d e b,dat x ρ = some d ∧ dat y ρ = some e ∧ InD d e b ∧ Q (.v (.bl (if neg then !b else b))) ρ
theorem Fl {neg : Bool} : Yu K (Pa K neg) (aIn neg):=by
  intro c τ S H σ ρ vx vy x y Q R s q k
  obtain ⟨d,e,b,h1,h2,hi,q⟩:=q
  obtain ⟨r1,r2⟩:=Vj s h1 h2
  exact ⟨d,e,b,r1,r2,hi,k _ _ (KE.sc s.drop.drop rfl q)⟩
end
end Vs
namespace Vs
open PySem L2
variable [Tbs]
section
variable {X : Cx} {P : Pm} {K : Fg} {a b e : Expr} {pos : Pos} {aa ab : AE}
def ItD (d i z : D) : Prop:=match d with
  | .lst xs=>∃ j,i = .int j ∧ atI xs j = some z
  | .tup xs=>∃ j,i = .int j ∧ atI xs j = some z
  | .str x=>∃ j ch,i = .int j ∧ x.length ≤ 100000 ∧ atI x.cps.toList j = some ch ∧ z = .str ⟨#[ch]⟩
  | _=>False
def JKn : AR2:=fun x y ρ Q=>∃ d i z,dat x ρ = some d ∧ dat y ρ = some i ∧ ItD d i z ∧ Q (.v z) ρ
theorem JLl : Yu K (rIx K) JKn:=by
  intro c τ S H σ ρ vx vy x y Q R s q k
  obtain ⟨d,i,z,h1,h2,hi,q⟩:=q
  obtain ⟨y0,g,r0,e0⟩:=s.thing (List.mem_cons_of_mem _ (List.mem_cons_self ..)) h1
  have r2:=(Vj s h1 h2).2
  cases d with
  | lst xs =>
    simp only [ItD] at hi
    obtain ⟨j,rfl,hj⟩:=hi
    obtain ⟨p,vs,rfl,h3,h4⟩:=Vw r0 e0 s.le
    simp only [Rep] at r2
    obtain ⟨w,e1,e2⟩:=h4.at hj
    exact .inl ⟨p,vs,j,w,rfl,r2,h3,e1,k _ _ ⟨S,ρ,.v z,s.drop.drop.hold e2,q⟩⟩
  | tup xs =>
    simp only [ItD] at hi
    obtain ⟨j,rfl,hj⟩:=hi
    obtain ⟨p,vs,rfl,_,h3,h4⟩:=Xk r0 e0 s.le
    simp only [Rep] at r2
    obtain ⟨w,e1,e2⟩:=h4.at hj
    exact .inr (.inl ⟨p,vs,j,w,rfl,r2,h3,e1,k _ _ ⟨S,ρ,.v z,s.drop.drop.hold e2,q⟩⟩)
  | str t =>
    simp only [ItD] at hi
    obtain ⟨j,ch,rfl,hl,hj,rfl⟩:=hi
    have r1:=(Vj s h1 h2).1
    simp only [Rep] at r1 r2
    exact .inr (.inr ⟨t,j,ch,r1,r2,Nat.le_trans hl (by decide),hj,k _ _ (KE.sc s.drop.drop rfl q)⟩)
  | non=>cases hi
  | bl _=>cases hi
  | int _=>cases hi
  | ty _=>cases hi
  | dic _=>cases hi
  | obj _ _=>cases hi
  | any=>cases hi
/-- d[k] -/
def JPp : AR2:=fun x y ρ Q=>∃ kvs i k z,dat x ρ = some (.dic kvs) ∧ dat y ρ = some i ∧ keyD i = some k ∧ valD kvs k = some z ∧ Q (.v z) ρ
/-- d.get(k) -/
def JNd (aa ab : AE) : AE:=fun EA ρ Q=>aa EA ρ fun x ρ1=>(∃ kvs,dat x ρ1 = some (.dic kvs)) ∧ ab EA ρ1 fun y ρ2=>∃ kvs i k,dat x ρ2 = some (.dic kvs) ∧ dat y ρ2 = some i ∧ keyD i = some k ∧ Q (.v ((valD kvs k).getD .non)) ρ2
abbrev AO:=AX → J0 → (Option Int → J0 → Prop) → Prop
structure QO (X : Cx) (P : Pm) (e : Option Expr) (ao : AO) : Prop where
  ex : ∃ t,PO X e t ∧ ∀ c EA,OsIn X.K c P.O → XOk X.K c P.W EA → ∀ τ S H σ ρ Q (R : Option Int → Hp → Prop),Stt X.K c S H σ ρ τ → ao EA ρ Q → (∀ o H',(∃ S' ρ',Stt X.K c S' H' σ ρ' τ ∧ Q o ρ') → R o H') → t σ H R
def Zi : AO:=fun _ ρ Q=>Q none ρ
def Zm (ae : AE) : AO:=fun EA ρ Q=>ae EA ρ fun x ρ1=>∃ i,dat x ρ1 = some (.int i) ∧ Q (some i) ρ1
theorem Bg : QO X P none Zi:=⟨_,po_none,fun c EA _ _ τ S H σ ρ Q R s q k=>k _ _ ⟨S,ρ,s,q⟩⟩
theorem Bm (ha : QE X P a aa) : QO X P (some a) (Zm aa):=by
  obtain ⟨ta,pa,sa⟩:=ha.ex
  refine ⟨_,po_some pa,fun c EA ho hw τ S H σ ρ Q R s q k=>sa c EA ho hw τ S H σ ρ _ _ s q fun vx H1 ⟨S1,ρ1,x,s1,i,h1,q1⟩=>?_⟩
  have r:=s1.dat (List.mem_cons_self ..) h1
  simp only [Rep] at r
  exact ⟨i,r,k _ _ ⟨S1,ρ1,s1.drop,q1⟩⟩
def cutD (xs : List D) (lo hi : Option Int) : List D:=(xs.drop (HT.sIx xs.length 0 lo)).take (HT.sIx xs.length xs.length hi - HT.sIx xs.length 0 lo)
theorem RepL.cut {S : Hp} {xs : List D} {vs : List V} (lo hi : Option Int) (h : RepL K S xs vs) : RepL K S (cutD xs lo hi) (cutV vs lo hi):=by
  unfold cutD cutV
  rw [h.len]
  exact (h.drop _).take _
def Zk (aa : AE) (al ah : AO) : AE:=fun EA ρ Q=>aa EA ρ fun x ρ1=>al EA ρ1 fun lo ρ2=>ah EA ρ2 fun hi ρ3=>∃ d,dat x ρ3 = some d ∧ match d with
  | .lst xs=>Q (.lst (cutD xs lo hi)) ρ3
  | .tup xs=>Q (.v (.tup (cutD xs lo hi))) ρ3
  | _=>False
theorem JPs {vs : List V} {lo hi : Option Int} (h1 : HT.sIx vs.length 0 lo = 0) (h2 : HT.sIx vs.length vs.length hi = vs.length) : cutV vs lo hi = vs:=by
  unfold cutV
  rw [h1,h2]
  simp
theorem Bn {lo hi : Option Expr} {p2 : Pos} {al ah : AO} (ha : QE X P a aa) (hl : QO X P lo al) (hh : QO X P hi ah) : QE X P (.Subscript a (.Slice lo hi none p2) pos) (Zk aa al ah):=by
  obtain ⟨ta,pa,sa⟩:=ha.ex
  obtain ⟨tl,pl,sl⟩:=hl.ex
  obtain ⟨th,ph,sh⟩:=hh.ex
  refine ⟨_,pe_slice (SlR.or sl_list sl_tupA) pa pl ph,fun c EA ho hw τ S H σ ρ Q R s q k=>sa c EA ho hw τ S H σ ρ _ _ s q fun vx H1 ⟨S1,ρ1,x,s1,q1⟩ =>
    sl c EA ho hw _ S1 H1 σ ρ1 _ _ s1 q1 fun l H2 ⟨S2,ρ2,s2,q2⟩=>sh c EA ho hw _ S2 H2 σ ρ2 _ _ s2 q2 fun u H3 ⟨S3,ρ3,s3,d,h1,q3⟩=>?_⟩
  obtain ⟨y0,g,r0,e0⟩:=s3.thing (List.mem_cons_self ..) h1
  cases d with
  | lst xs =>
    obtain ⟨p,vs,rfl,h5,h6⟩:=Vw r0 e0 s3.le
    refine .inl ⟨p,vs,rfl,h5,fun pn hp=>k _ _ ⟨S3,ρ3,.lst (cutD xs l u),s3.drop.alloc hp rfl ?_,q3⟩⟩
    simp only [RepA]
    exact ⟨pn,_,rfl,upd_same,h6.cut l u,by first | rfl | trivial⟩
  | tup xs =>
    obtain ⟨p,vs,rfl,h4,h5,h6⟩:=Xk r0 e0 s3.le
    refine .inr ⟨p,vs,rfl,h5,fun hw2=>k _ _ ⟨S3,ρ3,.v (.tup (cutD xs l u)),s3.drop.hold ?_,q3⟩,fun _ pn hp=>?_⟩
    · have e1:=h6.cut l u
      rw [JPs hw2.1 hw2.2] at e1
      simp only [Rep]
      exact ⟨p,vs,rfl,h4,e1⟩
    · have f1:=(s3.fresh hp).1
      refine k _ _ ⟨_,ρ3,.v (.tup (cutD xs l u)),s3.drop.share (o:=.tup (cutV vs l u)) hp ?_,q3⟩
      simp only [Rep]
      exact ⟨pn,_,rfl,SqT.of upd_same,RepL.le (Le.of_same (Same.up f1)) _ _ (h6.cut l u)⟩
  | non=>cases q3
  | bl _=>cases q3
  | int _=>cases q3
  | str _=>cases q3
  | ty _=>cases q3
  | dic _=>cases q3
  | obj _ _=>cases q3
  | any=>cases q3
def JOo : AR2:=fun x y ρ Q=>∃ i j,dat x ρ = some (.str i) ∧ dat y ρ = some (.str j) ∧ i.length + j.length ≤ 100000 ∧ Q (.v (.str (i ++ j))) ρ
theorem JFi : Yu K (fun x y H Q=>∃ i j,x = .str i ∧ y = .str j ∧ i.length + j.length ≤ sizeLine ∧ Q (.str (i ++ j)) H) JOo:=by
  intro c τ S H σ ρ vx vy x y Q R s q k
  obtain ⟨i,j,h1,h2,hc,q⟩:=q
  obtain ⟨r1,r2⟩:=Vj s h1 h2
  simp only [Rep] at r1 r2
  exact ⟨i,j,r1,r2,Nat.le_trans hc (by decide),k _ _ (KE.sc s.drop.drop rfl q)⟩
/-- tuples,lists -/
def JK1 : AR2:=fun x y ρ Q=>∃ xs ys,dat x ρ = some (.tup xs) ∧ dat y ρ = some (.tup ys) ∧ xs.length + ys.length ≤ 100000 ∧ Q (.v (.tup (xs ++ ys))) ρ
theorem JPv : Yu K (rCatA K) JK1:=by
  intro c τ S H σ ρ vx vy x y Q R s q k
  obtain ⟨xs,ys,h1,h2,hc,q⟩:=q
  obtain ⟨y0,g,r0,e0⟩:=s.thing (List.mem_cons_of_mem _ (List.mem_cons_self ..)) h1
  obtain ⟨y1,g1,r1,e1⟩:=s.thing (List.mem_cons_self ..) h2
  obtain ⟨p,vs,rfl,a1,a2,a3⟩:=Xk r0 e0 s.le
  obtain ⟨p',vs',rfl,b1,b2,b3⟩:=Xk r1 e1 s.le
  have ab:=a3.app b3
  refine ⟨p,p',vs,vs',rfl,rfl,a2,b2,by rw [a3.len,b3.len]; exact Nat.le_trans hc (by decide),fun z=>?_,fun z1 z2=>?_,fun z1 z2 pn hp=>?_⟩
  · rw [z] at ab
    refine k _ _ ⟨S,ρ,.v (.tup (xs ++ ys)),s.drop.drop.hold ?_,q⟩
    simp only [Rep]
    exact ⟨p',vs',rfl,b1,ab⟩
  · rw [z2,List.append_nil] at ab
    refine k _ _ ⟨S,ρ,.v (.tup (xs ++ ys)),s.drop.drop.hold ?_,q⟩
    simp only [Rep]
    exact ⟨p,vs,rfl,a1,ab⟩
  · have f1:=(s.fresh hp).1
    refine k _ _ ⟨_,ρ,.v (.tup (xs ++ ys)),s.drop.drop.share (o:=.tup (vs ++ vs')) hp ?_,q⟩
    simp only [Rep]
    exact ⟨pn,_,rfl,SqT.of upd_same,RepL.le (Le.of_same (Same.up f1)) _ _ ab⟩
theorem one_arg {c : Ctx} {S H : Hp} {σ : L2.St} {ρ : J0} {τ : List (V × A)} {vs : List V} {x : A} (hl : vs.length = [x].length) (s : Stt K c S H σ ρ (vs.zip [x] ++ τ)) : ∃ v,vs = [v] ∧ Stt K c S H σ ρ ((v,x) :: τ):=by
  match vs,hl,s with
  | [v],_,s=>exact ⟨v,rfl,by simpa using s⟩
theorem JYp {c : Ctx} {S H : Hp} {σ : L2.St} {ρ : J0} {τ : List (V × A)} {vs : List V} {x y : A} (hl : vs.length = [x,y].length) (s : Stt K c S H σ ρ (vs.zip [x,y] ++ τ)) : ∃ v w,vs = [v,w] ∧ Stt K c S H σ ρ ((w,y) :: (v,x) :: τ):=by
  match vs,hl,s with
  | [v,w],_,s=>exact ⟨v,w,rfl,by
      have : Stt K c S H σ ρ ((v,x) :: (w,y) :: τ):=by simpa using s
      exact this.swap (.swap _ _ _)⟩
def Ue : D → Option Nat
  | .lst xs=>some xs.length
  | .tup xs=>some xs.length
  | .dic xs=>some xs.length
  | .str x=>if x.length ≤ 100000 then some x.length else none
  | _=>none
def Tp (K : Fg) : List V → Hp → VK → Prop:=fun xs H Q=>(∃ x n,xs = [x] ∧ LenV K x H n ∧ Q (.int n) H) ∨ ∃ a kvs,xs = [V.ref a] ∧ Rd H a (.dK kvs) ∧ Q (.int kvs.length) H
theorem V7 : CallR X (.builtin "len") (Tp X.K):=by
  intro pins s σ H xs us Q I r h
  rcases h with h | ⟨a,kvs,rfl,ha,q⟩
  · exact call_len pins s σ H xs us Q I r h
  · obtain ⟨u,rfl,ru⟩:=vals1 r
    cases ru
    exact d_len I ha fun t s' I'=>⟨.int kvs.length,H,I',⟨t,rfl⟩,q⟩
def Uo : ARs:=fun xs ρ Q=>∃ x d n,xs = [x] ∧ dat x ρ = some d ∧ Ue d = some n ∧ Q (.v (.int n)) ρ
theorem V6 : Vy K (Tp K) Uo:=by
  intro c τ S H σ ρ vs xs Q R hl s q k
  obtain ⟨x,d,n,rfl,h1,h2,q⟩:=q
  obtain ⟨v,rfl,s⟩:=one_arg hl s
  obtain ⟨y0,g,r0,e0⟩:=s.thing (List.mem_cons_self ..) h1
  have kk : R (.int n) H:=k _ _ (KE.sc s.drop rfl q)
  cases d with
  | lst xs =>
    simp only [Ue] at h2; injection h2 with h2; subst h2
    obtain ⟨p,vs,rfl,h3,h4⟩:=Vw r0 e0 s.le
    exact .inl ⟨_,xs.length,rfl,.inl ⟨vs,h3,h4.len.symm⟩,kk⟩
  | tup xs =>
    simp only [Ue] at h2; injection h2 with h2; subst h2
    obtain ⟨p,vs,rfl,_,h3,h4⟩:=Xk r0 e0 s.le
    exact .inl ⟨_,xs.length,rfl,.inr ⟨vs,h3,h4.len.symm⟩,kk⟩
  | dic xs =>
    simp only [Ue] at h2; injection h2 with h2; subst h2
    obtain ⟨p,vs,rfl,h3,h4⟩:=Ld r0 e0 s.le
    exact .inr ⟨p,vs,rfl,h3,by rw [h4.len]; exact kk⟩
  | str z =>
    simp only [Ue] at h2
    have r:=s.dat (List.mem_cons_self ..) h1
    simp only [Rep] at r
    subst r
    by_cases hz : z.length ≤ 100000
    · rw [if_pos hz] at h2; injection h2 with h2; subst h2
      exact .inl ⟨_,z.length,rfl,⟨Nat.le_trans hz (by decide),rfl⟩,kk⟩
    · rw [if_neg hz] at h2; cases h2
  | non=>cases h2
  | bl _=>cases h2
  | int _=>cases h2
  | ty _=>cases h2
  | obj _ _=>cases h2
  | any=>cases h2
/-- int(x) of a number or a truth value -/
def Ww : ARs:=fun xs ρ Q=>∃ x,xs = [x] ∧ ((∃ i,dat x ρ = some (.int i) ∧ Q (.v (.int i)) ρ) ∨ ∃ b,dat x ρ = some (.bl b) ∧ Q (.v (.int (if b then 1 else 0))) ρ)
theorem B4 : Vy K (fun xs H Q=>(∃ i,xs = [.int i] ∧ Q (.int i) H) ∨ ∃ k,xs = [.bl k] ∧ Q (.int (if k then 1 else 0)) H) Ww:=by
  intro c τ S H σ ρ vs xs Q R hl s q k
  obtain ⟨x,rfl,q⟩:=q
  obtain ⟨v,rfl,s⟩:=one_arg hl s
  rcases q with ⟨i,h1,q⟩ | ⟨b,h1,q⟩
  · have r:=s.dat (List.mem_cons_self ..) h1
    simp only [Rep] at r
    exact .inl ⟨i,by rw [r],k _ _ (KE.sc s.drop rfl q)⟩
  · have r:=s.dat (List.mem_cons_self ..) h1
    simp only [Rep] at r
    exact .inr ⟨b,by rw [r],k _ _ (KE.sc s.drop rfl q)⟩
def Hc : ARs:=fun xs ρ Q=>∃ x i,xs = [x] ∧ dat x ρ = some (.int i) ∧ Q (.v (.int (if i < 0 then -i else i))) ρ
theorem T9 : Vy K (fun xs H Q=>∃ i,xs = [.int i] ∧ Q (.int (if i < 0 then -i else i)) H) Hc:=by
  intro c τ S H σ ρ vs xs Q R hl s q k
  obtain ⟨x,i,rfl,h1,q⟩:=q
  obtain ⟨v,rfl,s⟩:=one_arg hl s
  have r:=s.dat (List.mem_cons_self ..) h1
  simp only [Rep] at r
  exact ⟨i,by rw [r],k _ _ (KE.sc s.drop rfl q)⟩
def L5 : ARs:=fun xs ρ Q=>∃ x y i j,xs = [x,y] ∧ dat x ρ = some (.int i) ∧ dat y ρ = some (.int j) ∧ Q (.v (.int (if j > i then j else i))) ρ
def Lq : ARs:=fun xs ρ Q=>∃ x y i j,xs = [x,y] ∧ dat x ρ = some (.int i) ∧ dat y ρ = some (.int j) ∧ Q (.v (.int (if j < i then j else i))) ρ
theorem JG9 : Vy K (fun xs H Q=>∃ i j,xs = [.int i,.int j] ∧ Q (.int (if j > i then j else i)) H) L5:=by
  intro c τ S H σ ρ vs xs Q R hl s q k
  obtain ⟨x,y,i,j,rfl,h1,h2,q⟩:=q
  obtain ⟨v,w,rfl,s2⟩:=JYp (x:=x) (y:=y) hl s
  obtain ⟨r1,r2⟩:=Vj s2 h1 h2
  simp only [Rep] at r1 r2
  exact ⟨i,j,by rw [r1,r2],k _ _ (KE.sc s2.drop.drop rfl q)⟩
theorem JFq : Vy K (fun xs H Q=>∃ i j,xs = [.int i,.int j] ∧ Q (.int (if j < i then j else i)) H) Lq:=by
  intro c τ S H σ ρ vs xs Q R hl s q k
  obtain ⟨x,y,i,j,rfl,h1,h2,q⟩:=q
  obtain ⟨v,w,rfl,s2⟩:=JYp (x:=x) (y:=y) hl s
  obtain ⟨r1,r2⟩:=Vj s2 h1 h2
  simp only [Rep] at r1 r2
  exact ⟨i,j,by rw [r1,r2],k _ _ (KE.sc s2.drop.drop rfl q)⟩
/-- list(x): of a list,a tuple,a dict -/
def keyOf : Key → D
  | .inl i=>.int i
  | .inr x=>.str x
def Gj : D → Option (List D)
  | .lst xs=>some xs
  | .tup xs=>some xs
  | .dic kvs=>some (kvs.map fun p=>keyOf p.1)
  | _=>none
def JW2 (K : Fg) : List V → Hp → VK → Prop:=fun xs H Q=>(∃ p ys,xs = [.ref p] ∧ (SqL K H p ys ∨ SqT K H p ys) ∧ ∀ l,H l = none → Q (.ref l) (upd H l (.lst ys))) ∨
  ∃ (a : Addr) (kvs : List (Key × V)),xs = [.ref a] ∧ Rd H a (.dK kvs) ∧ ∀ p,H p = none → Q (.ref p) (upd H p (.lst (kvs.map fun kv=>kV kv.1)))
theorem JM9 (hc : X.calm = true) : CallR X (.type "list") (JW2 X.K):=by
  intro pins s σ H xs us Q I r h
  rcases h with h | h
  · exact call_list_of pins s σ H xs us Q I r h
  · exact call_listD hc pins s σ H xs us Q I r h
theorem JU3 {S : Hp} : ∀ {kvs : List (Key × D)} {ws : List (Key × V)},RepK K S kvs ws → RepL K S (kvs.map fun p=>keyOf p.1) (ws.map fun kv=>kV kv.1)
  | [],ws,h=>by
    simp only [RepK] at h
    subst h
    simp [RepL]
  | (k,x) :: r,ws,h=>by
    simp only [RepK] at h
    obtain ⟨v,r',rfl,h1,h2⟩:=h
    simp only [List.map_cons,RepL]
    refine ⟨_,_,rfl,?_,JU3 h2⟩
    cases k <;> simp only [keyOf,Rep,kV]
def Kb : ARs:=fun xs ρ Q=>∃ x d ys,xs = [x] ∧ dat x ρ = some d ∧ Gj d = some ys ∧ Q (.lst ys) ρ
theorem Stt.newList {c : Ctx} {S H : Hp} {σ : L2.St} {ρ : J0} {τ : List (V × A)} {p : Addr} {vs : List V} {ds : List D} (s : Stt K c S H σ ρ τ) (hp : H p = none) (h : RepL K S ds vs) : Stt K c S (upd H p (.lst vs)) σ ρ ((.ref p,.lst ds) :: τ):=by
  refine s.alloc hp rfl ?_
  simp only [RepA]
  exact ⟨p,vs,rfl,upd_same,h,by first | rfl | trivial⟩
theorem JBi : Vy K (JW2 K) Kb:=by
  intro c τ S H σ ρ vs xs Q R hl s q k
  obtain ⟨x,d,ys,rfl,h1,h2,q⟩:=q
  obtain ⟨v,rfl,s⟩:=one_arg hl s
  obtain ⟨y0,g,r0,e0⟩:=s.thing (List.mem_cons_self ..) h1
  cases d with
  | lst xs =>
    simp only [Gj] at h2; injection h2 with h2; subst h2
    obtain ⟨p,vs,rfl,h3,h4⟩:=Vw r0 e0 s.le
    exact .inl ⟨p,vs,rfl,.inl h3,fun l hn=>k _ _ ⟨S,ρ,_,s.drop.newList hn h4,q⟩⟩
  | tup xs =>
    simp only [Gj] at h2; injection h2 with h2; subst h2
    obtain ⟨p,vs,rfl,_,h3,h4⟩:=Xk r0 e0 s.le
    exact .inl ⟨p,vs,rfl,.inr h3,fun l hn=>k _ _ ⟨S,ρ,_,s.drop.newList hn h4,q⟩⟩
  | dic xs =>
    simp only [Gj] at h2; injection h2 with h2; subst h2
    obtain ⟨p,vs,rfl,h3,h4⟩:=Ld r0 e0 s.le
    exact .inr ⟨p,vs,rfl,h3,fun l hn=>k _ _ ⟨S,ρ,_,s.drop.newList hn (JU3 h4),q⟩⟩
  | non=>cases h2
  | bl _=>cases h2
  | int _=>cases h2
  | str _=>cases h2
  | ty _=>cases h2
  | obj _ _=>cases h2
  | any=>cases h2
/-- tuple(x) of a list or a tuple -/
def Xw : ARs:=fun xs ρ Q=>∃ x d ys,xs = [x] ∧ dat x ρ = some d ∧ (d = .lst ys ∨ d = .tup ys) ∧ Q (.v (.tup ys)) ρ
theorem Av : Vy K (fun xs H Q=>∃ p ys,xs = [.ref p] ∧ ((SqL K H p ys ∧ ∀ l,H l = none → Q (.ref l) (upd H l (.tup ys))) ∨ (SqT K H p ys ∧ Q (.ref p) H))) Xw:=by
  intro c τ S H σ ρ vs xs Q R hl s q k
  obtain ⟨x,d,ys,rfl,h1,h2,q⟩:=q
  obtain ⟨v,rfl,s⟩:=one_arg hl s
  obtain ⟨y0,g,r0,e0⟩:=s.thing (List.mem_cons_self ..) h1
  rcases h2 with rfl | rfl
  · obtain ⟨p,vs,rfl,h3,h4⟩:=Vw r0 e0 s.le
    refine ⟨p,vs,rfl,.inl ⟨h3,fun l hn=>?_⟩⟩
    have f1:=(s.fresh hn).1
    refine k _ _ ⟨_,ρ,_,s.drop.share (o:=.tup vs) (d:=.tup ys) hn ?_,q⟩
    simp only [Rep]
    exact ⟨l,vs,rfl,SqT.of upd_same,RepL.le (Le.of_same (Same.up f1)) _ _ h4⟩
  · obtain ⟨p,vs,rfl,h3,h5,h4⟩:=Xk r0 e0 s.le
    refine ⟨p,vs,rfl,.inr ⟨h5,k _ _ ⟨S,ρ,_,s.drop.hold (d:=.tup ys) ?_,q⟩⟩⟩
    simp only [Rep]
    exact ⟨p,vs,rfl,h3,h4⟩
/-- all(xs) of a list of truth values -/
def Xb : ARs:=fun xs ρ Q=>∃ (x : A) (bs : List Bool),xs = [x] ∧ dat x ρ = some (.lst (bs.map D.bl)) ∧ Q (.v (.bl (bs.all id))) ρ
theorem Ap {S : Hp} : ∀ {bs : List Bool} {vs : List V},RepL K S (bs.map D.bl) vs → vs = bs.map V.bl
  | [],vs,h=>by simp only [List.map_nil,RepL] at h; rw [h]; rfl
  | b :: bs,vs,h=>by
    simp only [List.map_cons,RepL] at h
    obtain ⟨v,r,rfl,h1,h2⟩:=h
    simp only [Rep] at h1
    rw [h1,Ap h2]; rfl
theorem G8 : Vy K (rAll K) Xb:=by
  intro c τ S H σ ρ vs xs Q R hl s q k
  obtain ⟨x,bs,rfl,h1,q⟩:=q
  obtain ⟨v,rfl,s⟩:=one_arg hl s
  obtain ⟨y0,g,r0,e0⟩:=s.thing (List.mem_cons_self ..) h1
  obtain ⟨p,vs,rfl,h3,h4⟩:=Vw r0 e0 s.le
  have e:=Ap h4
  subst e
  exact ⟨p,bs,rfl,h3,k _ _ (KE.sc s.drop rfl q)⟩
end
end Vs
namespace Vs
open PySem L2
variable [Tbs]
section
variable {X : Cx} {P : Pm} {K : Fg} {pos : Pos}
def Yt : AS:=fun DA ρ=>DA.nx ρ
def Jw (a b : AS) : AS:=fun DA ρ=>a { DA with nx:=b DA } ρ
def Wv (ae : AE) : AS:=fun DA ρ=>ae DA.ex ρ fun _ ρ'=>DA.nx ρ'
def Z9 (x : A) (ρ : J0) (rt : A → J0 → Prop) : Prop:=match x with
  | .loc i=>∃ y,ρ[i]? = some (some y) ∧ rt y (ρ.set i none)
  | y=>rt y ρ
def Yd (ae : AE) : AS:=fun DA ρ=>ae DA.ex ρ fun x ρ'=>Z9 x ρ' DA.rt
def JXt : AS:=fun DA ρ=>DA.rt (.v .non) ρ
def Yr (t : AT) (a b : AS) : AS:=fun DA ρ=>t DA.ex ρ fun b' ρ'=>if b' = true then a DA ρ' else b DA ρ'
def JH0 : AS:=fun DA ρ=>DA.bk ρ
def JMc : AS:=fun DA ρ=>DA.ct ρ
theorem JN3 : Z2 K P tNext Yt:=fun c D DA _ _ l S H σ ρ s q=>l.nx S H σ ρ s q
theorem JNh {t u : TS} {a b : AS} (h1 : Z2 K P t a) (h2 : Z2 K P u b) : Z2 K P (tSeq t u) (Jw a b):=fun c D DA ho hw l S H σ ρ s q =>
  h1 c { D with nx:=u D } { DA with nx:=b DA } ho hw ⟨fun S H σ ρ s q=>h2 c D DA ho hw l S H σ ρ s q,l.rt,l.bk,l.ct⟩ S H σ ρ s q
theorem JMr {te : TE} {ae : AE} (h : U5 K P te ae) : Z2 K P (tDrop te) (Wv ae):=fun c D DA ho hw l S H σ ρ s q =>
  h c DA.ex ho hw [] S H σ ρ _ _ s q fun v H1 ⟨S1,ρ1,x,s1,q1⟩=>l.nx S1 H1 σ ρ1 s1.drop q1
theorem JBz {c : Ctx} {S H : Hp} {σ : L2.St} {ρ : J0} {v : V} {x : A} {rt : A → J0 → Prop} {R : Prop} (s : Stt K c S H σ ρ [(v,x)]) (h : Z9 x ρ rt) (k : ∀ y ρ',Yg y = false → Stt K c S H σ ρ' [(v,y)] → rt y ρ' → R) : R:=by
  cases hx : Yg x with
  | false =>
    refine k x ρ hx s ?_
    cases x <;> first | exact h | cases hx
  | true =>
    cases x with
    | loc i =>
      obtain ⟨y,hy,hr⟩:=h
      have hv:=(s.loc v i (List.mem_cons_self ..)).1
      exact k y _ (Pj (s.env.get hy).2) (s.drop.takeSlot hy hv (fun u m=>by simp at m)) hr
    | _=>cases hx
theorem JGd {te : TE} {ae : AE} (h : U5 K P te ae) : Z2 K P (tRet te) (Yd ae):=fun c D DA ho hw l S H σ ρ s q =>
  h c DA.ex ho hw [] S H σ ρ _ _ s q fun v H1 ⟨S1,ρ1,x,s1,q1⟩=>JBz s1 q1 fun y ρ' hy s2 q2=>l.rt S1 H1 σ ρ' v y s2 hy q2
theorem JGb {t : TT} {a : AT} {u u' : TS} {b b' : AS} (h : Vp K P t a) (h1 : Z2 K P u b) (h2 : Z2 K P u' b') : Z2 K P (tIfS t u u') (Yr a b b'):=fun c D DA ho hw l S H σ ρ s q =>
  h c DA.ex ho hw [] S H σ ρ _ _ s q fun v H1 ⟨S1,ρ1,s1,q1⟩=>by
    cases v with
    | true=>rw [if_pos rfl] at q1 ⊢; exact h1 c D DA ho hw l S1 H1 σ ρ1 s1 q1
    | false=>rw [if_neg Bool.false_ne_true] at q1 ⊢; exact h2 c D DA ho hw l S1 H1 σ ρ1 s1 q1
theorem U0 : QSs X P [] Yt:=⟨_,pss_nil,JN3⟩
theorem Jx {st : Stmt} {rest : List Stmt} {a b : AS} (h1 : QS X P st a) (h2 : QSs X P rest b) : QSs X P (st :: rest) (Jw a b):=let ⟨_,p,s⟩:=h1.ex; let ⟨_,p2,s2⟩:=h2.ex; ⟨_,pss_cons p p2,JNh s s2⟩
theorem Jz {st : Stmt} {a : AS} (h1 : QS X P st a) : QSs X P [st] a:=let ⟨_,p,s⟩:=h1.ex; ⟨_,pss_one p,s⟩
theorem Xi {e : Expr} {ae : AE} (h : QE X P e ae) (hs : swapsWith e none pos.line X.env = pure false:=by rfl) : QS X P (.Expr e pos) (Wv ae):=let ⟨_,p,s⟩:=h.ex; ⟨_,ps_expr p hs,JMr s⟩
theorem Yi {e : Expr} {ae : AE} (h : QE X P e ae) : QS X P (.Return (some e) pos) (Yd ae):=let ⟨_,p,s⟩:=h.ex; ⟨_,ps_ret p,JGd s⟩
theorem Yv {e : Expr} {a b : List Stmt} {t : AT} {u u' : AS} (h : QT X P e t) (h1 : QSs X P a u) (h2 : QSs X P b u') : QS X P (.If e a b pos) (Yr t u u'):=let ⟨_,p,s⟩:=h.ex; let ⟨_,p1,s1⟩:=h1.ex; let ⟨_,p2,s2⟩:=h2.ex; ⟨_,ps_if p p1 p2,JGb s s1 s2⟩
theorem Stt.clear {c : Ctx} {S H : Hp} {σ : L2.St} {ρ : J0} {τ : List (V × A)} (s : Stt K c S H σ ρ τ) (i : Nat) (hn : ∀ v,(v,A.loc i) ∉ τ) : Stt K c S H σ (ρ.set i none) τ:=by
  cases h : ρ[i]? with
  | none =>
    have : ρ.set i none = ρ:=List.set_eq_of_length_le (by simpa using h)
    rw [this]; exact s
  | some o =>
    cases o with
    | none=>rw [Hj h]; exact s
    | some y =>
      obtain ⟨⟨v,hv⟩,_⟩:=s.env.get h
      exact (s.takeSlot h hv hn).drop
theorem Stt.store {c : Ctx} {S H : Hp} {σ : L2.St} {ρ : J0} {τ : List (V × A)} {v : V} {x : A} {i : Nat} (s : Stt K c S H σ ρ ((v,x) :: τ)) (hx : Yg x = false) (ho : ∀ p ∈ c.os,p.1 ≠ i) (hn : ∀ u,(u,A.loc i) ∉ τ) : Stt K c S H (σ.set i (some v)) (ρ.set i (some x)) τ:=by
  have s1 : Stt K c S H σ (ρ.set i none) ((v,x) :: τ):=s.clear i fun u m=>by
    rcases List.mem_cons.mp m with q | q
    · injection q with _ q; rw [← q] at hx; cases hx
    · exact hn u q
  refine ⟨?_,?_,fun u j m=>?_,s1.le,s1.r,s1.new,s1.up,fun p m=>?_,s1.tb⟩
  · by_cases hi : i < ρ.length
    · obtain ⟨fp,h1,h2,h3⟩:=s1.own
      have hlen : i < σ.length:=by rw [s.env.len]; exact hi
      have hv : (σ.set i (some v))[i]? = some (some v):=by rw [List.getElem?_set_self hlen]
      have p : (Y2 (ρ.set i none) σ ++ Yc ((v,x) :: τ)).Perm (Y2 (ρ.set i (some x)) (σ.set i (some v)) ++ Yc τ):=by
        rw [By hx]
        have q:=Fk (ρ:=ρ) (σ:=σ.set i (some v)) (i:=i) (y:=x) (v:=v) hi hv
        rw [Lz] at q
        exact List.perm_middle.trans (List.Perm.append_right _ q.symm)
      obtain ⟨fq,q1,q2⟩:=RepP.perm p h1
      exact ⟨fq,q1,q2.nodup_iff.mp h2,fun a ha=>h3 a (q2.symm.subset ha)⟩
    · have hl : ρ.length ≤ i:=by omega
      rw [List.set_eq_of_length_le hl,List.set_eq_of_length_le (by rw [s.env.len]; exact hl)]
      exact s.drop.own
  · exact s.env.store fun y e=>by cases e; exact ⟨⟨v,rfl⟩,Fi hx⟩
  · obtain ⟨z1,y,z2⟩:=s.loc u j (List.mem_cons_of_mem _ m)
    have ne : i ≠ j:=fun e=>hn u (e ▸ m)
    exact ⟨by rw [List.getElem?_set_ne ne]; exact z1,y,by rw [List.getElem?_set_ne ne]; exact z2⟩
  · rw [List.getElem?_set_ne (Ne.symm (ho p m))]
    exact s.os p m
def Ze (x : A) (ρ : J0) (i : Nat) (nx : J0 → Prop) : Prop:=match x with
  | .loc j=>∃ y,ρ[j]? = some (some y) ∧ nx ((ρ.set j (some (.v y.toD))).set i (some (.v y.toD)))
  | y=>nx (ρ.set i (some y))
theorem JUp {c : Ctx} {S H : Hp} {σ : L2.St} {ρ : J0} {v : V} {x : A} {i : Nat} {nx : J0 → Prop} {R : Prop} (s : Stt K c S H σ ρ [(v,x)]) (ho : ∀ p ∈ c.os,p.1 ≠ i) (h : Ze x ρ i nx) (k : ∀ S' ρ',Stt K c S' H (σ.set i (some v)) ρ' [] → nx ρ' → R) : R:=by
  cases hx : Yg x with
  | false =>
    refine k S _ (s.store hx ho (by simp)) ?_
    cases x <;> first | exact h | cases hx
  | true =>
    cases x with
    | loc j =>
      obtain ⟨y,hy,hk⟩:=h
      obtain ⟨S',d,ρ',sm,s',hk'⟩:=W9 (k:=fun d ρ'=>nx (ρ'.set i (some (.v d)))) s ⟨y,hy,hk⟩
      exact k S' _ (s'.store rfl ho (by simp)) hk'
    | _=>cases hx
def Ym (i : Nat) (ae : AE) : AS:=fun DA ρ=>ae DA.ex ρ fun x ρ'=>Ze x ρ' i DA.nx
theorem OsIn.ne {K : Fg} {c : Ctx} {O : OL} {i : Nat} (h : OsIn K c O) (hi : i ∉ O) : ∀ p ∈ c.os,p.1 ≠ i:=fun p m e=>hi (e ▸ h.1 p m)
theorem Ys {i : Nat} {x : Str} {e : Expr} {ae : AE} {pos' : Pos} (hN : X.N.Nodup) (hi : X.N[i]? = some x) (hx : Loc X.env.scope x) (h : QE X P e ae) (hO : i ∉ P.O) (hs : swapsWith e (some (.Name x pos')) pos.line X.env = pure false:=by rfl) (hf : X.fn x = true ∨ X.env.scope.names.lookup x = some .local:=by first | exact .inl rfl | exact .inr rfl | assumption) :
    QS X P (.Assign [.Name x pos'] e pos) (Ym i ae):=by
  obtain ⟨t,p,s⟩:=h.ex
  refine ⟨_,ps_set hN hi hx p hs hf,fun c D DA ho hw l S H σ ρ st q=>s c DA.ex ho hw [] S H σ ρ _ _ st q fun v H1 ⟨S1,ρ1,y,s1,q1⟩=>?_⟩
  exact JUp s1 (ho.ne hO) q1 fun S' ρ' s2 q2=>l.nx S' H1 _ ρ' s2 q2
theorem Stt.write {c : Ctx} {S H : Hp} {σ : L2.St} {ρ : J0} {τ : List (V × A)} {p : Addr} {o : HO} {y y' : A} {j : Nat} (s : Stt K c S H σ ρ τ) (h : ρ[j]? = some (some y)) (hv : σ[j]? = some (some (.ref p))) (hg : ∀ g,RepA K S H y (.ref p) g → g = [p]) (hy : Yg y' = false) (hr : RepA K S (upd H p o) y' (.ref p) [p]) :
    Stt K c S (upd H p o) σ (ρ.set j (some y')) τ:=by
  refine s.slotTo h hv (fun g f a1 a2 nd a3=>?_) hy
  have eg:=hg g a1
  subst eg
  have np : p ∉ f:=fun z=>(List.nodup_append.mp nd).2.2 p (List.mem_cons_self ..) p z rfl
  have Sp : S p = none:=(a3 p (by simp)).1
  have Rp : c.R p = none:=(a3 p (by simp)).2
  exact ⟨[p],hr,nd,a3,fun a ha=>upd_ne (fun z=>np (z ▸ ha)),Same.refl S,s.le.up Sp,fun a o' e=>by rw [upd_ne (ne_of_none e Rp)]; exact s.r a o' e,s.new,(by
    obtain ⟨u,e1,e2⟩:=a1.nsp y (.ref p) [p] p (by simp)
    exact s.tb.put e1 e2)⟩
theorem RepA.lst_inv {S H : Hp} {xs : List D} {v : V} {g : List Addr} (h : RepA K S H (.lst xs) v g) : ∃ a vs,v = .ref a ∧ H a = some (.lst vs) ∧ RepL K S xs vs ∧ g = [a]:=by simpa only [RepA] using h
theorem RepA.dic_inv {S H : Hp} {xs : List (Key × D)} {v : V} {g : List Addr} (h : RepA K S H (.dic xs) v g) : ∃ a ws,v = .ref a ∧ H a = some (.dK ws) ∧ RepK K S xs ws ∧ g = [a]:=by simpa only [RepA] using h
theorem RepA.mk_lst {S H : Hp} {xs : List D} {a : Addr} {vs : List V} (h : H a = some (.lst vs)) (r : RepL K S xs vs) : RepA K S H (.lst xs) (.ref a) [a]:=by
  simp only [RepA]
  exact ⟨a,vs,rfl,h,r,by first | rfl | trivial⟩
theorem RepA.mk_dic {S H : Hp} {xs : List (Key × D)} {a : Addr} {vs : List (Key × V)} (h : H a = some (.dK vs)) (r : RepK K S xs vs) : RepA K S H (.dic xs) (.ref a) [a]:=by
  simp only [RepA]
  exact ⟨a,vs,rfl,h,r,by first | rfl | trivial⟩
theorem Stt.slotA {c : Ctx} {S H : Hp} {σ : L2.St} {ρ : J0} {τ : List (V × A)} {y : A} {j : Nat} {v : V} (s : Stt K c S H σ ρ τ) (h : ρ[j]? = some (some y)) (hv : σ[j]? = some (some v)) : ∃ g,RepA K S H y v g:=by
  obtain ⟨fp,h1,_,_⟩:=s.own
  obtain ⟨f1,f2,q1,q2,q3⟩:=h1.append
  obtain ⟨fq,z1,z2⟩:=RepP.perm (Zp h hv) q1
  obtain ⟨g,h',a1,_,_⟩:=z1
  exact ⟨g,a1⟩
/-- o.append(e),o an owned list -/
def B9 (ao ae : AE) : AE:=fun EA ρ Q=>ao EA ρ fun o ρ1=>(∃ xs,dat o ρ1 = some (.lst xs)) ∧ ae EA ρ1 fun x ρ2=>Yl x ρ2 fun d ρ3=>∃ j xs,o = .loc j ∧ ρ3[j]? = some (some (.lst xs)) ∧ xs.length ≤ 100000 ∧ Q (.v .non) (ρ3.set j (some (.lst (xs ++ [d]))))
theorem Kr {o e : Expr} {ao ae : AE} {apos cpos : Pos} (ho' : QE X P o ao) (he : QE X P e ae) (hbase : attributeBase o "append" X.env (eval o X.env) = eval o X.env:=by rfl)
    (hfew : ((backTo cpos (starEach (e :: []) X.env)).all (fun x=>!x.1) && (backToKw cpos (keywordEach [] X.env)).all (fun x=>x.1.isSome)
      && decide ((e :: []).length + ([] : List Keyword).length + (if ([] : List Keyword).isEmpty then 0 else 1) < 30)) = true:=by rfl)
    (hline : (apos.endLine == cpos.line) = true:=by rfl) (hs : starEach [e] X.env = (false,eval e X.env) :: starEach [] X.env:=by rfl) (hplain : (backTo cpos (starEach [] X.env)).any (·.1) = false:=by rfl) :
    QE X P (.Call (.Attribute o "append" apos) [e] [] cpos) (B9 ao ae):=by
  obtain ⟨to,po,so⟩:=ho'.ex
  obtain ⟨te,pe,se⟩:=he.ex
  refine ⟨_,pe_bm PySem.F.plainAttrs_list PySem.F.slot_list_append PySem.F.type_list_append mt_append po (pa_cons pe pa_nil hs) hbase hfew hline hs hplain,fun c EA ho hw τ S H σ ρ Q R st q k=>so c EA ho hw τ S H σ ρ _ _ st q fun vo H1 ⟨S1,ρ1,xo,s1,⟨xs0,h0⟩,q1⟩=>?_⟩
  obtain ⟨y0,g0,r0,e0⟩:=s1.thing (List.mem_cons_self ..) h0
  obtain ⟨p,vs,rfl,h3,h4⟩:=Vw r0 e0 s1.le
  refine ⟨.inl ⟨rfl,vs,h3⟩,se c EA ho hw _ S1 H1 σ ρ1 _ _ s1 q1 fun v H2 ⟨S2,ρ2,x,s2,q2⟩=>?_⟩
  obtain ⟨S3,d,ρ3,sm,s3,j,xs,eo,hj,hn,q3⟩:=W9 s2 q2
  subst eo
  have hvo : σ[j]? = some (some (.ref p)):=(s3.loc _ j (by simp)).1
  obtain ⟨g,ra⟩:=s3.slotA hj hvo
  obtain ⟨p',ws,e1,hp,rl,rfl⟩:=ra.lst_inv
  cases e1
  have rd : Rep X.K S3 d v:=s3.data
  refine ⟨p,ws,v,rfl,rfl,hp,by rw [rl.len]; exact Nat.lt_of_le_of_lt hn (by decide),k _ _ ⟨S3,_,.v .non,?_,q3⟩⟩
  have s5:=s3.write (o:=.lst (ws ++ [v])) (y':=.lst (xs ++ [d])) hj hvo (fun g' h=>by obtain ⟨a',_,e,_,_,e2⟩:=h.lst_inv; cases e; exact e2) rfl (.mk_lst upd_same (rl.app (by simp only [RepL]; exact ⟨v,[],rfl,rd,rfl⟩)))
  exact s5.drop.drop.hold (Zb rfl)
end
end Vs
namespace Vs
open PySem PyProof.Rows L2
variable [Tbs]
/-- what the parameters hold at the end: those that are never stored to,by their slots; the others are shared -/
def fin (O : List Nat) : Nat → List A → J0 → Option (List A)
  | _,[],_=>some []
  | k,x :: xs,o :: ρ=>(if k ∈ O then (match o with
      | some y=>(match fin O (k + 1) xs ρ with
        | some ys=>some (y :: ys)
        | none=>none)
      | none=>none)
    else (match x with
      | .v d=>(match fin O (k + 1) xs ρ with
        | some ys=>some (.v d :: ys)
        | none=>none)
      | _=>none))
  | _,_ :: _,[]=>none
def Yn (n : Nat) (xs : List A) : J0:=xs.map some ++ List.replicate (n - xs.length) none
def U3 (O : List Nat) (sp : ASp) (xs : List A) : AEnds where
  nx:=fun ρ=>∃ xs',fin O 0 xs ρ = some xs' ∧ sp.post xs (.v .non) xs'
  rt:=fun r ρ=>∃ xs',fin O 0 xs ρ = some xs' ∧ sp.post xs r xs'
  bk:=fun _=>False
  ct:=fun _=>False
  ex:=fun C fs ρ=>∃ xs',fin O 0 xs ρ = some xs' ∧ sp.exc xs C fs xs'
section
variable {K : Fg}
theorem Mx {S S0 H : Hp} {O : List Nat} (hs : Same S0 S) : ∀ {xs : List A} {vs : List V} {ρ : J0} {σ : L2.St} {ys : List A} {f : List Addr} {k : Nat},vs.length = xs.length → (∀ (j : Nat) (v : V) (d : D),vs[j]? = some v → xs[j]? = some (A.v d) → Rep K S0 d v) → EnvOk ρ σ → (∀ (j : Nat) v,vs[j]? = some v → k + j ∈ O → σ[j]? = some (some v)) → fin O k xs ρ = some ys → RepP K S H (Y2 ρ σ) f →
    ∃ g,RepP K S H (vs.zip ys) g ∧ g.Sublist f ∧ vs.length = ys.length
  | [],vs,ρ,σ,ys,f,k,hl,_,_,_,h,hp=>by
    have e : vs = []:=by simpa using hl
    subst e
    simp only [fin] at h
    injection h with h
    subst h
    exact ⟨[],rfl,List.nil_sublist _,rfl⟩
  | x :: xs,[],ρ,σ,ys,f,k,hl,_,_,_,h,hp=>by simp at hl
  | x :: xs,v :: vs,[],σ,ys,f,k,hl,_,_,_,h,hp=>by simp [fin] at h
  | x :: xs,v :: vs,o :: ρ,σ,ys,f,k,hl,h0,he,ho,h,hp=>by
    obtain ⟨w,r,rfl,h1,h2⟩:=he
    have hl' : vs.length = xs.length:=by simpa using hl
    have h0' : ∀ (j : Nat) (v : V) (d : D),vs[j]? = some v → xs[j]? = some (A.v d) → Rep K S0 d v:=fun j u d a b=>h0 (j + 1) u d (by simpa using a) (by simpa using b)
    have ho' : ∀ (j : Nat) u,vs[j]? = some u → (k + 1) + j ∈ O → r[j]? = some (some u):=fun j u a b=>by
      have:=ho (j + 1) u (by simpa using a) (by rw [← Nat.add_assoc,Nat.add_right_comm]; exact b)
      simpa using this
    simp only [fin] at h
    by_cases hk : k ∈ O
    · rw [if_pos hk] at h
      cases o with
      | none=>cases h
      | some y =>
        have hw : w = some v:=by
          have:=ho 0 v (by simp) (by simpa using hk)
          simpa using this
        subst hw
        cases q : fin O (k + 1) xs ρ with
        | none=>rw [q] at h; cases h
        | some zs =>
          rw [q] at h
          injection h with h
          subst h
          simp only [Y2] at hp
          obtain ⟨g,f',a1,a2,rfl⟩:=hp
          obtain ⟨g',b1,b2,b3⟩:=Mx hs hl' h0' h2 ho' q a2
          exact ⟨g ++ g',⟨g,g',a1,b1,rfl⟩,List.Sublist.append (List.Sublist.refl _) b2,by simp [b3]⟩
    · rw [if_neg hk] at h
      cases x with
      | v d =>
        cases q : fin O (k + 1) xs ρ with
        | none=>rw [q] at h; cases h
        | some zs =>
          rw [q] at h
          injection h with h
          subst h
          have tail : ∃ f',RepP K S H (Y2 ρ r) f' ∧ f'.Sublist f:=by
            cases o with
            | none =>
              refine ⟨f,?_,List.Sublist.refl _⟩
              cases w <;> simpa only [Y2] using hp
            | some y =>
              cases w with
              | none=>exact ⟨f,by simpa only [Y2] using hp,List.Sublist.refl _⟩
              | some u =>
                simp only [Y2] at hp
                obtain ⟨g,f',a1,a2,rfl⟩:=hp
                exact ⟨f',a2,List.sublist_append_right _ _⟩
          obtain ⟨f',t1,t2⟩:=tail
          obtain ⟨g',b1,b2,b3⟩:=Mx hs hl' h0' h2 ho' q t1
          exact ⟨g',⟨[],g',RepA.ofv (Rep.le (Le.of_same hs) d v (h0 0 v d (by simp) (by simp))),b1,by simp⟩,b2.trans t2,by simp [b3]⟩
      | _=>cases h
theorem M8 : ∀ {vs : List V} {xs : List A} (n : Nat),vs.length = xs.length → Y2 (xs.map some ++ List.replicate n none) (vs.map some ++ List.replicate n none) = vs.zip xs
  | [],[],0,_=>rfl
  | [],[],n + 1,_=>by
    have:=M8 (vs:=[]) (xs:=[]) n rfl
    simp only [List.map_nil,List.nil_append,List.replicate_succ,Y2] at this ⊢
    exact this
  | [],_ :: _,_,h=>by simp at h
  | _ :: _,[],_,h=>by simp at h
  | v :: vs,x :: xs,n,h=>by
    simp only [List.map_cons,List.cons_append,Y2,List.zip_cons_cons]
    rw [M8 n (by simpa using h)]
theorem N6 : ∀ {vs : List V} {xs : List A} (n : Nat),vs.length = xs.length → (∀ x ∈ xs,Yg x = false) → EnvOk (xs.map some ++ List.replicate n none) (vs.map some ++ List.replicate n none)
  | [],[],0,_,_=>rfl
  | [],[],n + 1,_,_=>by
    have:=N6 (vs:=[]) (xs:=[]) n rfl (by simp)
    simp only [List.map_nil,List.nil_append] at this ⊢
    exact ⟨none,_,rfl,fun _ e=>(nomatch e),this⟩
  | [],_ :: _,_,h,_=>by simp at h
  | _ :: _,[],_,h,_=>by simp at h
  | v :: vs, x :: xs, n, h, hx => ⟨some v, _, rfl, fun y e => by
      have e2 : x = y:=Option.some.inj e
      exact ⟨⟨v,rfl⟩,e2 ▸ Fi (hx x (by simp))⟩,N6 n (by simpa using h) fun y hy=>hx y (by simp [hy])⟩
/-- the slots that are never stored to,with their values -/
def Pe (O : List Nat) (vs : List V) : List (Nat × V):=O.filterMap fun j=>(vs[j]?).map fun v=>(j,v)
theorem osOf_mem {O : List Nat} {vs : List V} {p : Nat × V} : p ∈ Pe O vs ↔ p.1 ∈ O ∧ vs[p.1]? = some p.2:=by
  unfold Pe
  rw [List.mem_filterMap]
  constructor
  · rintro ⟨j,h1,h2⟩
    cases e : vs[j]? with
    | none=>rw [e] at h2; cases h2
    | some v =>
      rw [e] at h2
      have h3 : (j,v) = p:=Option.some.inj h2
      subst h3
      exact ⟨h1,e⟩
  · rintro ⟨h1,h2⟩
    exact ⟨p.1,h1,by rw [h2]; rfl⟩
section
variable {Pr : Program} {w : World} {mg : Str → Option Value} {base : Heap} {x qual : Str} {params : Arguments} {body : List Stmt} {scope : Scope} {dvs : List V} {kws : List (Str × V)} {f : Addr} {fd : FuncData}
abbrev Fok (Pr : Program) (w : World) (K : Fg) (mg : Str → Option Value) (base : Heap) (k : Nat) (f : Addr) (fd : FuncData) (ps : List Str) (sp : ASp) : Prop:=FnOk Pr w K mg base (L2.CX Pr w) k f fd ps (lift K sp)
omit [Tbs] in
theorem FunD.okC {CX : CXT} {N ps : List Str} {k : Nat} {sp : Sp} (F : FunD K x qual params body scope dvs kws f fd) (S : FnScope N ps scope) (len : ∀ vs H Q E,sp vs H Q E → vs.length = ps.length)
    (hbody : ∀ (cdv : Value),fd.code = cdv → ∀ (A : Around) (outer : List Env) (s : Shared) (H : Hp) (vs : List V) (Q : VK) (E : XK),Room k (A.deeper (envOfC qual scope s.heap.objs.size f cdv)) → sp vs H Q E →
      ∃ t,PSs (cxOf CX Pr w K mg base N qual scope f cdv A outer s H E) body t ∧ t { nx:=fun _ H'=>Q .non H',rt:=Q } (L2.start N vs) H) : FnOk Pr w K mg base CX (k + 1) f fd ps sp:=by
  obtain ⟨oc,od,dV,kV,doc,pm,an,cdv,ct,osl,rfl,lk,hcd,_,_⟩:=F.ex
  exact fn_of lk hcd S len fun A outer s H vs Q E hr hsp=>hbody cdv rfl A outer s H vs Q E hr hsp
theorem JMn {N ps : List Str} {k : Nat} {sp : ASp} (O : List Nat) (F : FunD K x qual params body scope dvs kws f fd) (S : FnScope N ps scope) (hlen : ∀ xs,sp.pre xs → xs.length = ps.length) (hO : ∀ j ∈ O,j < ps.length)
    (hb : ∀ (cdv : Value),fd.code = cdv → ∀ (Ar : Around) (outer : List Env) (s : Shared) (H : Hp) (E : XK),Room k (Ar.deeper (envOfC qual scope s.heap.objs.size f cdv)) →
      ∃ as,QSs (cxOf (L2.CX Pr w) Pr w K mg base N qual scope f cdv Ar outer s H E) ⟨fun cls d _ H=>E cls d H,O⟩ body as ∧ ∀ xs,sp.pre xs → as (U3 O sp xs) (Yn N.length xs)) : Fok Pr w K mg base (k + 1) f fd ps sp:=by
  refine FunD.okC F S (fun vs H Q E h=>?_) (fun cdv ec Ar outer s H vs Q E hr h=>?_)
  · obtain ⟨c,S',xs,h1,_,_,_,_,h2,_⟩:=h
    rw [h1]; exact hlen xs h2
  obtain ⟨as,hq,hr2⟩:=hb cdv ec Ar outer s H E hr
  obtain ⟨t,ht,hs⟩:=hq.ex
  refine ⟨t,ht,?_⟩
  obtain ⟨c,S1,xs,hl,hos,st,ss1,ss2,hpre,hQ,hE⟩:=h
  have hnl:=EnvOk.noloc st.env
  obtain ⟨fp,a1,a2,a3⟩:=st.own
  rw [Fz hl] at a1
  have a1' : RepP K S1 H (vs.zip xs) fp:=by simpa [Yc] using a1
  have lenps:=hlen xs hpre
  -- shared data of the parameters
  have sh : ∀ (j : Nat) v d,vs[j]? = some v → xs[j]? = some (A.v d) → Rep K S1 d v:=fun j v d e1 e2=>by
    have m : (v,A.v d) ∈ vs.zip xs:=List.mem_of_getElem? (i:=j) (by rw [List.getElem?_zip_eq_some]; exact ⟨e1,e2⟩)
    obtain ⟨g,b1,_⟩:=a1'.pick m
    simp only [RepA] at b1
    exact b1.1
  let c2 : Ctx:=⟨c.R,c.S0,Pe O vs⟩
  have len0 : Yn N.length xs = xs.map some ++ List.replicate (N.length - vs.length) none:=by unfold Yn; rw [hl]
  have hlt : ∀ j ∈ O,j < vs.length:=fun j hj=>by rw [hl,lenps]; exact hO j hj
  have s0 : Stt K c2 S1 H (L2.start N vs) (Yn N.length xs) []:=by
    rw [len0]
    unfold L2.start
    refine ⟨⟨fp,?_,a2,a3⟩,N6 _ hl hnl,fun _ _ m=>by simp at m,st.le,st.r,st.new,st.up,fun p m=>?_,st.tb⟩
    · rw [M8 _ hl]
      simpa [Yc] using a1'
    · obtain ⟨m1,m2⟩:=osOf_mem.mp m
      rw [List.getElem?_append_left (by simpa using hlt p.1 m1),List.getElem?_map,m2]
      rfl
  have hoin : OsIn K c2 O:=⟨fun p m=>(osOf_mem.mp m).1,fun j hj=>by
    obtain ⟨v,hv⟩ : ∃ v,vs[j]? = some v:=⟨vs[j]'(hlt j hj),by simp [hlt j hj]⟩
    exact ⟨v,osOf_mem.mpr ⟨hj,hv⟩⟩,fun _ _ _ _ _ _=>trivial⟩
  -- from a state of the body to one of the caller
  have back : ∀ {S' H' : Hp} {σ : L2.St} {ρ : J0} {τ : List (V × A)} {ys : List A},Stt K c2 S' H' σ ρ τ → (∀ p ∈ τ,Yg p.2 = false) → fin O 0 xs ρ = some ys → Stt K c S' H' (vs.map some) (ys.map some) τ ∧ vs.length = ys.length:=by
    intro S' H' σ ρ τ ys s' hτ hf
    have sm : Same S1 S':=fun a o e=>s'.up a o (ss2 a o e)
    obtain ⟨fq,b1,b2,b3⟩:=s'.own
    obtain ⟨f1,f2,u1,u2,rfl⟩:=b1.append
    obtain ⟨g,v1,v2,v3⟩:=Mx (K:=K) (S0:=S1) (O:=O) (k:=0) sm hl sh s'.env (fun j v e1 e2=>s'.os (j,v) (osOf_mem.mpr ⟨by simpa using e2,e1⟩)) hf u1
    have nl:=RepP.noloc v3 v1
    refine ⟨⟨⟨g ++ f2,?_,?_,fun a ha=>b3 a ?_⟩,Fj v3 nl,fun v i m=>?_,s'.le,s'.r,s'.new,s'.up,(fun p m=>by rw [hos] at m; cases m),s'.tb⟩,v3⟩
    · rw [Fz v3]
      exact v1.join u2
    · exact (List.Sublist.append v2 (List.Sublist.refl f2)).nodup b2
    · exact (List.Sublist.append v2 (List.Sublist.refl f2)).subset ha
    · have:=hτ _ m; cases this
  have hx : XOk K c2 (fun cls d _ H=>E cls d H) (U3 O sp xs).ex:=by
    intro S' H' σ ρ C fs dd s' hd hex
    obtain ⟨ys,hf,hp⟩:=hex
    obtain ⟨s2,hl2⟩:=back s' (by simp) hf
    exact hE C fs ys dd H' S' hp hl2 s2 hd
  refine hs c2 _ (U3 O sp xs) hoin hx ⟨fun S' H' σ ρ s' q=>?_,fun S' H' σ ρ v r s' hr' q=>?_,fun S' H' σ ρ s' q=>q.elim,fun S' H' σ ρ s' q=>q.elim⟩ S1 H (L2.start N vs) (Yn N.length xs) s0 (hr2 xs hpre)
  · obtain ⟨ys,hf,hp⟩:=q
    have s3 : Stt K c2 S' H' σ ρ [(.non,.v .non)]:=s'.hold (Zb rfl)
    obtain ⟨s2,hl2⟩:=back s3 (by simp [Yg]) hf
    exact hQ _ ys .non H' S' hp hl2 rfl s2
  · obtain ⟨ys,hf,hp⟩:=q
    obtain ⟨s2,hl2⟩:=back s' (fun p m=>by
      have e : p = (v,r):=by simpa using m
      rw [e]; exact hr') hf
    exact hQ _ ys v H' S' hp hl2 hr' s2
theorem U8 {N ps : List Str} {k : Nat} {sp : ASp} (O : List Nat) (F : FunD K x qual params body scope dvs kws f fd) (S : FnScope N ps scope) (hlen : ∀ xs,sp.pre xs → xs.length = ps.length) (hO : ∀ j ∈ O,j < ps.length)
    (hb : ∀ (cdv : Value) (Ar : Around) (outer : List Env) (s : Shared) (H : Hp) (E : XK),Room k (Ar.deeper (envOfC qual scope s.heap.objs.size f cdv)) →
      ∃ as,QSs (cxOf (L2.CX Pr w) Pr w K mg base N qual scope f cdv Ar outer s H E) ⟨fun cls d _ H=>E cls d H,O⟩ body as ∧ ∀ xs,sp.pre xs → as (U3 O sp xs) (Yn N.length xs)) : Fok Pr w K mg base (k + 1) f fd ps sp:=JMn O F S hlen hO fun cdv _=>hb cdv
end
end
section
variable {X : Cx} {P : Pm} {k : Nat} {f C : Addr} {fd : FuncData} {ps : List Str} {sp : ASp} {dvs : List V} {ds : List Value} {dd : List D} {x m : Str} {p pos apos : Pos} {e o : Expr} {es : List Expr} {aa : AA} {ao : AE}
theorem Hk {S : Hp} {K : Fg} {c : Ctx} {H : Hp} {σ : L2.St} {ρ : J0} {τ : List (V × A)} : ∀ {ds : List D} {dvs : List V},RepL K S ds dvs → Stt K c S H σ ρ τ → Stt K c S H σ ρ (dvs.zip (ds.map A.v) ++ τ)
  | [],dvs,h,s=>by
    simp only [RepL] at h
    subst h
    simpa using s
  | d :: ds,dvs,h,s=>by
    simp only [RepL] at h
    obtain ⟨v,r,rfl,h1,h2⟩:=h
    simp only [List.map_cons,List.zip_cons_cons,List.cons_append]
    exact (Hk h2 s).hold h1
/-- the defaults,as data that stand in every heap -/
def Dfl (K : Fg) (dd : List D) (dvs : List V) : Prop:=∀ S,RepL K S dd dvs
theorem Kn {K : Fg} : Dfl K [] []:=fun S=>by simp only [RepL]
def Y4 (sp : ASp) (dd : List D) (aa : AA) : AE:=fun EA ρ Q=>aa EA ρ fun xs ρ1=>U1 sp (xs ++ dd.map A.v) EA ρ1 Q
theorem JZg {K : Fg} {ta : TA} (hd : Dfl K dd dvs) (h : X9 K P ta aa) : U5 K P (tCallSD (lift K sp) dvs (fun σ cls d H=>P.W cls d σ H) ta) (Y4 sp dd aa):=fun c EA ho hw τ S H σ ρ Q R s q kk =>
  h c EA ho hw τ S H σ ρ _ _ s q fun vs H1 ⟨S1,ρ1,xs,hl,s1,q1⟩=>by
    have hdl : dvs.length = (dd.map A.v).length:=by rw [List.length_map]; exact (hd S1).len
    have s2 : Stt K c S1 H1 σ ρ1 ((vs ++ dvs).zip (xs ++ dd.map A.v) ++ τ):=by
      rw [List.zip_append hl,List.append_assoc]
      have z:=Hk (hd S1) s1
      refine z.swap ?_
      rw [← List.append_assoc,← List.append_assoc]
      exact List.Perm.append_right _ List.perm_append_comm
    exact C5 (Ef hw (by simp [hl,hdl]) s2 q1) (fun v H h=>kk v H h) fun _ _ _ h=>h
theorem JXp (F : Fok X.prog X.w X.K X.mg X.base k f fd ps sp) (hr : Room k X.A) (hg : Gl X x) (hm : X.mg x = some (.ref f)) (hk : PySem.W.keepIn X.K (.ref f) = true) (hb : Binds X.K fd ps ds) (hd : Vals dvs ds) (hD : Dfl X.K dd dvs) (hx : ∀ σ,PassesAt (L2.CX X.prog X.w) X σ (fun cls d H=>P.W cls d σ H)) (ha : QA X P (e :: es) aa)
    (hdb : (x == ("__debug__" : Str)) = false:=by decide) (he : starEach (e :: es) X.env = (false,eval e X.env) :: starEach es X.env:=by rfl) (hpl : (backTo pos (starEach es X.env)).any (·.1) = false:=by rfl) :
    QE X P (.Call (.Name x p) (e :: es) [] pos) (Y4 sp dd aa):=let ⟨_,pa,sa⟩:=ha.ex; ⟨_,pe_callSD F hr hg hm hk hb hd hx pa hdb he hpl,JZg hD sa⟩
/-- o.m(..) -/
def Qu (C : Addr) (m : Str) (sp : Sp) (dvs : List V) (E : L2.St → XK) (ta : TE) (t : TA) : TE:=fun σ H Q=>ta σ H fun x H1=>∃ a dx fs,x = .ref a ∧ H1 a = some (.ins C dx fs) ∧ fs.lookup m = none ∧ t σ H1 fun vs H2=>sp (x :: (vs ++ dvs)) H2 Q (E σ)
theorem JK5 {CX : CXT} {sp : Sp} {E : L2.St → XK} {ta : TE} {t : TA} {pl : Sem Bool} (he : PE X o ta) (c : Cls X.K C) (hm : Meth X.K C m f) (F : FnOk X.prog X.w X.K X.mg X.base CX k f fd ps sp) (hr : Room k X.A) (hb : Binds X.K fd ps ds) (hd : Vals dvs ds) (hx : ∀ σ,PassesAt CX X σ (E σ)) (ha : PA X (e :: es) t)
    (hst : starEach (e :: es) X.env = (false,eval e X.env) :: starEach es X.env:=by rfl) (hpl : (backTo pos (starEach es X.env)).any (·.1) = false:=by rfl)
    (ht : eval (.Call (.Attribute o m apos) (e :: es) [] pos) X.env = (do
      let ov ← eval o X.env
      standAt apos.atName
      let (f,first) ← holding [ov] (getMethod ov m pl)
      callWith pos f first (backTo pos (starEach (e :: es) X.env)) (backToKw pos (keywordEach [] X.env))):=by rfl) :
    PE X (.Call (.Attribute o m apos) (e :: es) [] pos) (Qu C m sp dvs E ta t):=by
  refine ⟨fun pins s σ H Q I h=>?_⟩
  refine PySem.W.methodCall_KW (pl:=pl) (thn (he.run pins s σ H _ I h) fun u s1 ⟨x,H1,I1,rx,a,dx,fs,ex,ea,l,q⟩=>?_) ht
  subst ex
  obtain rfl : u = Value.ref a:=rx
  refine getmeth_ok I1 ea c hm l ?_
  refine PySem.W.callWith_K (first:=[.ref a]) (h₀:=X.base) I.ok.mod.kin hm.kp (thn (ha.run pos pins s1 σ H1 _ I1 q) fun us s2 ⟨vs,H2,I2,r,q2⟩=>⟨I2.kIn,?_⟩) hst hpl
  exact run_fnSD (us:=.ref a :: us) (vs:=.ref a :: vs) F hr hb hd (hx σ) I2 (.cons rfl r) q2
/-- what method calls ask of the receiver -/
def N0 (C : Addr) (m : Str) (x : A) (ρ : J0) : Prop:=∃ fs,dat x ρ = some (.obj C fs) ∧ fs.lookup m = none
theorem Ho {K : Fg} {S : Hp} {m : Str} : ∀ {fs : List (Str × D)} {ws : List (Str × V)},RepF K S fs ws → (fs.lookup m = none ∧ ws.lookup m = none) ∨ ∃ d v,fs.lookup m = some d ∧ ws.lookup m = some v ∧ Rep K S d v
  | [],ws,h=>by
    simp only [RepF] at h
    subst h
    exact .inl ⟨rfl,rfl⟩
  | (k,x) :: r,ws,h=>by
    simp only [RepF] at h
    obtain ⟨v,r',rfl,h1,h2⟩:=h
    by_cases e : m = k
    · subst e
      exact .inr ⟨x,v,by simp [List.lookup],by simp [List.lookup],h1⟩
    · have q : (m == k) = false:=by simpa using e
      have e1 : List.lookup m ((k,x) :: r) = List.lookup m r:=by simp [List.lookup,q]
      have e2 : List.lookup m ((k,v) :: r') = List.lookup m r':=by simp [List.lookup,q]
      rw [e1,e2]
      exact Ho h2
theorem JQ0 {K : Fg} {c : Ctx} {S H : Hp} {σ : L2.St} {ρ : J0} {τ : List (V × A)} {v : V} {y : A} (s : Stt K c S H σ ρ τ) (mm : (v,y) ∈ τ) (h : N0 C m y ρ) : ∃ a dx ws,v = .ref a ∧ H a = some (.ins C dx ws) ∧ ws.lookup m = none:=by
  obtain ⟨fs,h1,h2⟩:=h
  have r:=s.dat mm h1
  simp only [Rep] at r
  obtain ⟨a,dx,ws,rfl,h3,h4⟩:=r
  refine ⟨a,dx,ws,rfl,h3,?_⟩
  rcases Ho (m:=m) h4 with ⟨_,e⟩ | ⟨d,v,e1,e2,_⟩
  · exact e
  · rw [h2] at e1; cases e1
def Xp (C : Addr) (m : Str) (sp : ASp) (dd : List D) (ao : AE) (aa : AA) : AE:=fun EA ρ Q=>ao EA ρ fun o ρ1=>N0 C m o ρ1 ∧ aa EA ρ1 fun xs ρ2=>U1 sp (o :: (xs ++ dd.map A.v)) EA ρ2 Q
theorem JG1 {K : Fg} {to : TE} {ta : TA} (hd : Dfl K dd dvs) (h0 : U5 K P to ao) (h : X9 K P ta aa) : U5 K P (Qu C m (lift K sp) dvs (fun σ cls d H=>P.W cls d σ H) to ta) (Xp C m sp dd ao aa):=fun c EA ho hw τ S H σ ρ Q R s q kk =>
  h0 c EA ho hw τ S H σ ρ _ _ s q fun vo H0 ⟨S0,ρ0,o,s0,hob,q0⟩=>by
    obtain ⟨a,dx,ws,rfl,h1,h2⟩:=JQ0 s0 (List.mem_cons_self ..) hob
    refine ⟨a,dx,ws,rfl,h1,h2,h c EA ho hw _ S0 H0 σ ρ0 _ _ s0 q0 fun vs H1 ⟨S1,ρ1,xs,hl,s1,q1⟩=>?_⟩
    have hdl : dvs.length = (dd.map A.v).length:=by rw [List.length_map]; exact (hd S1).len
    have s2 : Stt K c S1 H1 σ ρ1 ((V.ref a :: (vs ++ dvs)).zip (o :: (xs ++ dd.map A.v)) ++ τ):=by
      rw [List.zip_cons_cons,List.zip_append hl]
      have z:=Hk (hd S1) s1
      refine z.swap ?_
      rw [List.cons_append,List.append_assoc]
      refine List.Perm.trans ?_ (List.perm_middle (l₁:=vs.zip xs ++ dvs.zip (dd.map A.v)) (a:=(V.ref a,o)) (l₂:=τ) |>.trans (by rw [List.append_assoc]))
      rw [List.append_assoc,← List.append_assoc,← List.append_assoc]
      exact List.Perm.append_right _ List.perm_append_comm
    exact C5 (Ef hw (by simp [hl,hdl]) s2 q1) (fun v H h=>kk v H h) fun _ _ _ h=>h
theorem JNi {pl : Sem Bool} (he : QE X P o ao) (c : Cls X.K C) (hm : Meth X.K C m f) (F : Fok X.prog X.w X.K X.mg X.base k f fd ps sp) (hr : Room k X.A) (hb : Binds X.K fd ps ds) (hd : Vals dvs ds) (hD : Dfl X.K dd dvs) (hx : ∀ σ,PassesAt (L2.CX X.prog X.w) X σ (fun cls d H=>P.W cls d σ H)) (ha : QA X P (e :: es) aa)
    (hst : starEach (e :: es) X.env = (false,eval e X.env) :: starEach es X.env:=by rfl) (hpl : (backTo pos (starEach es X.env)).any (·.1) = false:=by rfl)
    (ht : eval (.Call (.Attribute o m apos) (e :: es) [] pos) X.env = (do
      let ov ← eval o X.env
      standAt apos.atName
      let (f,first) ← holding [ov] (getMethod ov m pl)
      callWith pos f first (backTo pos (starEach (e :: es) X.env)) (backToKw pos (keywordEach [] X.env))):=by rfl) :
    QE X P (.Call (.Attribute o m apos) (e :: es) [] pos) (Xp C m sp dd ao aa):=let ⟨_,po,so⟩:=he.ex; let ⟨_,pa,sa⟩:=ha.ex; ⟨_,JK5 po c hm F hr hb hd hx pa hst hpl ht,JG1 hD so sa⟩
/-- C(..) -/
theorem JBr {CX : CXT} {sp : Sp} {E : L2.St → XK} {pins : List (Addr × Obj)} {σ : L2.St} {H : Hp} {s : Shared} {Q : VK} {us : List Value} {vs : List V} (M : Mk X.K C f) (F : FnOk X.prog X.w X.K X.mg X.base CX k f fd ps sp) (hr : Room (k + 1) X.A) (hb : Binds X.K fd ps ds) (hd : Vals dvs ds)
    (hx : PassesAt CX X σ (E σ)) (I : Inv X pins σ H s) (r : Vals vs us)
    (h : ∀ x dx,H x = none → H dx = none → dx ≠ x → sp (.ref x :: (vs ++ dvs)) (upd (upd H dx (.own x)) x (.ins C dx [])) (fun v H2=>v = .non ∧ Q (.ref x) H2) (E σ)) :
    wpAny (model X.prog X.w) X.A (call (.ref C) us) (EP X pins σ Q) X.xe s:=by
  have hq:=h (s.heap.objs.size + 1) s.heap.objs.size (I.hok.fresh (Nat.le_succ _)) (I.hok.fresh (Nat.le_refl _)) (Nat.ne_of_lt (Nat.lt_succ_self _))
  have I2:=Inv.made (C:=C) I
  have r2 : Vals (V.ref (s.heap.objs.size + 1) :: (vs ++ dvs)) (Value.ref (s.heap.objs.size + 1) :: (us ++ ds)):=.cons rfl (r.append hd)
  have hl : (Value.ref (s.heap.objs.size + 1) :: us ++ ds).length = ps.length:=by
    have e:=r2.length
    rw [F.len _ _ _ _ hq] at e
    exact e.symm
  refine wpAny_call (make_map (f:=f) I.kIn M.makes M.init (beq_iff_eq.mp M.fn) (codeAny_mono (F.run _ X.stack _ _ ⟨Value.ref (s.heap.objs.size + 1) :: us,[]⟩ (Value.ref (s.heap.objs.size + 1) :: (us ++ ds)) _ _ (E σ) (hr.make C us [])
    (I2.env0.make C us []) (hb _ (Value.ref (s.heap.objs.size + 1) :: us) I2.kIn hl) r2 hq) fun r s' hq'=>?_))
  cases r with
  | error e=>exact hx pins _ _ e s' I2 hq'
  | ok fl =>
    cases fl with
    | ret u =>
      obtain ⟨v,H',I3,rv,ev,q3⟩:=I2.after hq'
      subst ev
      exact ⟨rv,⟨V.ref (s.heap.objs.size + 1),H',I3,rfl,q3⟩⟩
    | next=>exact False.elim hq'
    | brk=>exact False.elim hq'
    | cont=>exact False.elim hq'
def C0 (C : Addr) (sp : Sp) (dvs : List V) (E : L2.St → XK) (t : TA) : TE:=fun σ H Q=>t σ H fun vs H1=>∀ x dx,H1 x = none → H1 dx = none → dx ≠ x →
  sp (.ref x :: (vs ++ dvs)) (upd (upd H1 dx (.own x)) x (.ins C dx [])) (fun v H2=>v = .non ∧ Q (.ref x) H2) (E σ)
theorem JN5 {CX : CXT} {sp : Sp} {E : L2.St → XK} {t : TA} (M : Mk X.K C f) (F : FnOk X.prog X.w X.K X.mg X.base CX k f fd ps sp) (hr : Room (k + 1) X.A) (hg : Gl X x) (hm : X.mg x = some (.ref C)) (hb : Binds X.K fd ps ds) (hd : Vals dvs ds) (hx : ∀ σ,PassesAt CX X σ (E σ))
    (ha : PA X (e :: es) t) (hdb : (x == ("__debug__" : Str)) = false:=by decide) (he : starEach (e :: es) X.env = (false,eval e X.env) :: starEach es X.env:=by rfl) (hpl : (backTo pos (starEach es X.env)).any (·.1) = false:=by rfl) :
    PE X (.Call (.Name x p) (e :: es) [] pos) (C0 C sp dvs E t):=by
  refine ⟨fun pins s σ H Q I h=>?_⟩
  refine wpAny_Call_Name_kw (ld_glob I hg hm ?_ hdb)
  refine PySem.W.callWith_K (h₀:=X.base) I.ok.mod.kin M.kp (thn (ha.run pos pins s σ H _ I h) fun us s1 ⟨vs,H1,I1,r,q⟩=>⟨I1.kIn,?_⟩) he hpl
  exact JBr M F hr hb hd (hx σ) I1 r q
/-- a new instance,then __init__: the first parameter is the instance -/
def H7 (C : Addr) (sp : ASp) (xs : List A) : AE:=fun EA ρ Q=>∃ ys ρ',pass xs ρ = some (ys,ρ') ∧ sp.pre (.obj C [] :: ys) ∧ (∀ r y ys',sp.post (.obj C [] :: ys) r (y :: ys') → ys'.length = ys.length → r = .v .non ∧ Q y (give xs ys' ρ')) ∧ ∀ Ce fs y ys',sp.exc (.obj C [] :: ys) Ce fs (y :: ys') → ys'.length = ys.length → EA Ce fs (give xs ys' ρ')
def Xx (C : Addr) (sp : ASp) (dd : List D) (aa : AA) : AE:=fun EA ρ Q=>aa EA ρ fun xs ρ1=>H7 C sp (xs ++ dd.map A.v) EA ρ1 Q
theorem JO4 {K : Fg} {ta : TA} (hd : Dfl K dd dvs) (h : X9 K P ta aa) : U5 K P (C0 C (lift K sp) dvs (fun σ cls d H=>P.W cls d σ H) ta) (Xx C sp dd aa):=fun c EA ho hw τ S H σ ρ Q R s q kk =>
  h c EA ho hw τ S H σ ρ _ _ s q fun vs H1 ⟨S1,ρ1,xs,hl,s1,q1⟩ xa dx hx hdx hne=>by
    have hdl : dvs.length = (dd.map A.v).length:=by rw [List.length_map]; exact (hd S1).len
    obtain ⟨ys,ρ',hp,hpre,hq,hex⟩:=q1
    have hx2 : upd H1 dx (.own xa) xa = none:=by rw [upd_ne (Ne.symm hne)]; exact hx
    have s1' : Stt K c S1 (upd H1 dx (.own xa)) σ ρ1 (vs.zip xs ++ τ):=s1.beside hdx
    have s3 : Stt K c S1 (upd (upd H1 dx (.own xa)) xa (.ins C dx [])) σ ρ1 ((.ref xa,.obj C []) :: (vs.zip xs ++ τ)):=s1'.alloc hx2 rfl (by
      simp only [RepA,RepAF]
      exact ⟨xa,dx,[],[],rfl,upd_same,⟨rfl,rfl⟩,rfl⟩)
    have s2 : Stt K c S1 (upd (upd H1 dx (.own xa)) xa (.ins C dx [])) σ ρ1 ((V.ref xa :: (vs ++ dvs)).zip (A.obj C [] :: (xs ++ dd.map A.v)) ++ τ):=by
      rw [List.zip_cons_cons,List.zip_append hl]
      have z:=Hk (hd S1) s3
      refine z.swap ?_
      rw [List.cons_append,List.append_assoc]
      refine List.perm_middle.trans (List.Perm.cons _ ?_)
      rw [← List.append_assoc,← List.append_assoc]
      exact List.Perm.append_right _ List.perm_append_comm
    have ep : pass (A.obj C [] :: (xs ++ dd.map A.v)) ρ1 = some (A.obj C [] :: ys,ρ'):=by
      show (match pass (xs ++ dd.map A.v) ρ1 with
        | some (ys,ρ')=>some (A.obj C [] :: ys,ρ')
        | none=>none) = _
      rw [hp]
    -- the call with the instance's own things in the end
    refine JLi hw (by simp [hl,hdl]) s2 ep hpre (fun r zs hpo hlz=>?_) (fun Ce fs zs hpo hlz=>?_) kk
    · cases zs with
      | nil=>simp at hlz
      | cons y ys'=>exact ⟨y,ys',rfl,hq r y ys' hpo (by simpa using hlz)⟩
    · cases zs with
      | nil=>simp at hlz
      | cons y ys'=>exact hex Ce fs y ys' hpo (by simpa using hlz)
theorem JPf (M : Mk X.K C f) (F : Fok X.prog X.w X.K X.mg X.base k f fd ps sp) (hr : Room (k + 1) X.A) (hg : Gl X x) (hm : X.mg x = some (.ref C)) (hb : Binds X.K fd ps ds) (hd : Vals dvs ds) (hD : Dfl X.K dd dvs) (hx : ∀ σ,PassesAt (L2.CX X.prog X.w) X σ (fun cls d H=>P.W cls d σ H)) (ha : QA X P (e :: es) aa)
    (hdb : (x == ("__debug__" : Str)) = false:=by decide) (he : starEach (e :: es) X.env = (false,eval e X.env) :: starEach es X.env:=by rfl) (hpl : (backTo pos (starEach es X.env)).any (·.1) = false:=by rfl) :
    QE X P (.Call (.Name x p) (e :: es) [] pos) (Xx C sp dd aa):=let ⟨_,pa,sa⟩:=ha.ex; ⟨_,JN5 M F hr hg hm hb hd hx pa hdb he hpl,JO4 hD sa⟩
end
end Vs
namespace Vs
open PySem PySem.Spec PyProof.Rows L2
variable [Tbs]
section
variable {K : Fg} {c : Ctx} {S H : Hp} {σ : L2.St} {ρ : J0} {τ : List (V × A)}
theorem Stt.rest (s : Stt K c S H σ ρ τ) : Stt K { c with S0:=S } S H σ ρ τ:=⟨s.own,s.env,s.loc,s.le,s.r,fun _ _=>rfl,Same.refl S,s.os,s.tb⟩
theorem Stt.rebase {S2 H2 : Hp} {σ2 : L2.St} {ρ2 : J0} {τ2 : List (V × A)} (s : Stt K c S H σ ρ τ) (t : Stt K { c with S0:=S } S2 H2 σ2 ρ2 τ2) : Stt K c S2 H2 σ2 ρ2 τ2 :=
  ⟨t.own,t.env,t.loc,t.le,t.r,fun a ha=>(t.new a ha).trans (s.new a ha),fun a o e=>t.up a o (s.up a o e),t.os,t.tb⟩
theorem XOk.rebase {W : WX} {EA : AX} (s : Stt K c S H σ ρ τ) (h : XOk K c W EA) : XOk K { c with S0:=S } W EA:=fun S2 H2 σ2 ρ2 C fs dd t xd e=>h S2 H2 σ2 ρ2 C fs dd (s.rebase t) xd e
theorem Link.rebase {D : Ends} {DA : AEnds} (s : Stt K c S H σ ρ τ) (l : Link K c D DA) : Link K { c with S0:=S } D DA :=
  ⟨fun S2 H2 σ2 ρ2 t=>l.nx S2 H2 σ2 ρ2 (s.rebase t),fun S2 H2 σ2 ρ2 v x t=>l.rt S2 H2 σ2 ρ2 v x (s.rebase t),fun S2 H2 σ2 ρ2 t=>l.bk S2 H2 σ2 ρ2 (s.rebase t),fun S2 H2 σ2 ρ2 t=>l.ct S2 H2 σ2 ρ2 (s.rebase t)⟩
end
abbrev AI:=AX → J0 → (List D → (J0 → Prop) → J0 → Prop) → Prop
def Gw (K : Fg) (c : Ctx) (J : It) (xs : List D) (G : J0 → Prop) : Prop:=∀ S H σ ρ τ,Stt K c S H σ ρ τ → G ρ →
  (∀ i d,xs[i]? = some d → J.go i H ∧ ∀ v H',J.yld i H v H' → ∃ S',Stt K c S' H' σ ρ ((v,.v d) :: τ)) ∧ ∀ i,xs.length ≤ i → J.stop i H
/-- a context of a part -/
structure Reb (K : Fg) (c c' : Ctx) : Prop where
  os : c'.os = c.os
  back : ∀ {S H : Hp} {σ : L2.St} {ρ : J0} {τ : List (V × A)},Stt K c' S H σ ρ τ → Stt K c S H σ ρ τ
theorem Reb.osIn {K : Fg} {c c' : Ctx} {O : OL} (r : Reb K c c') (h : OsIn K c O) : OsIn K c' O:=by
  unfold OsIn
  rw [r.os]
  exact ⟨h.1,h.2.1,fun S H σ ρ τ s=>h.2.2 S H σ ρ τ (r.back s)⟩
theorem Reb.xok {K : Fg} {c c' : Ctx} {W : WX} {EA : AX} (r : Reb K c c') (h : XOk K c W EA) : XOk K c' W EA:=fun S2 H2 σ2 ρ2 C fs dd t xd e=>h S2 H2 σ2 ρ2 C fs dd (r.back t) xd e
theorem Reb.rest {K : Fg} {c : Ctx} {S H : Hp} {σ : L2.St} {ρ : J0} {τ : List (V × A)} (s : Stt K c S H σ ρ τ) : Reb K c { c with S0:=S }:=⟨rfl,fun t=>s.rebase t⟩
def Oj (K : Fg) (P : Pm) (wi : TI) (ai : AI) : Prop:=∀ c EA,OsIn K c P.O → XOk K c P.W EA → ∀ τ S H σ ρ Q (R : It → Hp → Prop),Stt K c S H σ ρ τ → ai EA ρ Q →
  (∀ c' J H' S' ρ' xs G,Reb K c c' → Stt K c' S' H' σ ρ' τ → Gw K c' J xs G → Q xs G ρ' → R J H') → wi σ H R
structure QI (X : Cx) (P : Pm) (tg it : Expr) (ai : AI) : Prop where
  ex : ∃ wi,PI X tg it wi ∧ Oj X.K P wi ai
/-- the signs of a text -/
def Vz (x : Str) : List D:=x.cps.toList.map fun c=>.str ⟨#[c]⟩
def X6 : D → Option (List D)
  | .lst xs=>some xs
  | .tup xs=>some xs
  | .str x=>some (Vz x)
  | _=>none
section
variable {X : Cx} {P : Pm} {K : Fg} {tg : Expr}
def JOa (K : Fg) (te : TE) : TI:=fun σ H R=>te σ H fun v H1=>(∃ a,v = .ref a ∧ (∃ xs,SqL K H1 a xs) ∧ R (Itl K a) H1) ∨ (∃ a,v = .ref a ∧ (∃ xs,SqT K H1 a xs) ∧ R (Itt K a) H1) ∨ ∃ x,v = .str x ∧ R (Its x) H1
theorem JOr {l : Expr} {tl : TE} (hl : PE X l tl) : PI X tg l (JOa X.K tl):=by
  refine ⟨fun pins s σ H R I h=>?_⟩
  refine thn (hl.run pins s σ H _ I h) fun v s1 ⟨x,H1,I1,r1,q1⟩=>?_
  rcases q1 with ⟨a,e,⟨xs,hq⟩,q⟩ | ⟨a,e,⟨xs,hq⟩,q⟩ | ⟨x,ex,q⟩
  · subst e
    cases r1
    obtain ⟨its,rv,p,hz⟩:=I1.list hq
    refine wpAny_pyIter_list p.isList ?_
    refine ⟨s1.heap.objs.size,[s1.heap.objs.size],_,_,H1,rfl,I1.kept (t':=s1.toks) fun b o e=>Heap.get?_push_of_some _ e,turn_list a _,⟨_,Heap.get?_push_size _ rfl,rfl,rfl⟩,fun b hb=>?_,q⟩
    have e : b = s1.heap.objs.size:=by simpa using hb
    subst e
    exact I1.fpOk (Nat.le_refl _) (I1.hok.fresh (Nat.le_refl _))
  · subst e
    cases r1
    obtain ⟨its,rv,p,hz⟩:=I1.tuple hq
    refine wpAny_pyIter_tuple (show s1.heap.IsTuple a its.toArray from p) ?_
    refine ⟨s1.heap.objs.size,[s1.heap.objs.size],_,_,H1,rfl,I1.kept (t':=s1.toks) fun b o e=>Heap.get?_push_of_some _ e,turn_tuple a _,⟨_,Heap.get?_push_size _ rfl,rfl,rfl⟩,fun b hb=>?_,q⟩
    have e : b = s1.heap.objs.size:=by simpa using hb
    subst e
    exact I1.fpOk (Nat.le_refl _) (I1.hok.fresh (Nat.le_refl _))
  · subst ex
    obtain ⟨t,rfl⟩:=r1
    cases ha : x.cps.all (· < 128)
    · exact wpAny_pyIter_wide ha (pi_one (tk:=s1.toks) I1 _ (turn_str _ x t "str_iterator" (.inr rfl)) ⟨_,Heap.get?_push_size _ rfl,rfl,rfl⟩ q)
    · exact wpAny_pyIter_ascii ha (pi_one (tk:=s1.toks) I1 _ (turn_str _ x t "str_ascii_iterator" (.inl rfl)) ⟨_,Heap.get?_push_size _ rfl,rfl,rfl⟩ q)
theorem RepL.at0 {S : Hp} : ∀ {xs : List D} {vs : List V} {i : Nat} {d : D},RepL K S xs vs → xs[i]? = some d → ∃ v,vs[i]? = some v ∧ Rep K S d v
  | [],vs,i,d,_,h=>by simp at h
  | x :: xs,vs,0,d,r,h=>by
    simp only [RepL] at r
    obtain ⟨v,r',rfl,h1,_⟩:=r
    have e : x = d:=by simpa using h
    subst e
    exact ⟨v,by simp,h1⟩
  | x :: xs,vs,i + 1,d,r,h=>by
    simp only [RepL] at r
    obtain ⟨v,r',rfl,_,h2⟩:=r
    obtain ⟨u,h3,h4⟩:=RepL.at0 h2 (i:=i) (by simpa using h)
    exact ⟨u,by simpa using h3,h4⟩
theorem JHx {x : Str} {i : Nat} {d : D} (h : (Vz x)[i]? = some d) : ∃ c,x.cps[i]? = some c ∧ d = .str ⟨#[c]⟩:=by
  unfold Vz at h
  rw [List.getElem?_map] at h
  cases e : x.cps.toList[i]? with
  | none=>rw [e] at h; cases h
  | some c =>
    rw [e] at h
    exact ⟨c,by simpa using e,(Option.some.inj h).symm⟩
/-- the things of a shared datum -/
theorem JHv {c : Ctx} {d : D} {xs : List D} {v : V} (hx : X6 d = some xs) (r : Rep K c.S0 d v) :
    (∃ a,v = .ref a ∧ (∃ vs,SqL K c.S0 a vs) ∧ Gw K c (Itl K a) xs fun _=>True) ∨ (∃ a,v = .ref a ∧ (∃ vs,SqT K c.S0 a vs) ∧ Gw K c (Itt K a) xs fun _=>True) ∨ ∃ x,v = .str x ∧ Gw K c (Its x) xs fun _=>True:=by
  cases d with
  | lst ys =>
    simp only [X6] at hx
    injection hx with hx
    subst hx
    simp only [Rep] at r
    obtain ⟨a,vs,rfl,h1,h2⟩:=r
    refine .inl ⟨a,rfl,⟨vs,h1⟩,fun S H σ ρ τ s _=>⟨fun i d hd=>?_,fun i hi=>⟨vs,SqL.le (Le.trans s.up s.le) h1,by rw [h2.len]; exact hi⟩⟩⟩
    obtain ⟨u,hu,ru⟩:=h2.at0 hd
    refine ⟨⟨vs,u,SqL.le (Le.trans s.up s.le) h1,hu⟩,fun v H' ⟨e,hy⟩=>?_⟩
    have:=hy vs (SqL.le (Le.trans s.up s.le) h1)
    rw [hu] at this
    cases this
    subst e
    exact ⟨S,s.hold (Rep.le (Le.of_same s.up) d _ ru)⟩
  | tup ys =>
    simp only [X6] at hx
    injection hx with hx
    subst hx
    simp only [Rep] at r
    obtain ⟨a,vs,rfl,h1,h2⟩:=r
    refine .inr (.inl ⟨a,rfl,⟨vs,h1⟩,fun S H σ ρ τ s _=>⟨fun i d hd=>?_,fun i hi=>⟨vs,SqT.le (Le.trans s.up s.le) h1,by rw [h2.len]; exact hi⟩⟩⟩)
    obtain ⟨u,hu,ru⟩:=h2.at0 hd
    refine ⟨⟨vs,u,SqT.le (Le.trans s.up s.le) h1,hu⟩,fun v H' ⟨e,hy⟩=>?_⟩
    have:=hy vs (SqT.le (Le.trans s.up s.le) h1)
    rw [hu] at this
    cases this
    subst e
    exact ⟨S,s.hold (Rep.le (Le.of_same s.up) d _ ru)⟩
  | str x =>
    simp only [X6] at hx
    injection hx with hx
    subst hx
    simp only [Rep] at r
    subst r
    refine .inr (.inr ⟨x,rfl,fun S H σ ρ τ s _=>⟨fun i d hd=>?_,fun i hi=>?_⟩⟩)
    · obtain ⟨c',hc,rfl⟩:=JHx hd
      refine ⟨(Array.getElem?_eq_some_iff.mp hc).1,fun v H' ⟨e,c2,h2,h3⟩=>?_⟩
      rw [hc] at h2
      cases h2
      subst e h3
      exact ⟨S,s.hold (Zb rfl)⟩
    · show x.cps.size ≤ i
      have : (Vz x).length = x.cps.size:=by simp [Vz]
      omega
  | _=>cases hx
/-- a sequence: what a slot holds is shared from now on -/
def Vo (ae : AE) : AI:=fun EA ρ Q=>ae EA ρ fun x ρ1=>Yl x ρ1 fun d ρ2=>∃ xs,X6 d = some xs ∧ Q xs (fun _=>True) ρ2
theorem SqL.up {S S' : Hp} {a : Addr} {vs : List V} (h : Le S S') (q : SqL K S a vs) : SqL K S' a vs:=SqL.le h q
theorem Wg {e : Expr} {ae : AE} (h : QE X P e ae) : QI X P tg e (Vo ae):=by
  obtain ⟨t,p,s⟩:=h.ex
  refine ⟨_,JOr p,fun c EA ho hw τ S H σ ρ Q R st q k=>s c EA ho hw τ S H σ ρ _ _ st q fun v H1 ⟨S1,ρ1,x,s1,q1⟩=>?_⟩
  obtain ⟨S2,d,ρ2,sm,s2,xs,hx,q2⟩:=W9 s1 q1
  have r:=s2.data
  rcases JHv (c:={ c with S0:=S2 }) hx r with ⟨a,e,⟨vs,h1⟩,h2⟩ | ⟨a,e,⟨vs,h1⟩,h2⟩ | ⟨x,e,h2⟩
  · exact .inl ⟨a,e,⟨vs,SqL.le s2.le h1⟩,k _ _ _ S2 ρ2 xs _ (Reb.rest s2) s2.drop.rest h2 q2⟩
  · exact .inr (.inl ⟨a,e,⟨vs,SqT.le s2.le h1⟩,k _ _ _ S2 ρ2 xs _ (Reb.rest s2) s2.drop.rest h2 q2⟩)
  · exact .inr (.inr ⟨x,e,k _ _ _ S2 ρ2 xs _ (Reb.rest s2) s2.drop.rest h2 q2⟩)
theorem S8 {ρ : J0} {j : Nat} {d : D} (h : dat (.loc j) ρ = some d) : ∃ y,ρ[j]? = some (some y) ∧ y.toD = d:=by
  unfold dat at h
  simp only at h
  split at h
  · exact ⟨_,by assumption,Option.some.inj h⟩
  · cases h
/-- numbers -/
def Wu (lo : Int) (n : Nat) : List D:=(List.range n).map fun i=>.int (lo + (i : Nat))
theorem JXo {lo : Int} {n i : Nat} {d : D} (h : (Wu lo n)[i]? = some d) : i < n ∧ d = .int (lo + (i : Nat)):=by
  unfold Wu at h
  rw [List.getElem?_map] at h
  by_cases e : i < n
  · rw [List.getElem?_range e] at h
    exact ⟨e,(Option.some.inj h).symm⟩
  · rw [List.getElem?_eq_none (by simpa using e)] at h
    cases h
theorem Ru {c : Ctx} {lo : Int} {n : Nat} : Gw K c (Itr lo n) (Wu lo n) fun _=>True:=fun S H σ ρ τ s _=>⟨fun i d hd=>by
    obtain ⟨h1,rfl⟩:=JXo hd
    exact ⟨h1,fun v H' ⟨e,h⟩=>by subst e h; exact ⟨S,s.hold (Zb rfl)⟩⟩,fun i hi=>by
    have : (Wu lo n).length = n:=by simp [Wu]
    show n ≤ i
    omega⟩
def Ga (aa : AA) : AI:=fun EA ρ Q=>aa EA ρ fun xs ρ1=>∃ x j,xs = [x] ∧ dat x ρ1 = some (.int j) ∧ -(2 ^ 62) ≤ j ∧ j < 2 ^ 62 ∧ Q (Wu 0 j.toNat) (fun _=>True) ρ1
def L8 (aa : AA) : AI:=fun EA ρ Q=>aa EA ρ fun xs ρ1=>∃ x y i j,xs = [x,y] ∧ dat x ρ1 = some (.int i) ∧ dat y ρ1 = some (.int j) ∧ (-(2 ^ 62) ≤ i ∧ i < 2 ^ 62 ∧ -(2 ^ 62) ≤ j ∧ j < 2 ^ 62) ∧ Q (Wu i (j - i).toNat) (fun _=>True) ρ1
theorem Su {a : Expr} {aa : AA} {p pos : Pos} (hg : Gl X "range") (hm : X.mg "range" = none) (ha : QA X P [a] aa) (hs : starEach [a] X.env = [(false,eval a X.env)]:=by rfl) : QI X P tg (.Call (.Name "range" p) [a] [] pos) (Ga aa):=by
  obtain ⟨t,pa,s⟩:=ha.ex
  refine ⟨_,pi_range1 hg hm pa hs,fun c EA ho hw τ S H σ ρ Q R st q k=>s c EA ho hw τ S H σ ρ _ _ st q fun vs H1 ⟨S1,ρ1,xs,hl,s1,x,j,e,hd,h1,h2,q1⟩=>?_⟩
  subst e
  cases vs with
  | nil=>simp at hl
  | cons v vs =>
    cases vs with
    | nil =>
      have r:=s1.dat (v:=v) (x:=x) (by simp) hd
      simp only [Rep] at r
      subst r
      exact ⟨j,rfl,h1,h2,k _ _ _ S1 ρ1 _ _ (Reb.rest s1) (Stt.drops (ts:=[V.int j].zip [x]) s1).rest Ru q1⟩
    | cons _ _=>simp at hl
theorem JPu {a b : Expr} {aa : AA} {p pos : Pos} (hg : Gl X "range") (hm : X.mg "range" = none) (ha : QA X P [a,b] aa) (hs : starEach [a,b] X.env = [(false,eval a X.env),(false,eval b X.env)]:=by rfl) (hs2 : starEach [b] X.env = [(false,eval b X.env)]:=by rfl) : QI X P tg (.Call (.Name "range" p) [a,b] [] pos) (L8 aa):=by
  obtain ⟨t,pa,s⟩:=ha.ex
  refine ⟨_,pi_range2 hg hm pa hs hs2,fun c EA ho hw τ S H σ ρ Q R st q k=>s c EA ho hw τ S H σ ρ _ _ st q fun vs H1 ⟨S1,ρ1,xs,hl,s1,x,y,i,j,e,hd,hd2,h1,q1⟩=>?_⟩
  subst e
  cases vs with
  | nil=>simp at hl
  | cons v vs =>
    cases vs with
    | nil=>simp at hl
    | cons v2 vs =>
      cases vs with
      | nil =>
        have r:=s1.dat (v:=v) (x:=x) (by simp) hd
        have r2:=s1.dat (v:=v2) (x:=y) (by simp) hd2
        simp only [Rep] at r r2
        subst r r2
        exact ⟨i,j,rfl,h1,k _ _ _ S1 ρ1 _ _ (Reb.rest s1) (Stt.drops (ts:=[V.int i,V.int j].zip [x,y]) s1).rest Ru q1⟩
      | cons _ _=>simp at hl
end
abbrev AG:=D → J0 → (J0 → Prop) → Prop
abbrev AGs:=List D → J0 → (J0 → Prop) → Prop
/-- σ2 is σ but for some slots -/
def But (ws : List Nat) (σ σ2 : L2.St) : Prop:=σ2.length = σ.length ∧ ∀ i,i ∉ ws → σ2[i]? = σ[i]?
theorem But.refl {ws : List Nat} {σ : L2.St} : But ws σ σ:=⟨rfl,fun _ _=>rfl⟩
theorem But.trans {ws vs : List Nat} {σ σ2 σ3 : L2.St} (h : But ws σ σ2) (h2 : But vs σ2 σ3) : But (ws ++ vs) σ σ3 :=
  ⟨h2.1.trans h.1,fun i hi=>(h2.2 i fun z=>hi (by simp [z])).trans (h.2 i fun z=>hi (by simp [z]))⟩
def Gc (K : Fg) (P : Pm) (g : TG) (ag : AG) (ws : List Nat) : Prop:=∀ c,OsIn K c P.O → ∀ τ S H σ ρ v d Q (R : L2.St → Hp → Prop),Stt K c S H σ ρ ((v,.v d) :: τ) → (∀ u i,(u,A.loc i) ∈ τ → i ∉ ws) → ag d ρ Q → (∀ σ' ρ',Stt K c S H σ' ρ' τ → But ws σ σ' → Q ρ' → R σ' H) → g v σ H R
def JPo (K : Fg) (P : Pm) (g : TGs) (ag : AGs) (ws : List Nat) : Prop:=∀ c,OsIn K c P.O → ∀ τ S H σ ρ vs ds Q (R : L2.St → Hp → Prop),Stt K c S H σ ρ τ → RepL K S ds vs → (∀ u i,(u,A.loc i) ∈ τ → i ∉ ws) → ag ds ρ Q → (∀ σ' ρ',Stt K c S H σ' ρ' τ → But ws σ σ' → Q ρ' → R σ' H) → g vs σ H R
structure QG (X : Cx) (P : Pm) (tg : Expr) (ag : AG) (ws : List Nat) : Prop where
  ex : ∃ g,PG X tg g ∧ Gc X.K P g ag ws
structure QGs (X : Cx) (P : Pm) (tg : List Expr) (ag : AGs) (ws : List Nat) : Prop where
  ex : ∃ g,PGs X tg g ∧ JPo X.K P g ag ws
section
variable {X : Cx} {P : Pm} {K : Fg} {pos : Pos}
def Ub (i : Nat) : AG:=fun d ρ Q=>Q (ρ.set i (some (.v d)))
def Xc : AGs:=fun ds ρ Q=>ds = [] ∧ Q ρ
def W4 (a : AG) (b : AGs) : AGs:=fun ds ρ Q=>∃ d r,ds = d :: r ∧ a d ρ fun ρ'=>b r ρ' Q
def Xa (n : Nat) (b : AGs) : AG:=fun d ρ Q=>∃ ds,d = .tup ds ∧ ds.length = n ∧ b ds ρ Q
theorem Ul {i : Nat} {x : Str} (hN : X.N.Nodup) (hi : X.N[i]? = some x) (hx : Loc X.env.scope x) (hO : i ∉ P.O) (hf : X.fn x = true ∨ X.env.scope.names.lookup x = some .local:=by first | exact .inl rfl | exact .inr rfl | assumption) : QG X P (.Name x pos) (Ub i) [i] :=
  ⟨_,pg_name hN hi hx hf,fun c ho τ S H σ ρ v d Q R s hn q k=>k _ _ (s.store rfl (ho.ne hO) fun u m=>hn u i m (by simp)) ⟨by simp,fun j hj=>List.getElem?_set_ne (fun z=>hj (by simp [z]))⟩ q⟩
theorem Gz : QGs X P [] Xc []:=⟨_,pgs_nil,fun c ho τ S H σ ρ vs ds Q R s r hn ⟨e,q⟩ k=>by
  subst e
  simp only [RepL] at r
  exact ⟨r,k _ _ s But.refl q⟩⟩
theorem Wr {e : Expr} {es : List Expr} {a : AG} {b : AGs} {ws vs : List Nat} (h1 : QG X P e a ws) (h2 : QGs X P es b vs) (hs : (assignEach (e :: es) X.env).map (·.2) = assign e X.env :: (assignEach es X.env).map (·.2):=by rfl) : QGs X P (e :: es) (W4 a b) (ws ++ vs):=by
  obtain ⟨t,p,s⟩:=h1.ex
  obtain ⟨t2,p2,s2⟩:=h2.ex
  refine ⟨_,pgs_cons p p2 hs,fun c ho τ S H σ ρ us ds Q R st r hn ⟨d,rs,e,q⟩ k=>?_⟩
  subst e
  simp only [RepL] at r
  obtain ⟨v,r',rfl,h3,h4⟩:=r
  refine ⟨v,r',rfl,s c ho τ S H σ ρ v d _ _ (st.hold h3) (fun u i m z=>hn u i m (by simp [z])) q fun σ' ρ' st' bt q'=>?_⟩
  exact s2 c ho τ S H σ' ρ' r' rs _ _ st' h4 (fun u i m z=>hn u i m (by simp [z])) q' fun σ2 ρ2 st2 bt2 q2=>k σ2 ρ2 st2 (bt.trans bt2) q2
theorem Gk {es : List Expr} {k : Nat} {b : AGs} {n : Nat} {ws : List Nat} (hc : X.calm = true) (h : QGs X P es b ws) (hn : (assignEach es X.env).length = n:=by rfl) (hst : (assignEach es X.env).findIdx? (·.1) = none:=by rfl) : QG X P (.Tuple es k pos) (Xa n b) ws:=by
  obtain ⟨t,p,s⟩:=h.ex
  refine ⟨_,pg_tup hc p hn hst,fun c ho τ S H σ ρ v d Q R st hnn ⟨ds,e,hl,q⟩ k=>?_⟩
  subst e
  have r:=st.data
  simp only [Rep] at r
  obtain ⟨a,vs,rfl,h1,h2⟩:=r
  exact ⟨a,vs,rfl,SqT.le st.le h1,by rw [h2.len]; exact hl,s c ho τ S H σ ρ vs ds _ _ st.drop h2 hnn q k⟩
def forA (G : J0 → Prop) (ag : AG) (ab : AS) (DA : AEnds) : List D → J0 → Prop
  | [],ρ=>G ρ ∧ DA.nx ρ
  | x :: xs,ρ=>G ρ ∧ ag x ρ fun ρ'=>ab { DA with nx:=forA G ag ab DA xs,ct:=forA G ag ab DA xs,bk:=DA.nx } ρ'
def Wn (ai : AI) (ag : AG) (ab : AS) : AS:=fun DA ρ=>ai DA.ex ρ fun xs G ρ'=>forA G ag ab DA xs ρ'
theorem Zl {tg iter : Expr} {body : List Stmt} {ai : AI} {ag : AG} {ab : AS} {ws : List Nat} (hp : PassesOwn (model X.prog X.w) X.A X.env X.xe) (hc : X.calm = true) (hi : QI X P tg iter ai) (hg : QG X P tg ag ws) (hb : QSs X P body ab)
    (hs : ∀ x,foldedSetIterable iter X.env x = pure x:=by intro _; rfl) : QS X P (.For tg iter body [] pos) (Wn ai ag ab):=by
  obtain ⟨wi,pi,si⟩:=hi.ex
  obtain ⟨g,pg,sg⟩:=hg.ex
  obtain ⟨tb,pb,sb⟩:=hb.ex
  refine ⟨_,ps_for hp hc pi pg pb hs,fun c D DA ho hw l S H σ ρ st q=>si c DA.ex ho hw [] S H σ ρ _ _ st q fun c' J H1 S1 ρ1 xs G rb s1 hJ q1=>?_⟩
  refine ⟨fun i m σ H=>∃ S ρ,Stt X.K c' S H σ ρ [] ∧ i + m = xs.length ∧ forA G ag ab DA (xs.drop i) ρ,⟨xs.length,S1,ρ1,s1,by omega,by simpa using q1⟩,?_⟩
  rintro i m σ2 H2 ⟨S2,ρ2,s2,hm,q2⟩
  by_cases hlt : i < xs.length
  · have e : xs.drop i = xs[i] :: xs.drop (i + 1):=List.drop_eq_getElem_cons hlt
    rw [e] at q2
    obtain ⟨hG,q2⟩:=q2
    obtain ⟨h1,h2⟩:=(hJ S2 H2 σ2 ρ2 [] s2 hG).1 i xs[i] (List.getElem?_eq_getElem hlt)
    refine .inr ⟨h1,fun σ' H'=>∃ S ρ,Stt X.K c' S H' σ' ρ [] ∧ forA G ag ab DA (xs.drop (i + 1)) ρ,fun σ' H' ⟨S',ρ',a1,a2⟩=>⟨m - 1,by omega,S',ρ',a1,by omega,a2⟩,fun x H' hy=>?_⟩
    obtain ⟨S3,s3⟩:=h2 x H' hy
    refine sg c' (rb.osIn ho) [] S3 H' σ2 ρ2 x xs[i] _ _ s3 (fun _ _ m=>by simp at m) q2 fun σ' ρ' s4 _ q4=>?_
    refine sb c' { D with nx:=fun σ' H'=>∃ S ρ,Stt X.K c' S H' σ' ρ [] ∧ forA G ag ab DA (xs.drop (i + 1)) ρ,ct:=fun σ' H'=>∃ S ρ,Stt X.K c' S H' σ' ρ [] ∧ forA G ag ab DA (xs.drop (i + 1)) ρ,bk:=D.nx } { DA with nx:=forA G ag ab DA (xs.drop (i + 1)),ct:=forA G ag ab DA (xs.drop (i + 1)),bk:=DA.nx } (rb.osIn ho) (rb.xok hw) ⟨fun S H σ ρ a b=>⟨S,ρ,a,b⟩,fun S H σ ρ v x a=>l.rt S H σ ρ v x (rb.back a),fun S H σ ρ a=>l.nx S H σ ρ (rb.back a),fun S H σ ρ a b=>⟨S,ρ,a,b⟩⟩ S3 H' σ' ρ' s4 q4
  · have e : xs.drop i = []:=List.drop_eq_nil_of_le (by omega)
    rw [e] at q2
    exact .inl ⟨(hJ S2 H2 σ2 ρ2 [] s2 q2.1).2 i (by omega),l.nx S2 H2 σ2 ρ2 (rb.back s2) q2.2⟩
/-- slots are forgotten -/
def Yj : List Nat → J0 → J0
  | [],ρ=>ρ
  | v :: vs,ρ=>(Yj vs ρ).set v none
theorem Stt.clears {c : Ctx} {S H : Hp} {σ : L2.St} {ρ : J0} {τ : List (V × A)} (s : Stt K c S H σ ρ τ) : ∀ (vs : List Nat),(∀ u i,(u,A.loc i) ∈ τ → i ∉ vs) → Stt K c S H σ (Yj vs ρ) τ
  | [],_=>s
  | v :: vs,h=>(Stt.clears s vs fun u i m z=>h u i m (by simp [z])).clear v fun u m=>h u v m (by simp)
theorem JB8 (vs : List Nat) {st : Stmt} {a : AS} (h : QS X P st a) : QS X P st (fun DA ρ=>a DA (Yj vs ρ)) :=
  let ⟨t,p,s⟩:=h.ex; ⟨t,p,fun c D DA ho hw l S H σ ρ st q=>s c D DA ho hw l S H σ _ (st.clears vs fun _ _ m=>by simp at m) q⟩
end
end Vs
namespace Vs
open PySem PySem.Spec PyProof.Rows L2
variable [Tbs]
section
variable {X : Cx} {P : Pm} {K : Fg} {a b e : Expr} {pos : Pos} {aa ab : AE}
theorem OpR.or {f : Value → Value → Sem Value} {r r' : R2} (h : OpR X f r) (h' : OpR X f r') : OpR X f (fun x y H Q=>r x y H Q ∨ r' x y H Q):=fun pins s σ H x y v u Q I rx ry q =>
  q.elim (fun q=>h pins s σ H x y v u Q I rx ry q) fun q=>h' pins s σ H x y v u Q I rx ry q
def Hl : R2:=fun x y H Q=>∃ a v,x = .ref a ∧ DGet H a y (some v) ∧ Q v H
theorem JNu (hu : X.A.units + 64 < cLine) : IxR X Hl:=by
  intro value slice pins s σ H x y v u Q I rx ry h hs
  obtain ⟨a,z,ex,g,q⟩:=h
  subst ex
  obtain rfl : v = Value.ref a:=rx
  have hT:=dict_typeIs I g
  unfold subscriptTail
  refine wpAny_bind ?_
  rw [getitemInPython_of_ne hT.not_modules]
  refine wpAny_bind (wpAny_specialOf hT PySem.F.slot_dict_getitem.lookup ?_)
  have fin : wpAny (model X.prog X.w) X.A (subscripted slice false (.ref a) u) (fun r s₃=>wpAny (model X.prog X.w) X.A (letTemporaryGo value (.ref a) r >>= fun _=>pure r) (EP X pins σ Q) X.xe s₃) X.xe s:=by
    rw [hs]
    exact wpAny_operating (d_getItem (by omega) I g ry fun w' s3 I3 rw'=>wpAny_bind (wpAny_letTemporaryGo (wpAny_pure ⟨z,H,I3,rw',q⟩)))
  first
    | exact wpAny_pure (wpAny_bind fin)
    | exact wpAny_bind (wpAny_pure (wpAny_bind fin))
    | exact wpAny_bind fin
theorem IxR.or {r r' : R2} (h : IxR X r) (h' : IxR X r') : IxR X (fun x y H Q=>r x y H Q ∨ r' x y H Q):=fun value slice pins s σ H x y v u Q I rx ry q hs =>
  q.elim (fun q=>h value slice pins s σ H x y v u Q I rx ry q hs) fun q=>h' value slice pins s σ H x y v u Q I rx ry q hs
/-- d[i],the item of a list,tuple,text or dict -/
def itD (d i : D) : Option D:=match d,i with
  | .lst xs,.int j=>atI xs j
  | .tup xs,.int j=>atI xs j
  | .str x,.int j=>if x.length ≤ 100000 then (atI x.cps.toList j).map fun ch=>.str ⟨#[ch]⟩ else none
  | .dic kvs,i=>(keyD i).bind (valD kvs)
  | _,_=>none
def aIx : AR2:=fun x y ρ Q=>∃ d i z,dat x ρ = some d ∧ dat y ρ = some i ∧ itD d i = some z ∧ Q (.v z) ρ
theorem JOn : Yu K Hl JPp:=by
  intro c τ S H σ ρ vx vy x y Q R s2 q k
  obtain ⟨kvs,i,kk,z,h1,h2,h3,h4,q2⟩:=q
  obtain ⟨y0,g,r0,e0⟩:=s2.thing (List.mem_cons_of_mem _ (List.mem_cons_self ..)) h1
  obtain ⟨p,ws,rfl,h5,h6⟩:=Ld r0 e0 s2.le
  have r2:=(Vj s2 h1 h2).2
  have ek:=Bs h3 r2
  subst ek
  rcases h6.val (k:=kk) with ⟨e1,_⟩ | ⟨d',v',e1,e2,e3⟩
  · rw [e1] at h4; cases h4
  · rw [h4] at e1
    cases e1
    exact ⟨p,v',rfl,.inl ⟨ws,kk,h5,rfl,e2.symm⟩,k _ _ ⟨S,ρ,.v z,s2.drop.drop.hold e3,q2⟩⟩
theorem JKb : Yu K (fun x y H Q=>rIx K x y H Q ∨ Hl x y H Q) aIx:=by
  intro c τ S H σ ρ vx vy x y Q R s q k
  obtain ⟨d,i,z,h1,h2,hi,q⟩:=q
  have other : ItD d i z → (rIx K vx vy H R ∨ Hl vx vy H R):=fun h=>.inl (JLl c τ S H σ ρ vx vy x y Q R s ⟨d,i,z,h1,h2,h,q⟩ k)
  cases d with
  | lst xs=>cases i <;> first | (simp only [itD] at hi; exact other ⟨_,rfl,hi⟩) | cases hi
  | tup xs=>cases i <;> first | (simp only [itD] at hi; exact other ⟨_,rfl,hi⟩) | cases hi
  | str t =>
    cases i with
    | int j =>
      simp only [itD] at hi
      split at hi
      · rename_i hl
        cases e : atI t.cps.toList j with
        | none=>rw [e] at hi; cases hi
        | some ch =>
          rw [e] at hi
          exact other ⟨j,ch,rfl,hl,e,(Option.some.inj hi).symm⟩
      · cases hi
    | _=>cases hi
  | dic kvs =>
    have hi' : (keyD i).bind (valD kvs) = some z:=by cases i <;> exact hi
    cases e : keyD i with
    | none=>rw [e] at hi'; cases hi'
    | some kk =>
      rw [e] at hi'
      exact .inr (JOn c τ S H σ ρ vx vy x y Q R s ⟨kvs,i,kk,z,h1,h2,e,hi',q⟩ k)
  | _=>cases hi
theorem Yf (hu : X.A.units + 64 < cLine) (ha : QE X P a aa) (hb : QE X P b ab) (hs : PlainIx b:=by intro _ _; rfl) : QE X P (.Subscript a b pos) (aOp aIx aa ab) :=
  let ⟨_,p,s⟩:=ha.ex; let ⟨_,p2,s2⟩:=hb.ex; ⟨_,pe_ix (IxR.or ix_seq (JNu hu)) p p2 hs,L3 s s2 JKb⟩
def D9 (K : Fg) : R2:=fun x y H Q=>∃ l b xs zs,x = .ref l ∧ y = .ref b ∧ SqL K H l xs ∧ SqL K H b zs ∧ xs.length + zs.length ≤ sizeLine ∧ ∀ p,H p = none → Q (.ref p) (upd H p (.lst (xs ++ zs)))
theorem JGc : OpR X (binaryOp .Add) (D9 X.K):=by
  intro pins s σ H x y v u Q I rx ry h
  obtain ⟨l,b,xs,zs,rfl,rfl,hH,hB,hz,q⟩:=h
  cases rx
  cases ry
  obtain ⟨its,r,p1,z1⟩:=I.list hH
  obtain ⟨its2,r2,p2,z2⟩:=I.list hB
  obtain ⟨⟨cls,dd,data,sl⟩,ho,hc,n,hd⟩:=p1.isList
  obtain ⟨⟨cls2,dd2,data2,sl2⟩,ho2,hc2,n2,hd2⟩:=p2.isList
  simp only at hc hd hc2 hd2
  subst hc hd hc2 hd2
  have l1:=r.length
  have l2:=r2.length
  have e : its.toArray ++ its2.toArray = (its ++ its2).toArray:=by simp
  refine concat_meets ⟨_,ho,rfl⟩ ⟨_,ho2,rfl⟩ noFill_list_add seq_list_add PySem.F.slot_list_add PySem.F.entry_list_add (PySem.F.args_list_add_2 _ _) (PyProof.Rows.list_addW l b its.toArray its2.toArray n n2 dd dd2 sl sl2 (by simp; omega)) ⟨ho,ho2,?_⟩
  rw [e]
  exact ⟨.ref _,_,I.lnew (t':=s.toks) (r.append r2) (by rw [List.length_append]; omega),rfl,q _ I.fresh⟩
/-- x + y: numbers,texts,tuples; lists give an owned one -/
def Xf (d e : D) (Q : A → Prop) : Prop:=match d,e with
  | .int i,.int j=>Q (.v (.int (i + j)))
  | .str x,.str y=>x.length + y.length ≤ 100000 ∧ Q (.v (.str (x ++ y)))
  | .tup xs,.tup ys=>xs.length + ys.length ≤ 100000 ∧ Q (.v (.tup (xs ++ ys)))
  | .lst xs,.lst ys=>xs.length + ys.length ≤ 100000 ∧ Q (.lst (xs ++ ys))
  | _,_=>False
def Vc : AR2:=fun x y ρ Q=>∃ d e,dat x ρ = some d ∧ dat y ρ = some e ∧ Xf d e fun z=>Q z ρ
abbrev Dq (K : Fg) : R2:=fun x y H Q=>(rI0 (fun i j=>.int (i + j))) x y H Q ∨ (∃ i j,x = .str i ∧ y = .str j ∧ i.length + j.length ≤ sizeLine ∧ Q (.str (i ++ j)) H) ∨ rCatA K x y H Q ∨ D9 K x y H Q
theorem Vv : OpR X (binaryOp .Add) (Dq X.K):=OpR.or op_add (OpR.or op_add_str (OpR.or op_catA JGc))
theorem Vt : Yu K (Dq K) Vc:=by
  intro c τ S H σ ρ vx vy x y Q R s q k
  obtain ⟨d,e,h1,h2,q⟩:=q
  cases d with
  | int i=>cases e with
    | int j=>exact .inl (JBf c τ S H σ ρ vx vy x y Q R s ⟨i,j,h1,h2,q⟩ k)
    | _=>cases q
  | str i=>cases e with
    | str j=>exact .inr (.inl (JFi c τ S H σ ρ vx vy x y Q R s ⟨i,j,h1,h2,q.1,q.2⟩ k))
    | _=>cases q
  | tup i=>cases e with
    | tup j=>exact .inr (.inr (.inl (JPv c τ S H σ ρ vx vy x y Q R s ⟨i,j,h1,h2,q.1,q.2⟩ k)))
    | _=>cases q
  | lst i=>cases e with
    | lst j =>
      obtain ⟨y0,g,r0,e0⟩:=s.thing (List.mem_cons_of_mem _ (List.mem_cons_self ..)) h1
      obtain ⟨y1,g1,r1,e1⟩:=s.thing (List.mem_cons_self ..) h2
      obtain ⟨p,vs,rfl,a2,a3⟩:=Vw r0 e0 s.le
      obtain ⟨p',vs',rfl,b2,b3⟩:=Vw r1 e1 s.le
      refine .inr (.inr (.inr ⟨p,p',vs,vs',rfl,rfl,a2,b2,by rw [a3.len,b3.len]; exact Nat.le_trans q.1 (by decide),fun pn hp=>?_⟩))
      exact k _ _ ⟨S,ρ,_,s.drop.drop.newList hp (a3.app b3),q.2⟩
    | _=>cases q
  | _=>cases q
def Ud (ae : AE) : AE:=fun EA ρ Q=>ae EA ρ fun x ρ1=>Yl x ρ1 fun d ρ2=>Q (.v d) ρ2
theorem Ux (h : QE X P e aa) : QE X P e (Ud aa):=by
  obtain ⟨t,p,s⟩:=h.ex
  refine ⟨_,p,fun c EA ho hw τ S H σ ρ Q R st q k=>s c EA ho hw τ S H σ ρ _ _ st q fun v H1 ⟨S1,ρ1,x,s1,q1⟩=>?_⟩
  obtain ⟨S2,d,ρ2,sm,s2,q2⟩:=W9 s1 q1
  exact k _ _ ⟨S2,ρ2,.v d,s2,q2⟩
def F2 (y : A) (i d : D) : Option A:=match y with
  | .lst xs=>(match i with
    | .int k=>(ixN xs.length k).map fun n=>.lst (xs.set n d)
    | _=>none)
  | .dic kvs=>(keyD i).map fun k=>.dic (putD kvs k d)
  | _=>none
def Bf : A → Nat
  | .dic kvs=>kvs.length
  | _=>0
def Bc (av ao ai : AE) : AS:=fun DA ρ=>av DA.ex ρ fun x ρ1=>Yl x ρ1 fun d ρ2=>ao DA.ex ρ2 fun o ρ3=>ai DA.ex ρ3 fun iv ρ4=>∃ j y i y',o = .loc j ∧ ρ4[j]? = some (some y) ∧ dat iv ρ4 = some i ∧ F2 y i d = some y' ∧ Bf y ≤ 100000 ∧ DA.nx (ρ4.set j (some y'))
theorem PSet.or {t t' : TSet} (h : PSet X t) (h' : PSet X t') : PSet X (fun o i v H Q=>t o i v H Q ∨ t' o i v H Q):=fun pins s σ H o i v ov iv u Q I ro ri rv q =>
  q.elim (fun q=>h pins s σ H o i v ov iv u Q I ro ri rv q) fun q=>h' pins s σ H o i v ov iv u Q I ro ri rv q
theorem L6 {o i e : Expr} {av ao ai : AE} {pos' : Pos} (hu : X.A.units + 64 < cLine) (hv : QE X P e av) (ho' : QE X P o ao) (hi : QE X P i ai)
    (ha : ∀ v,assign (.Subscript o i pos') X.env v = (do
      let ov ← holding [v] (eval o X.env)
      let iv ← holding [v,ov] (eval i X.env)
      standAt pos'
      holding [v,ov,iv] (setItem ov iv v)
      release [v,ov,iv] []):=by intro _; rfl)
    (hs : swapsWithSole [.Subscript o i pos'] e pos.line X.env = pure false:=by rfl) (hw : swappedStores [.Subscript o i pos'] e X.env = pure none:=by rfl)
    (h1 : (assignEach [.Subscript o i pos'] X.env).map (·.2) = [assign (.Subscript o i pos') X.env]:=by rfl) : QS X P (.Assign [.Subscript o i pos'] e pos) (Bc av ao ai):=by
  obtain ⟨tv,pv,sv⟩:=hv.ex
  obtain ⟨to,po,so⟩:=ho'.ex
  obtain ⟨ti,pi,si⟩:=hi.ex
  refine ⟨_,ps_asg pv (pg_sub po pi (PSet.or set_list (set_dict (by omega))) ha) hs hw h1,fun c D DA ho hw l S H σ ρ st q=>sv c DA.ex ho hw [] S H σ ρ _ _ st q fun v H1 ⟨S1,ρ1,y,s1,q1⟩=>?_⟩
  obtain ⟨S2,d,ρ2,sm,s2,q2⟩:=W9 s1 q1
  refine so c DA.ex ho hw _ S2 H1 σ ρ2 _ _ s2 q2 fun vo H2 ⟨S3,ρ3,xo,s3,q3⟩=>si c DA.ex ho hw _ S3 H2 σ ρ3 _ _ s3 q3 fun vi H3 ⟨S4,ρ4,xi,s4,j,y,i,y',eo,hj,hk,hp',hlen,q4⟩=>?_
  subst eo
  have hvo : σ[j]? = some (some vo):=(s4.loc vo j (by simp)).1
  obtain ⟨g,ra⟩:=s4.slotA hj hvo
  have rd : Rep X.K S4 d v:=s4.dataMem (by simp)
  have rk:=s4.dat (List.mem_cons_self ..) hk
  cases y with
  | lst xs =>
    obtain ⟨p,vs,rfl,hp,rl,rfl⟩:=ra.lst_inv
    cases i with
    | int k =>
      simp only [Rep] at rk
      simp only [F2] at hp'
      cases hn : ixN xs.length k with
      | none=>rw [hn] at hp'; cases hp'
      | some n =>
        rw [hn] at hp'
        have e1:=(Option.some.inj hp').symm
        subst e1
        refine .inl ⟨p,vs,k,n,rfl,rk,hp,by rw [rl.len]; exact hn,?_⟩
        have s5:=s4.write (o:=.lst (vs.set n v)) (y':=.lst (xs.set n d)) hj hvo (fun g' h=>by obtain ⟨a',_,e,_,_,e2⟩:=h.lst_inv; cases e; exact e2) rfl (.mk_lst upd_same (rl.set n rd))
        exact l.nx S4 _ σ _ s5.drop.drop.drop q4
    | _=>cases hp'
  | dic kvs =>
    obtain ⟨p,ws,rfl,hp,rl,rfl⟩:=ra.dic_inv
    simp only [F2] at hp'
    cases hkk : keyD i with
    | none=>rw [hkk] at hp'; cases hp'
    | some k =>
      rw [hkk] at hp'
      have e1:=(Option.some.inj hp').symm
      subst e1
      have ek:=Bs hkk rk
      subst ek
      refine .inr ⟨p,upd H3 p (.dK (putK ws k v)),rfl,.inl ⟨ws,k,hp,rfl,by rw [rl.len]; exact Nat.lt_of_le_of_lt hlen (by decide),rfl⟩,?_⟩
      have s5:=s4.write (o:=.dK (putK ws k v)) (y':=.dic (putD kvs k d)) hj hvo (fun g' h=>by obtain ⟨a',_,e,_,_,e2⟩:=h.dic_inv; cases e; exact e2) rfl (.mk_dic upd_same (rl.put k rd))
      exact l.nx S4 _ σ _ s5.drop.drop.drop q4
  | _=>cases hp'
end
structure Cal (Pr : Program) (w : World) (K : Fg) (mg : Str → Option Value) (base : Heap) (x : Str) (k : Nat) (ps : List Str) (sp : ASp) : Prop where
  ex : ∃ f fd,mg x = some (.ref f) ∧ PySem.W.keepIn K (.ref f) = true ∧ Binds K fd ps [] ∧ Fok Pr w K mg base k f fd ps sp
theorem Y8 {X : Cx} {P : Pm} {k : Nat} {ps : List Str} {sp : ASp} {x : Str} {e : Expr} {es : List Expr} {aa : AA} {p pos : Pos} (F : Cal X.prog X.w X.K X.mg X.base x k ps sp) (hr : Room k X.A) (hg : Gl X x) (hx : ∀ σ,PassesAt (L2.CX X.prog X.w) X σ (fun cls d H=>P.W cls d σ H)) (ha : QA X P (e :: es) aa)
    (hdb : (x == ("__debug__" : Str)) = false:=by decide) (he : starEach (e :: es) X.env = (false,eval e X.env) :: starEach es X.env:=by rfl) (hpl : (backTo pos (starEach es X.env)).any (·.1) = false:=by rfl) :
    QE X P (.Call (.Name x p) (e :: es) [] pos) (Y4 sp [] aa):=let ⟨_,_,h1,h2,h3,h4⟩:=F.ex; JXp h4 hr hg h1 h2 h3 .nil Kn hx ha hdb he hpl
end Vs
namespace Vs
open PySem PySem.Spec PyProof.Rows L2
variable [Tbs]
section
variable {EA : AX} {ρ : J0} {Q : AK} {DA : AEnds} {QB : Bool → J0 → Prop} {QL : List A → J0 → Prop}
/-- wide division -/
def Xq : AR2:=aI CDivW fun i j=>.int (i / j)
theorem Li {K : Fg} : Yu K (rI CDivW fun i j=>.int (i / j)) Xq:=Fv fun _ _=>rfl
theorem G4 {α : Type} {xs : List α} {k : Nat} (h : k < xs.length) : atI xs (k : Int) = xs[k]?:=by
  have h1 : (0 : Int) ≤ (k : Int):=by omega
  have h2 : (k : Int) < (xs.length : Int):=by omega
  simp only [atI,ixN,if_pos h1,if_pos h2,Option.bind_some,Int.toNat_natCast]
end
section
variable {EA : AX} {ρ : J0} {Q : AK} {DA : AEnds} {QB : Bool → J0 → Prop} {QL : List A → J0 → Prop} {x y : A} {d e z : D}
theorem JO8 {a b : AS} (k : a { DA with nx:=b DA } ρ) : Jw a b DA ρ:=k
theorem JFa (k : DA.nx ρ) : Yt DA ρ:=k
theorem JWw {ae : AE} (k : ae DA.ex ρ fun _ ρ'=>DA.nx ρ') : Wv ae DA ρ:=k
theorem JJ5 {ae : AE} (k : ae DA.ex ρ fun x ρ'=>Z9 x ρ' DA.rt) : Yd ae DA ρ:=k
theorem JZa (k : DA.rt (.v .non) ρ) : JXt DA ρ:=k
theorem JF9 {t : AT} {a b : AS} (k : t DA.ex ρ fun b' ρ'=>if b' = true then a DA ρ' else b DA ρ') : Yr t a b DA ρ:=k
theorem JV1 (k : DA.bk ρ) : JH0 DA ρ:=k
theorem JZ5 (k : DA.ct ρ) : JMc DA ρ:=k
theorem JJa {i : Nat} {ae : AE} (k : ae DA.ex ρ fun x ρ'=>Ze x ρ' i DA.nx) : Ym i ae DA ρ:=k
/-- the store itself -/
def JUd (o iv : A) (d : D) (ρ : J0) (nx : J0 → Prop) : Prop:=∃ j y i y',o = .loc j ∧ ρ[j]? = some (some y) ∧ dat iv ρ = some i ∧ F2 y i d = some y' ∧ Bf y ≤ 100000 ∧ nx (ρ.set j (some y'))
theorem T4 {av ao ai : AE} (k : av DA.ex ρ fun x ρ1=>Yl x ρ1 fun d ρ2=>ao DA.ex ρ2 fun o ρ3=>ai DA.ex ρ3 fun iv ρ4=>JUd o iv d ρ4 DA.nx) : Bc av ao ai DA ρ:=k
theorem N9 {j : Nat} {iv y y' : A} {i d : D} {nx : J0 → Prop} (h1 : ρ[j]? = some (some y)) (h2 : dat iv ρ = some i) (h3 : F2 y i d = some y') (h4 : Bf y ≤ 100000) (k : nx (ρ.set j (some y'))) : JUd (.loc j) iv d ρ nx:=⟨j,y,i,y',rfl,h1,h2,h3,h4,k⟩
theorem JXx {ai : AI} {ag : AG} {ab : AS} (k : ai DA.ex ρ fun xs G ρ'=>forA G ag ab DA xs ρ') : Wn ai ag ab DA ρ:=k
theorem A0 {rt : A → J0 → Prop} (k : rt (.v d) ρ) : Z9 (.v d) ρ rt:=k
theorem JU9 {xs : List D} {rt : A → J0 → Prop} (k : rt (.lst xs) ρ) : Z9 (.lst xs) ρ rt:=k
theorem JW4 {xs : List (Key × D)} {rt : A → J0 → Prop} (k : rt (.dic xs) ρ) : Z9 (.dic xs) ρ rt:=k
theorem JJu {C : Addr} {xs : List (Str × A)} {rt : A → J0 → Prop} (k : rt (.obj C xs) ρ) : Z9 (.obj C xs) ρ rt:=k
theorem T7 {i : Nat} {rt : A → J0 → Prop} (h : ρ[i]? = some (some y)) (k : rt y (ρ.set i none)) : Z9 (.loc i) ρ rt:=⟨y,h,k⟩
theorem JUq {i : Nat} {nx : J0 → Prop} (k : nx (ρ.set i (some (.v d)))) : Ze (.v d) ρ i nx:=k
theorem JWv {d : List D} {i : Nat} {nx : J0 → Prop} (k : nx (ρ.set i (some (.lst d)))) : Ze (.lst d) ρ i nx:=k
theorem JWa {d : List (Key × D)} {i : Nat} {nx : J0 → Prop} (k : nx (ρ.set i (some (.dic d)))) : Ze (.dic d) ρ i nx:=k
theorem Da {C : Addr} {d : List (Str × A)} {i : Nat} {nx : J0 → Prop} (k : nx (ρ.set i (some (.obj C d)))) : Ze (.obj C d) ρ i nx:=k
theorem Dj {k : D → J0 → Prop} (h : k d ρ) : Yl (.v d) ρ k:=h
theorem Ay {xs : List D} {k : D → J0 → Prop} (h : k (.lst xs) ρ) : Yl (.lst xs) ρ k:=h
theorem E7 {xs : List (Key × D)} {k : D → J0 → Prop} (h : k (.dic xs) ρ) : Yl (.dic xs) ρ k:=h
theorem Dc {C : Addr} {xs : List (Str × A)} {k : D → J0 → Prop} (h : k (.obj C (A.toDs xs)) ρ) : Yl (.obj C xs) ρ k:=h
theorem JVt {i : Nat} {xs : List D} {k : D → J0 → Prop} (h : ρ[i]? = some (some (.lst xs))) (hk : k (.lst xs) (ρ.set i (some (.v (.lst xs))))) : Yl (.loc i) ρ k:=⟨_,h,hk⟩
theorem Sq {i : Nat} {xs : List (Key × D)} {k : D → J0 → Prop} (h : ρ[i]? = some (some (.dic xs))) (hk : k (.dic xs) (ρ.set i (some (.v (.dic xs))))) : Yl (.loc i) ρ k:=⟨_,h,hk⟩
theorem JY1 {i : Nat} {k : D → J0 → Prop} (h : ρ[i]? = some (some (.v d))) (hk : k d (ρ.set i (some (.v d)))) : Yl (.loc i) ρ k:=⟨_,h,hk⟩
theorem JYl {k : List D → J0 → Prop} (h : k [] ρ) : Z6 [] ρ k:=h
theorem JW6 {xs : List A} {k : List D → J0 → Prop} (h : Yl x ρ fun d ρ'=>Z6 xs ρ' fun ds ρ''=>k (d :: ds) ρ'') : Z6 (x :: xs) ρ k:=h
theorem i_c (k : Q (.v d) ρ) : aC d EA ρ Q:=k
theorem Td {i : Nat} (h : ρ[i]? = some (some (.v d))) (k : Q (.v d) ρ) : J6 i EA ρ Q:=⟨d,h,k⟩
theorem A6 {i : Nat} (h : ρ[i]? = some (some y)) (k : Q (.loc i) ρ) : Y0 i EA ρ Q:=⟨⟨y,h⟩,k⟩
theorem Ca {ra : AR2} {aa ab : AE} (k : aa EA ρ fun x ρ1=>ab EA ρ1 fun y ρ2=>ra x y ρ2 Q) : aOp ra aa ab EA ρ Q:=k
theorem Cy {ra : AR1} {aa : AE} (k : aa EA ρ fun x ρ1=>ra x ρ1 Q) : aUn ra aa EA ρ Q:=k
/-- a truth value -/
def isB (x : A) (ρ : J0) (k : Bool → Prop) : Prop:=∃ b,dat x ρ = some (.bl b) ∧ k b
theorem Sk {b : Bool} {k : Bool → Prop} (h : dat x ρ = some (.bl b)) (hk : k b) : isB x ρ k:=⟨b,h,hk⟩
theorem Ti {ae : AE} (k : ae EA ρ fun x ρ1=>isB x ρ1 fun b=>QB b ρ1) : Y5 ae EA ρ QB:=k
theorem Sy {t u : AT} (k : t EA ρ fun b ρ1=>if b = true then u EA ρ1 QB else QB false ρ1) : Hf t u EA ρ QB:=k
theorem R5 {t u : AT} (k : t EA ρ fun b ρ1=>if b = true then QB true ρ1 else u EA ρ1 QB) : Uq t u EA ρ QB:=k
theorem Sr {t : AT} (k : t EA ρ fun b ρ1=>QB (!b) ρ1) : Uc t EA ρ QB:=k
theorem JUt {t u : AE} (k : t EA ρ fun x ρ1=>isB x ρ1 fun b=>if b = true then u EA ρ1 Q else Q (.v (.bl false)) ρ1) : W3 t u EA ρ Q:=k
theorem JJy {t u : AE} (k : t EA ρ fun x ρ1=>isB x ρ1 fun b=>if b = true then Q (.v (.bl true)) ρ1 else u EA ρ1 Q) : aOr t u EA ρ Q:=k
theorem D5 {t : AE} (k : t EA ρ fun x ρ1=>isB x ρ1 fun b=>Q (.v (.bl (!b))) ρ1) : Bp t EA ρ Q:=k
theorem JU5 {t : AT} {a b : AE} (k : t EA ρ fun c ρ1=>if c = true then a EA ρ1 Q else b EA ρ1 Q) : aIf t a b EA ρ Q:=k
def Ry (ra rb : AR2) (ac : AE) (EA : AX) (Q : AK) (x y : A) (ρ : J0) : Prop:=∃ dy,y = .v dy ∧ ra x y ρ fun z ρ3=>isB z ρ3 fun b=>if b = true then ac EA ρ3 fun w ρ4=>rb (.v dy) w ρ4 Q else Q (.v (.bl false)) ρ3
theorem Te {ra rb : AR2} {aa ab ac : AE} (k : aa EA ρ fun x ρ1=>ab EA ρ1 fun y ρ2=>Ry ra rb ac EA Q x y ρ2) : Zh ra rb aa ab ac EA ρ Q:=k
theorem Eb {ra rb : AR2} {ac : AE} (k : ra x (.v d) ρ fun z ρ3=>isB z ρ3 fun b=>if b = true then ac EA ρ3 fun w ρ4=>rb (.v d) w ρ4 Q else Q (.v (.bl false)) ρ3) : Ry ra rb ac EA Q x (.v d) ρ:=⟨d,rfl,k⟩
theorem JZn (k : QL [] ρ) : Ja EA ρ QL:=k
theorem Aq {ae : AE} {aa : AA} (k : ae EA ρ fun x ρ1=>aa EA ρ1 fun xs ρ2=>QL (x :: xs) ρ2) : J1 ae aa EA ρ QL:=k
theorem A8 {aa : AA} (k : aa EA ρ fun xs ρ1=>xs.length ≤ 1000 ∧ Z6 xs ρ1 fun ds ρ2=>Q (.v (.tup ds)) ρ2) : Wa aa EA ρ Q:=k
theorem Cw {aa : AA} (k : aa EA ρ fun xs ρ1=>xs.length ≤ 1000 ∧ Z6 xs ρ1 fun ds ρ2=>Q (.lst ds) ρ2) : Vd aa EA ρ Q:=k
theorem JZu {xs : List A} {p : Prop} (h : xs.length ≤ 1000) (k : p) : xs.length ≤ 1000 ∧ p:=⟨h,k⟩
theorem Cg (k : Q (.dic []) ρ) : Ha EA ρ Q:=k
theorem JVx {ra : ARs} {aa : AA} (k : aa EA ρ fun xs ρ1=>ra xs ρ1 Q) : aCB ra aa EA ρ Q:=k
theorem JYs {ae : AE} (k : ae EA ρ fun x ρ1=>Yl x ρ1 fun d ρ2=>Q (.v d) ρ2) : Ud ae EA ρ Q:=k
theorem Zw {i : D} (h1 : dat x ρ = some d) (h2 : dat y ρ = some i) (h3 : itD d i = some z) (k : Q (.v z) ρ) : aIx x y ρ Q:=⟨d,i,z,h1,h2,h3,k⟩
theorem Rb (h1 : dat x ρ = some d) (h2 : dat y ρ = some e) (k : Xf d e fun z=>Q z ρ) : Vc x y ρ Q:=⟨d,e,h1,h2,k⟩
theorem D1 {i j : Int} {q : A → Prop} (k : q (.v (.int (i + j)))) : Xf (.int i) (.int j) q:=k
theorem Q2 {i j : Str} {q : A → Prop} (h : i.length + j.length ≤ 100000) (k : q (.v (.str (i ++ j)))) : Xf (.str i) (.str j) q:=⟨h,k⟩
theorem Ai {i j : List D} {q : A → Prop} (h : i.length + j.length ≤ 100000) (k : q (.v (.tup (i ++ j)))) : Xf (.tup i) (.tup j) q:=⟨h,k⟩
theorem JJ1 {i j : List D} {q : A → Prop} (h : i.length + j.length ≤ 100000) (k : q (.lst (i ++ j))) : Xf (.lst i) (.lst j) q:=⟨h,k⟩
variable {i j : Int}
theorem Sn (h1 : dat x ρ = some (.int i)) (h2 : dat y ρ = some (.int j)) (k : Q (.v (.int (i - j))) ρ) : Bq x y ρ Q:=⟨i,j,h1,h2,k⟩
theorem JUi (h1 : dat x ρ = some (.int i)) (h2 : dat y ρ = some (.int j)) (k : Q (.v (.bl (decide (i < j)))) ρ) : aLt x y ρ Q:=⟨i,j,h1,h2,k⟩
theorem JYq (h1 : dat x ρ = some (.int i)) (h2 : dat y ρ = some (.int j)) (k : Q (.v (.bl (decide (i ≤ j)))) ρ) : aLe x y ρ Q:=⟨i,j,h1,h2,k⟩
theorem JVr (h1 : dat x ρ = some (.int i)) (h2 : dat y ρ = some (.int j)) (k : Q (.v (.bl (decide (j < i)))) ρ) : aGt x y ρ Q:=⟨i,j,h1,h2,k⟩
theorem Do (h1 : dat x ρ = some (.int i)) (h2 : dat y ρ = some (.int j)) (k : Q (.v (.bl (decide (j ≤ i)))) ρ) : aGe x y ρ Q:=⟨i,j,h1,h2,k⟩
theorem JV3 (h1 : dat x ρ = some (.int i)) (h2 : dat y ρ = some (.int j)) (hc : CMul i j) (k : Q (.v (.int (i * j))) ρ) : X2 x y ρ Q:=⟨i,j,h1,h2,hc,k⟩
theorem Tw (h1 : dat x ρ = some (.int i)) (h2 : dat y ρ = some (.int j)) (hc : 0 < j) (k : Q (.v (.int (i % j))) ρ) : X8 x y ρ Q:=⟨i,j,h1,h2,hc,k⟩
theorem JZw (h1 : dat x ρ = some (.int i)) (h2 : dat y ρ = some (.int j)) (hc : CPow i j) (k : Q (.v (.int (i ^ j.toNat))) ρ) : Bo x y ρ Q:=⟨i,j,h1,h2,hc,k⟩
theorem Cc (h1 : dat x ρ = some (.int i)) (h2 : dat y ρ = some (.int j)) (hc : CDivW i j) (k : Q (.v (.int (i / j))) ρ) : Xq x y ρ Q:=⟨i,j,h1,h2,hc,k⟩
theorem JVy (h1 : dat x ρ = some (.int i)) (k : Q (.v (.int (-i))) ρ) : Lj x ρ Q:=⟨i,h1,k⟩
theorem Od (h1 : dat x ρ = some d) (h2 : dat y ρ = some e) (p1 : PlD 20 d) (p2 : PlD 20 e) (k : Q (.v (.bl (deq d e))) ρ) : aEq x y ρ Q:=⟨d,e,h1,h2,p1,p2,k⟩
theorem Nb (h1 : dat x ρ = some d) (h2 : dat y ρ = some e) (p1 : PlD 20 d) (p2 : PlD 20 e) (k : Q (.v (.bl (!deq d e))) ρ) : aNe x y ρ Q:=⟨d,e,h1,h2,p1,p2,k⟩
theorem Ek (h1 : dat x ρ = some d) (h2 : dat y ρ = some .non) (k : Q (.v (.bl (isNon d))) ρ) : aIs x y ρ Q:=⟨d,h1,h2,k⟩
theorem JVj (h1 : dat x ρ = some d) (h2 : dat y ρ = some .non) (k : Q (.v (.bl (!isNon d))) ρ) : La x y ρ Q:=⟨d,h1,h2,k⟩
theorem JXh {b : Bool} (h1 : dat x ρ = some d) (h2 : dat y ρ = some e) (h : InD d e b) (k : Q (.v (.bl (!b))) ρ) : aIn true x y ρ Q:=⟨d,e,b,h1,h2,h,k⟩
theorem Rj {n : Nat} (h1 : dat x ρ = some d) (h2 : Ue d = some n) (k : Q (.v (.int n)) ρ) : Uo [x] ρ Q:=⟨x,d,n,rfl,h1,h2,k⟩
theorem JYt (h1 : dat x ρ = some (.int i)) (k : Q (.v (.int i)) ρ) : Ww [x] ρ Q:=⟨x,rfl,.inl ⟨i,h1,k⟩⟩
theorem E9 {ys : List D} (h1 : dat x ρ = some d) (h2 : Gj d = some ys) (k : Q (.lst ys) ρ) : Kb [x] ρ Q:=⟨x,d,ys,rfl,h1,h2,k⟩
theorem JYz (h1 : dat x ρ = some (.int i)) (h2 : dat y ρ = some (.int j)) (k : Q (.v (.int (if j > i then j else i))) ρ) : L5 [x,y] ρ Q:=⟨x,y,i,j,rfl,h1,h2,k⟩
theorem R3 (h1 : dat x ρ = some (.int i)) (h2 : dat y ρ = some (.int j)) (k : Q (.v (.int (if j < i then j else i))) ρ) : Lq [x,y] ρ Q:=⟨x,y,i,j,rfl,h1,h2,k⟩
theorem P2 {ys : List D} (h1 : dat x ρ = some (.lst ys)) (k : Q (.v (.tup ys)) ρ) : Xw [x] ρ Q:=⟨x,_,ys,rfl,h1,.inl rfl,k⟩
theorem Mw {ys : List D} (h1 : dat x ρ = some (.tup ys)) (k : Q (.v (.tup ys)) ρ) : Xw [x] ρ Q:=⟨x,_,ys,rfl,h1,.inr rfl,k⟩
theorem Fp {bs : List Bool} (h1 : dat x ρ = some (.lst (bs.map D.bl))) (k : Q (.v (.bl (bs.all id))) ρ) : Xb [x] ρ Q:=⟨x,bs,rfl,h1,k⟩
def JJo (o : A) (d : D) (ρ : J0) (Q : AK) : Prop:=∃ j xs,o = .loc j ∧ ρ[j]? = some (some (.lst xs)) ∧ xs.length ≤ 100000 ∧ Q (.v .non) (ρ.set j (some (.lst (xs ++ [d]))))
def isL (o : A) (ρ : J0) (p : Prop) : Prop:=(∃ xs,dat o ρ = some (.lst xs)) ∧ p
theorem JYg {xs : List D} {p : Prop} (h : dat x ρ = some (.lst xs)) (k : p) : isL x ρ p:=⟨⟨xs,h⟩,k⟩
theorem JU7 {ao ae : AE} (k : ao EA ρ fun o ρ1=>isL o ρ1 (ae EA ρ1 fun x ρ2=>Yl x ρ2 fun d ρ3=>JJo o d ρ3 Q)) : B9 ao ae EA ρ Q:=k
theorem Tf {j : Nat} {xs : List D} (h1 : ρ[j]? = some (some (.lst xs))) (h2 : xs.length ≤ 100000) (k : Q (.v .non) (ρ.set j (some (.lst (xs ++ [d]))))) : JJo (.loc j) d ρ Q:=⟨j,xs,rfl,h1,h2,k⟩
theorem Sl {c : Prop} [Decidable c] {p q : Prop} (h1 : c → p) (h2 : ¬c → q) : if c then p else q:=by
  split
  · exact h1 ‹_›
  · exact h2 ‹_›
end
section
variable {ρ : J0} {i : Nat}
theorem Jh {d : D} : dat (.v d) ρ = some d:=rfl
theorem Jj {d : List D} : dat (.lst d) ρ = some (.lst d):=rfl
theorem Jt {d : List (Key × D)} : dat (.dic d) ρ = some (.dic d):=rfl
theorem Jp {C : Addr} {d : List (Str × A)} : dat (.obj C d) ρ = some (.obj C (A.toDs d)):=rfl
theorem Lw {y : A} (h : ρ[i]? = some (some y)) : dat (.loc i) ρ = some y.toD:=by
  unfold dat
  simp only [h]
theorem Jq {d : D} (h : ρ[i]? = some (some (.v d))) : dat (.loc i) ρ = some d:=Lw h
theorem Jr {d : List D} (h : ρ[i]? = some (some (.lst d))) : dat (.loc i) ρ = some (.lst d):=Lw h
theorem Ju {d : List (Key × D)} (h : ρ[i]? = some (some (.dic d))) : dat (.loc i) ρ = some (.dic d):=Lw h
theorem Jv {C : Addr} {d : List (Str × A)} (h : ρ[i]? = some (some (.obj C d))) : dat (.loc i) ρ = some (.obj C (A.toDs d)):=Lw h
end
section
theorem Q9 {n : Nat} {i : Int} : PlD (n + 1) (.int i):=by simp only [PlD]
theorem G2 {n : Nat} {i : Str} : PlD (n + 1) (.str i):=by simp only [PlD]
theorem T6 {n : Nat} {i : Bool} : PlD (n + 1) (.bl i):=by simp only [PlD]
theorem Cb {n : Nat} : PlD (n + 1) .non:=by simp only [PlD]
theorem JJz {xs : List D} : Bf (.lst xs) ≤ 100000:=Nat.zero_le _
theorem JUw {p q : Prop} (k : p) : if true = true then p else q:=by rw [if_pos rfl]; exact k
theorem JJ7 {p q : Prop} (k : q) : if false = true then p else q:=by rw [if_neg Bool.false_ne_true]; exact k
theorem Mj {i j : Int} : deq (.int i) (.int j) = decide (i = j):=by
  simp only [deq]
  rw [Bool.eq_iff_iff]
  simp
theorem Zj {i j : Str} : deq (.str i) (.str j) = decide (i = j):=by
  simp only [deq]
  rw [Bool.eq_iff_iff]
  simp
end
end Vs
namespace Vs
open PySem PySem.Spec PyProof.Rows L2
variable [Tbs]
def lkA (x : A) (ρ : J0) : Option A:=match x with
  | .loc i=>(match ρ[i]? with
    | some (some y)=>some y
    | _=>none)
  | y=>some y
def X3 (y : A) (C : Addr) (f : Str) : Option D:=match y with
  | .v (.obj C' fs)=>if C' = C then fs.lookup f else none
  | .obj C' fs=>if C' = C then (match fs.lookup f with
    | some (.v d)=>some d
    | _=>none) else none
  | _=>none
section
variable {X : Cx} {P : Pm} {K : Fg} {c : Ctx} {S H : Hp} {σ : L2.St} {ρ : J0} {τ : List (V × A)} {v : V} {x : A} {pos : Pos}
theorem Stt.held2 {y : A} (s : Stt K c S H σ ρ τ) (m : (v,x) ∈ τ) (h : lkA x ρ = some y) : ∃ g,RepA K S H y v g:=by
  cases hx : Yg x with
  | false =>
    have e : y = x:=by
      cases x <;> first | (simp only [lkA] at h; exact (Option.some.inj h).symm) | cases hx
    subst e
    obtain ⟨fp,h1,_,_⟩:=s.own
    obtain ⟨g,a1,_⟩:=RepP.pick h1 (v:=v) (x:=y) (List.mem_append_right _ (by
      have : ∀ {τ : List (V × A)},(v,y) ∈ τ → (v,y) ∈ Yc τ:=fun {τ} m=>List.mem_filter.mpr ⟨m,by
        cases y <;> first | rfl | cases hx⟩
      exact this m))
    exact ⟨g,a1⟩
  | true =>
    cases x with
    | loc i =>
      obtain ⟨hv,z,hz⟩:=s.loc v i m
      simp only [lkA,hz] at h
      have e:=Option.some.inj h
      subst e
      exact s.slotA hz hv
    | _=>cases hx
theorem JFo {y : A} {C : Addr} {f : Str} {d : D} {g : List Addr} (hl : Le S H) (r : RepA K S H y v g) (h : X3 y C f = some d) : ∃ a dx ws u,v = .ref a ∧ H a = some (.ins C dx ws) ∧ ws.lookup f = some u ∧ Rep K S d u:=by
  cases y with
  | v e =>
    cases e with
    | obj C' fs =>
      simp only [X3] at h
      split at h
      · rename_i hc
        subst hc
        simp only [RepA,Rep] at r
        obtain ⟨⟨a,dx,ws,rfl,h1,h2⟩,_⟩:=r
        rcases Ho (m:=f) h2 with ⟨e1,_⟩ | ⟨d',u,e1,e2,e3⟩
        · rw [e1] at h; cases h
        · rw [h] at e1; cases e1
          exact ⟨a,dx,ws,u,rfl,D7 hl h1,e2,e3⟩
      · cases h
    | _=>cases h
  | obj C' fs =>
    simp only [X3] at h
    split at h
    · rename_i hc
      subst hc
      simp only [RepA] at r
      obtain ⟨a,dx,ws,g',rfl,h1,h2,_⟩:=r
      have look : ∀ {fs : List (Str × A)} {ws : List (Str × V)} {g : List Addr},RepAF K S H fs ws g → fs.lookup f = some (.v d) → ∃ u,ws.lookup f = some u ∧ Rep K S d u:=by
        intro fs
        induction fs with
        | nil=>intro ws g _ e; simp at e
        | cons p r ih =>
          obtain ⟨k,x⟩:=p
          intro ws g h e
          simp only [RepAF] at h
          obtain ⟨u,r',g1,g2,rfl,h1,h2,_⟩:=h
          by_cases hk : f = k
          · subst hk
            have e' : x = .v d:=by simpa [List.lookup] using e
            subst e'
            simp only [RepA] at h1
            exact ⟨u,by simp [List.lookup],h1.1⟩
          · have q : (f == k) = false:=by simpa using hk
            obtain ⟨u',a1,a2⟩:=ih h2 (by simpa [List.lookup,q] using e)
            exact ⟨u',by simpa [List.lookup,q] using a1,a2⟩
      cases e : fs.lookup f with
      | none=>rw [e] at h; cases h
      | some z =>
        rw [e] at h
        cases z with
        | v d' =>
          have e2 : d' = d:=by simpa using h
          subst e2
          obtain ⟨u,a1,a2⟩:=look h2 e
          exact ⟨a,dx,ws,u,rfl,h1,a1,a2⟩
        | _=>cases h
    · cases h
  | _=>cases h
def Kg (C : Addr) (f : Str) : AR1:=fun x ρ Q=>∃ y d,lkA x ρ = some y ∧ X3 y C f = some d ∧ Q (.v d) ρ
theorem JBp {e : Expr} {C : Addr} {f : Str} {ae : AE} (hc : Cls X.K C) (hn : NoAttr X.K C f) (he : QE X P e ae) (hb : attributeBase e f X.env (eval e X.env) = eval e X.env:=by rfl) : QE X P (.Attribute e f pos) (aUn (Kg C f) ae):=by
  obtain ⟨t,p,s⟩:=he.ex
  refine ⟨_,pe_fld p hb,fun c EA ho hw τ S H σ ρ Q R st q k=>s c EA ho hw τ S H σ ρ _ _ st q fun v H1 ⟨S1,ρ1,x,s1,y,d,h1,h2,q1⟩=>?_⟩
  obtain ⟨g,r⟩:=s1.held2 (List.mem_cons_self ..) h1
  obtain ⟨a,dx,ws,u,rfl,e1,e2,e3⟩:=JFo s1.le r h2
  exact ⟨a,C,dx,ws,u,rfl,e1,hc,hn,e2,k _ _ ⟨S1,ρ1,.v d,s1.drop.hold e3,q1⟩⟩
/-- self.f = e,self an owned instance in a slot -/
def Z1 (f : Str) (d : D) : List (Str × A) → List (Str × A)
  | []=>[(f,.v d)]
  | (g,x) :: r=>if g = f then (g,.v d) :: r else (g,x) :: Z1 f d r
def L7 (C : Addr) (f : Str) (av ao : AE) : AS:=fun DA ρ=>av DA.ex ρ fun x ρ1=>Yl x ρ1 fun d ρ2=>ao DA.ex ρ2 fun o ρ3=>∃ j fs,o = .loc j ∧ ρ3[j]? = some (some (.obj C fs)) ∧ (∀ p ∈ fs,∃ d,p.2 = .v d) ∧ fs.length ≤ 100 ∧ DA.nx (ρ3.set j (some (.obj C (Z1 f d fs))))
theorem Ml : ∀ {fs : List (Str × A)} {ws : List (Str × V)} {g : List Addr},(∀ p ∈ fs,∃ d,p.2 = A.v d) → RepAF K S H fs ws g → g = [] ∧ ws.length = fs.length
  | [],ws,g,_,h=>by
    simp only [RepAF] at h
    exact ⟨h.2,by rw [h.1]; rfl⟩
  | (k,x) :: r,ws,g,hv,h=>by
    simp only [RepAF] at h
    obtain ⟨u,r',g1,g2,rfl,h1,h2,rfl⟩:=h
    obtain ⟨d,e⟩:=hv (k,x) (by simp)
    have e' : x = .v d:=e
    subst e'
    simp only [RepA] at h1
    obtain ⟨e1,e2⟩:=Ml (fun p hp=>hv p (by simp [hp])) h2
    exact ⟨by rw [h1.2,e1]; rfl,by simp [e2]⟩
theorem JU6 {H' : Hp} {f : Str} {d : D} {u : V} (hd : Rep K S d u) : ∀ {fs : List (Str × A)} {ws : List (Str × V)} {g : List Addr},(∀ p ∈ fs,∃ d,p.2 = A.v d) → RepAF K S H fs ws g → RepAF K S H' (Z1 f d fs) (putF f u ws) []
  | [],ws,g,_,h=>by
    simp only [RepAF] at h
    obtain ⟨rfl,_⟩:=h
    simp only [Z1,putF,RepAF]
    exact ⟨u,[],[],[],rfl,RepA.ofv hd,⟨rfl,rfl⟩,rfl⟩
  | (k,x) :: r,ws,g,hv,h=>by
    simp only [RepAF] at h
    obtain ⟨w,r',g1,g2,rfl,h1,h2,rfl⟩:=h
    obtain ⟨d',e⟩:=hv (k,x) (by simp)
    have e' : x = .v d':=e
    subst e'
    simp only [RepA] at h1
    have same : ∀ {fs : List (Str × A)} {ws : List (Str × V)} {g : List Addr},(∀ p ∈ fs,∃ d,p.2 = A.v d) → RepAF K S H fs ws g → RepAF K S H' fs ws []:=by
      intro fs
      induction fs with
      | nil=>intro ws g _ h; simp only [RepAF] at h ⊢; exact ⟨h.1,trivial⟩
      | cons p r ih =>
        obtain ⟨k2,x2⟩:=p
        intro ws g hv h
        simp only [RepAF] at h ⊢
        obtain ⟨u2,r2,g3,g4,rfl,a1,a2,rfl⟩:=h
        obtain ⟨d2,e2⟩:=hv (k2,x2) (by simp)
        have e3 : x2 = .v d2:=e2
        subst e3
        simp only [RepA] at a1
        exact ⟨u2,r2,[],[],rfl,RepA.ofv a1.1,ih (fun p hp=>hv p (by simp [hp])) a2,rfl⟩
    simp only [Z1,putF]
    by_cases hk : k = f
    · rw [if_pos hk,if_pos hk]
      simp only [RepAF]
      exact ⟨u,r',[],[],rfl,RepA.ofv hd,same (fun p hp=>hv p (by simp [hp])) h2,rfl⟩
    · rw [if_neg hk,if_neg hk]
      simp only [RepAF]
      exact ⟨w,_,[],[],rfl,RepA.ofv h1.1,JU6 hd (fun p hp=>hv p (by simp [hp])) h2,rfl⟩
theorem JB3 {o e : Expr} {C : Addr} {f : Str} {av ao : AE} {pos' : Pos} (hc : Cls X.K C) (hn : NoAttr X.K C f) (hv : QE X P e av) (ho' : QE X P o ao) (hs : swapsWith e (some (.Attribute o f pos')) pos.line X.env = pure false:=by rfl) :
    QS X P (.Assign [.Attribute o f pos'] e pos) (L7 C f av ao):=by
  obtain ⟨tv,pv,sv⟩:=hv.ex
  obtain ⟨to,po,so⟩:=ho'.ex
  refine ⟨_,ps_fld po pv hs,fun c D DA ho hw l S H σ ρ st q=>sv c DA.ex ho hw [] S H σ ρ _ _ st q fun v H1 ⟨S1,ρ1,y,s1,q1⟩=>?_⟩
  obtain ⟨S2,d,ρ2,sm,s2,q2⟩:=W9 s1 q1
  refine so c DA.ex ho hw _ S2 H1 σ ρ2 _ _ s2 q2 fun vo H2 ⟨S3,ρ3,xo,s3,j,fs,eo,hj,hall,hlen,q3⟩=>?_
  subst eo
  have hvo : σ[j]? = some (some vo):=(s3.loc vo j (by simp)).1
  obtain ⟨g,ra⟩:=s3.slotA hj hvo
  have rd : Rep X.K S3 d v:=s3.dataMem (by simp)
  simp only [RepA] at ra
  obtain ⟨a,dx,ws,g',rfl,h1,h2,rfl⟩:=ra
  obtain ⟨rfl,hl⟩:=Ml hall h2
  refine ⟨a,C,dx,ws,rfl,h1,hc,hn,by omega,?_⟩
  have s5:=s3.write (o:=.ins C dx (putF f v ws)) (y':=.obj C (Z1 f d fs)) hj hvo (fun g' h=>by
    simp only [RepA] at h
    obtain ⟨a',dx',ws',g2,e,h3,h4,e2⟩:=h
    cases e
    obtain ⟨rfl,_⟩:=Ml hall h4
    exact e2) rfl (by
      simp only [RepA]
      exact ⟨a,dx,_,[],rfl,upd_same,JU6 rd hall h2,by first | rfl | trivial⟩)
  exact l.nx S3 _ σ _ s5.drop.drop q3
/-- what isinstance asks of an own class -/
structure ClsI (K : Fg) (C : Addr) : Prop where
  cl : Cls K C
  ha : PySem.W.findIn K (.ref C) "__class__" = some (some (.builtin "object.__class__"))
  hn : PySem.W.specialIn K (.builtin "object.__class__") "__get__" = some (some (.builtin "getset_descriptor.__get__"))
  htk : PySem.W.takesIn K (.builtin "object.__class__") = some true
  hm : PySem.W.mroIn K C (.type "object") = some true
def tyD : D → Option Value
  | .non=>some (.type "NoneType")
  | .bl _=>some (.type "bool")
  | .int _=>some (.type "int")
  | .str _=>some (.type "str")
  | .ty _=>none
  | .any=>none
  | .lst _=>some (.type "list")
  | .tup _=>some (.type "tuple")
  | .dic _=>some (.type "dict")
  | .obj C _=>some (.ref C)
theorem Cr {d : D} {t : Value} (hC : ∀ C fs,d = .obj C fs → ClsI K C) (h : tyD d = some t) (r : Rep K H d v) : TyX K H v t:=by
  cases d with
  | non=>simp only [tyD] at h; cases h; simp only [Rep] at r; subst r; exact .base .non
  | bl b=>simp only [tyD] at h; cases h; simp only [Rep] at r; subst r; exact .base (.bl b)
  | int b=>simp only [tyD] at h; cases h; simp only [Rep] at r; subst r; exact .base (.int b)
  | str b=>simp only [tyD] at h; cases h; simp only [Rep] at r; subst r; exact .base (.str b)
  | ty n=>cases h
  | any=>cases h
  | lst xs =>
    simp only [tyD] at h; cases h
    simp only [Rep] at r
    obtain ⟨a,vs,rfl,h1,_⟩:=r
    rcases h1 with h1 | ⟨o,its,n,hk,hc,_⟩
    · rcases h1 with h1 | ⟨o,h1⟩
      · exact .base (.lst h1)
      · exact .base (.frz h1)
    · exact .kList hk hc
  | tup xs =>
    simp only [tyD] at h; cases h
    simp only [Rep] at r
    obtain ⟨a,vs,rfl,h1,_⟩:=r
    rcases h1 with h1 | ⟨o,its,n,hk,hc,_⟩
    · rcases h1 with h1 | ⟨o,h1⟩
      · exact .base (.tup h1)
      · exact .fTuple h1
    · exact .kTuple hk hc
  | dic xs =>
    simp only [tyD] at h; cases h
    simp only [Rep] at r
    obtain ⟨a,vs,rfl,h1,_⟩:=r
    rcases h1 with h1 | ⟨o,h1⟩
    · exact .base (.dK h1)
    · exact .fDict h1
  | obj C fs =>
    simp only [tyD] at h; cases h
    simp only [Rep] at r
    obtain ⟨a,dx,vs,rfl,h1,_⟩:=r
    have c:=hC C fs rfl
    exact .base (.ins h1 c.cl c.ha c.hn c.htk c.hm)
/-- isinstance(x,c): what the tables say -/
def Wi (K : Fg) (d : D) (us : List Value) (b : Bool) : Prop:=∃ t,tyD d = some t ∧ (∀ C fs,d = .obj C fs → ClsI K C) ∧ PySem.W.kitAny K t us = some b
def Uv (K : Fg) (us : List Value) : AR1:=fun x ρ Q=>∃ d b,dat x ρ = some d ∧ Wi K d us b ∧ Q (.v (.bl b)) ρ
theorem JKk {K : Fg} {t u : Value} {b : Bool} (h : PySem.W.kitAny K t [u] = some b) : PySem.W.kitOne K t u = some b:=by
  unfold PySem.W.kitAny at h
  cases e : PySem.W.kitOne K t u with
  | none=>rw [e] at h; cases h
  | some r =>
    rw [e] at h
    cases r with
    | true=>exact h
    | false =>
      have h' : PySem.W.kitAny K t [] = some b:=h
      exact h'
/-- a class by its name -/
structure QC (X : Cx) (e : Expr) (u : Value) : Prop where
  ex : ∃ v,PE X e (tC v) ∧ ClsV v u
theorem Ve {x : Str} {n : String} (hg : Gl X x) (hm : X.mg x = none) (hv : bootBuiltins x = some (.type n)) (hd : (x == ("__debug__" : Str)) = false:=by decide) (hn : x ≠ "__name__":=by decide) : QC X (.Name x pos) (.type n):=⟨.ty n,pe_bltn hg hm hv rfl hn hd,.ty n⟩
theorem Nm {x : Str} {C : Addr} (hg : Gl X x) (hm : X.mg x = some (.ref C)) (hd : (x == ("__debug__" : Str)) = false:=by decide) : QC X (.Name x pos) (.ref C):=⟨.ref C,pe_glob hg hm rfl hd,.own C⟩
theorem Vn {e c : Expr} {u : Value} {ae : AE} {p : Pos} (hg : Gl X "isinstance") (hm : X.mg "isinstance" = none) (he : QE X P e ae) (hc : QC X c u) (hs : starEach [e,c] X.env = (false,eval e X.env) :: starEach [c] X.env:=by rfl) (hs2 : starEach [c] X.env = (false,eval c X.env) :: starEach [] X.env:=by rfl)
    (hpl : (backTo pos (starEach [c] X.env)).any (·.1) = false:=by rfl) : QE X P (.Call (.Name "isinstance" p) [e,c] [] pos) (aUn (Uv X.K [u]) ae):=by
  obtain ⟨t,pe,s⟩:=he.ex
  obtain ⟨v,pc,k⟩:=hc.ex
  refine ⟨_,pe_callB call_isi hg hm PyProof.Rows.boot_isinstance (pa_cons pe (pa_cons pc pa_nil hs2) hs) (by decide) (by decide) hs hpl,fun c EA ho hw τ S H σ ρ Q R st q kk=>s c EA ho hw τ S H σ ρ _ _ st q fun vx H1 ⟨S1,ρ1,x,s1,d,b,h1,⟨ty,h2,h3,h4⟩,q1⟩=>?_⟩
  exact ⟨vx,v,ty,u,b,rfl,k,Cr h3 h2 (s1.dat (List.mem_cons_self ..) h1),JKk h4,kk _ _ (KE.sc s1.drop rfl q1)⟩
theorem JPq {e c c2 : Expr} {u u2 : Value} {ae : AE} {p tp : Pos} {j : Nat} (hg : Gl X "isinstance") (hm : X.mg "isinstance" = none) (he : QE X P e ae) (hc : QC X c u) (hc2 : QC X c2 u2) (hs : starEach [e,.Tuple [c,c2] j tp] X.env = (false,eval e X.env) :: starEach [.Tuple [c,c2] j tp] X.env:=by rfl) (hs2 : starEach [.Tuple [c,c2] j tp] X.env = (false,eval (.Tuple [c,c2] j tp) X.env) :: starEach [] X.env:=by rfl)
    (hs3 : starEach [c,c2] X.env = (false,eval c X.env) :: starEach [c2] X.env:=by rfl) (hs4 : starEach [c2] X.env = (false,eval c2 X.env) :: starEach [] X.env:=by rfl)
    (hpl : (backTo pos (starEach [.Tuple [c,c2] j tp] X.env)).any (·.1) = false:=by rfl) : QE X P (.Call (.Name "isinstance" p) [e,.Tuple [c,c2] j tp] [] pos) (aUn (Uv X.K [u,u2]) ae):=by
  obtain ⟨t,pe,s⟩:=he.ex
  obtain ⟨v,pc,k⟩:=hc.ex
  obtain ⟨v2,pc2,k2⟩:=hc2.ex
  refine ⟨_,pe_callB call_isiT hg hm PyProof.Rows.boot_isinstance (pa_cons pe (pa_cons (pe_tup (pa_cons pc (pa_cons pc2 pa_nil hs4) hs3)) pa_nil hs2) hs) (by decide) (by decide) hs hpl,fun c EA ho hw τ S H σ ρ Q R st q kk=>s c EA ho hw τ S H σ ρ _ _ st q fun vx H1 ⟨S1,ρ1,x,s1,d,b,h1,⟨ty,h2,h3,h4⟩,q1⟩=>?_⟩
  refine ⟨show 2 ≤ sizeLine by decide,fun tp hp=>?_⟩
  have s2 : Stt X.K c S1 (upd H1 tp (.tup [v,v2])) σ ρ1 ((vx,x) :: τ):=s1.beside hp
  exact ⟨vx,tp,[v,v2],ty,[u,u2],b,rfl,upd_same,.cons k (.cons k2 .nil),Cr h3 h2 (s2.dat (List.mem_cons_self ..) h1),h4,kk _ _ (KE.sc s2.drop rfl q1)⟩
/-- an own exception's __init__: self.f = x -/
def Au (C : Addr) (f : Str) : Sp:=fun vs H Q _=>∃ a y,vs = [.ref a,y] ∧ H a = some (exo a C none) ∧ ∀ dx,H dx = none → dx ≠ a → Q .non (upd (upd H dx (exd dx [(f,y)])) a (exo a C (some dx)))
def B0 (C : Addr) (f : Str) (ae : AE) : AS:=fun DA ρ=>ae DA.ex ρ fun x ρ1=>Yl x ρ1 fun d ρ2=>DA.ex C [(f,d)] ρ2
/-- what a raise leans on -/
structure Rai (Pr : Program) (w : World) (K : Fg) (mg : Str → Option Value) (base : Heap) (x : Str) (C : Addr) (f : Str) (k : Nat) : Prop where
  ox : OexC K C
  gx : mg x = some (.ref C)
  ex : ∃ fI fd ps,PySem.W.findIn K (.ref C) "__init__" = some (some (.ref fI)) ∧ PySem.W.typeIn K (.ref fI) = some (.type "function") ∧ Binds K fd ps [] ∧ FnOk Pr w K mg base (L2.CX Pr w) k fI fd ps (Au C f)
theorem JOb {CX : CXT} {X : Cx} (h : ∀ st H s e s',¬ CX st H s (fun _ _ _=>False) e s') : Passes CX X (fun _ _ _=>False):=fun pins σ H s e s' I c=>(h _ _ _ _ _ c).elim
theorem JHq {H1 : Hp} {a dx C : Addr} {fs : List (Str × V)} (ha : H1 a = none) (hne : dx ≠ a) : upd (L2.del (upd (upd (upd H1 a (exo a C none)) dx (exd dx fs)) a (exo a C (some dx))) a) dx (.xd fs) = upd H1 dx (.xd fs):=by
  funext b
  by_cases h1 : b = dx
  · rw [h1,upd_same,upd_same]
  · rw [upd_ne h1,upd_ne h1]
    by_cases h2 : b = a
    · rw [h2,L2.del_same,ha]
    · rw [L2.del_ne h2,upd_ne h2,upd_ne h1,upd_ne h2]
theorem Pf {Pr : Program} {w : World} : ∀ st H s e s',¬ L2.CX Pr w st H s (fun _ _ _=>False) e s':=fun st H s e s' c=>by
  unfold L2.CX at c
  first
    | exact c.elim
    | (obtain ⟨_,_,_,_,_,_,_,_,_,_,_,_,_,_,_,h⟩:=c; exact h)
    | (obtain ⟨_,_,_,_,_,_,_,_,_,_,_,_,_,_,h⟩:=c; exact h)
    | (obtain ⟨_,_,_,_,_,_,_,_,_,_,_,_,_,h⟩:=c; exact h)
    | (obtain ⟨_,_,_,_,_,_,_,_,_,_,_,_,h⟩:=c; exact h)
theorem Hw {x : Str} {C : Addr} {f : Str} {k : Nat} {e : Expr} {ae : AE} {p cpos : Pos} (R : Rai X.prog X.w X.K X.mg X.base x C f k) (hc : X.calm = true) (tk : Takes X P.W) (hr : Room (k + 1) X.A) (hg : Gl X x) (he : QE X P e ae) (hdb : (x == ("__debug__" : Str)) = false:=by decide) (hs : starEach [e] X.env = (false,eval e X.env) :: starEach [] X.env:=by rfl) (hpl : (backTo cpos (starEach [] X.env)).any (·.1) = false:=by rfl) :
    QS X P (.Raise (some (.Call (.Name x p) [e] [] cpos)) none pos) (B0 C f ae):=by
  obtain ⟨t,pe,s⟩:=he.ex
  obtain ⟨fI,fd,ps,h1,h2,h3,h4⟩:=R.ex
  refine ⟨_,ps_raise hc tk (pmk_oex R.ox h1 h2 h4 hr h3 .nil (JOb Pf) hg R.gx (pa_cons pe pa_nil hs) hdb hs hpl),fun c D DA ho hw l S H σ ρ st q=>s c DA.ex ho hw [] S H σ ρ _ _ st q fun v H1 ⟨S1,ρ1,y,s1,q1⟩=>?_⟩
  obtain ⟨S2,d,ρ2,sm,s2,q2⟩:=W9 s1 q1
  have rd:=s2.data
  refine ⟨by show 1 ≤ 1000; decide,fun a ha=>⟨a,v,rfl,upd_same,fun dx hdx hne=>⟨rfl,dx,[(f,v)],upd_same,by rw [upd_ne hne,upd_same],?_,?_⟩⟩⟩
  · rw [upd_ne hne] at hdx; exact hdx
  · rw [JHq ha hne]
    have hdx' : H1 dx = none:=by rw [upd_ne hne] at hdx; exact hdx
    have s3 : Stt X.K c S2 (upd H1 dx (.xd [(f,v)])) σ ρ2 []:=s2.drop.beside hdx'
    refine hw S2 _ σ ρ2 C [(f,d)] (some dx) s3 (.inr ⟨dx,[(f,v)],rfl,upd_same,?_⟩) q2
    simp only [RepF]
    exact ⟨v,[],rfl,rd,rfl⟩
end
end Vs
namespace Vs
open PySem PySem.Spec PyProof.Rows L2
variable [Tbs]
section
variable {Pr : Program} {w : World} {K : Fg} {mg : Str → Option Value} {base : Heap} {x qual : Str} {params : Arguments} {body : List Stmt} {scope : Scope} {f : Addr} {fd : FuncData}
theorem JUv {a b : Str} {C : Addr} {g : Str} (F : FunD K x qual params body scope [] [] f fd) (S : FnScope [a,b] [a,b] scope) (ox : OexC K C) (no : PySem.W.findIn K (.ref C) g = some none)
    (hb : ∀ (cdv : Value) (Ar : Around) (outer : List Env) (s : Shared) (H : Hp) (E : XK),PSs (cxOf (L2.CX Pr w) Pr w K mg base [a,b] qual scope f cdv Ar outer s H E) body (tOst K g (tVar 0) (tVar 1))) : FnOk Pr w K mg base (L2.CX Pr w) 1 f fd [a,b] (Au C g):=by
  refine F.ok (k:=0) S (fun vs H Q E h=>?_) (fun cdv Ar outer s H vs Q E hr h=>⟨_,hb cdv Ar outer s H E,?_⟩)
  · obtain ⟨a,y,rfl,_⟩:=h
    rfl
  · obtain ⟨a',y,rfl,ha,hq⟩:=h
    exact ⟨y,rfl,.ref a',rfl,a',C,rfl,ox,no,.inl ⟨ha,fun dx h1 h2=>hq dx h1 h2⟩⟩
end
section
variable {X : Cx} {P : Pm} {K : Fg} {pos : Pos}
def Qe (K : Fg) (P : Pm) (ab : AS) : TS:=fun D σ H=>∃ c DA S ρ,OsIn K c P.O ∧ XOk K c P.W DA.ex ∧ Link K c D DA ∧ Stt K c S H σ ρ [] ∧ ab DA ρ
theorem PSs.imp {st : List Stmt} {t t' : TS} (h : PSs X st t) (hi : ∀ D σ H,t' D σ H → t D σ H) : PSs X st t':=⟨fun pins s σ H D I h'=>h.run pins s σ H D I (hi D σ H h')⟩
theorem JNc {st : List Stmt} {ab : AS} (h : QSs X P st ab) : PSs X st (Qe X.K P ab):=by
  obtain ⟨t,p,s⟩:=h.ex
  exact PSs.imp p fun D σ H ⟨c,DA,S,ρ,h1,h2,h3,h4,h5⟩=>s c D DA h1 h2 h3 S H σ ρ h4 h5
variable {i : Nat} {a dd C : Addr} {e : Expr} {es : List Expr}
end
end Vs
namespace Vs
open PySem PySem.Spec PyProof.Rows L2
variable [Tbs]
theorem Kh {σ : L2.St} {i : Nat} : ∀ {vs : List Nat},i ∉ vs → (wipe σ vs)[i]? = σ[i]?
  | [],_=>rfl
  | v :: vs,h=>by
    unfold wipe
    rw [List.getElem?_set_ne (fun z=>h (by simp [z]))]
    exact Kh fun z=>h (by simp [z])
theorem Ob {σ : L2.St} {i : Nat} : ∀ {vs : List Nat},i ∈ vs → i < σ.length → (wipe σ vs)[i]? = some none
  | [],h,_=>by simp at h
  | v :: vs,h,hl=>by
    unfold wipe
    by_cases e : v = i
    · subst e
      rw [List.getElem?_set_self (by rw [wipe_length]; exact hl)]
    · rw [List.getElem?_set_ne e]
      exact Ob (by
        rcases List.mem_cons.mp h with z | z
        · exact absurd z.symm e
        · exact z) hl
theorem But.wipe {σ σ2 : L2.St} {vs : List Nat} (h : But vs σ σ2) : wipe σ2 vs = wipe σ vs:=by
  apply List.ext_getElem?
  intro i
  by_cases hi : i ∈ vs
  · by_cases hl : i < σ.length
    · rw [Ob hi hl,Ob hi (by rw [h.1]; exact hl)]
    · rw [List.getElem?_eq_none (by rw [wipe_length,h.1]; omega),List.getElem?_eq_none (by rw [wipe_length]; omega)]
  · rw [Kh hi,Kh hi,h.2 i hi]
theorem Bt {σ : L2.St} {vs : List Nat} : But vs σ (wipe σ vs):=⟨wipe_length σ vs,fun i hi=>Kh hi⟩
theorem But.symm {ws : List Nat} {σ σ2 : L2.St} (h : But ws σ σ2) : But ws σ2 σ:=⟨h.1.symm,fun i hi=>(h.2 i hi).symm⟩
theorem But.mono {ws vs : List Nat} {σ σ2 : L2.St} (h : But ws σ σ2) (hs : ∀ i ∈ ws,i ∈ vs) : But vs σ σ2:=⟨h.1,fun i hi=>h.2 i fun z=>hi (hs i z)⟩
/-- some slots hold nothing -/
def W6 (vs : List Nat) (ρ : J0) : Prop:=∀ v ∈ vs,ρ[v]? = some none
theorem Ol : ∀ {vs : List Nat} {ρ : J0},(∀ v ∈ vs,v < ρ.length) → W6 vs (Yj vs ρ)
  | [],ρ,_,v,hv=>by simp at hv
  | w :: vs,ρ,hl,v,hv=>by
    have len : ∀ (vs : List Nat) (ρ : J0),(Yj vs ρ).length = ρ.length:=by
      intro vs ρ
      induction vs with
      | nil=>rfl
      | cons x xs ih=>unfold Yj; rw [List.length_set,ih]
    unfold Yj
    by_cases e : w = v
    · subst e
      rw [List.getElem?_set_self (by rw [len]; exact hl w (by simp))]
    · rw [List.getElem?_set_ne e]
      exact Ol (fun v hv=>hl v (by simp [hv])) v (by
        rcases List.mem_cons.mp hv with z | z
        · exact absurd z.symm e
        · exact z)
section
variable {K : Fg} {c : Ctx} {S H : Hp} {σ σ2 : L2.St} {ρ : J0} {τ : List (V × A)} {vs : List Nat}
theorem JYb : ∀ {ρ : J0} {σ σ2 : L2.St},σ2.length = σ.length → (∀ (i : Nat) (y : A),ρ[i]? = some (some y) → σ2[i]? = σ[i]?) → Y2 ρ σ2 = Y2 ρ σ
  | [],σ,σ2,_,_=>by cases σ <;> cases σ2 <;> rfl
  | o :: ρ,[],σ2,hl,_=>by
    have e : σ2 = []:=by simpa using hl
    rw [e]
  | o :: ρ,x :: σ,[],hl,_=>by simp at hl
  | o :: ρ,x :: σ,y :: σ2,hl,h=>by
    have ih:=JYb (ρ:=ρ) (σ:=σ) (σ2:=σ2) (by simpa using hl) (fun i z hz=>by
      have:=h (i + 1) z (by simpa using hz)
      simpa using this)
    cases o with
    | none=>simp only [Y2]; exact ih
    | some z =>
      have e : y = x:=by
        have:=h 0 z (by simp)
        simpa using this
      subst e
      cases y with
      | none=>simp only [Y2]; exact ih
      | some v=>simp only [Y2]; rw [ih]
theorem Ez : ∀ {ρ : J0} {σ σ2 : L2.St},σ2.length = σ.length → (∀ (i : Nat) (y : A),ρ[i]? = some (some y) → σ2[i]? = σ[i]?) → EnvOk ρ σ → EnvOk ρ σ2
  | [],σ,σ2,hl,_,h=>by
    have e : σ = []:=h
    subst e
    have e2 : σ2 = []:=by simpa using hl
    exact e2
  | o :: ρ,σ,[],hl,_,h=>by
    obtain ⟨w,r,rfl,_,_⟩:=h
    simp at hl
  | o :: ρ,σ,y :: σ2,hl,hq,h=>by
    obtain ⟨w,r,rfl,h1,h2⟩:=h
    refine ⟨y,σ2,rfl,fun z ez=>?_,Ez (by simpa using hl) (fun i z hz=>by
      have:=hq (i + 1) z (by simpa using hz)
      simpa using this) h2⟩
    obtain ⟨⟨v,hv⟩,hn⟩:=h1 z ez
    have e : y = w:=by
      have:=hq 0 z (by simp [ez])
      simpa using this
    exact ⟨⟨v,by rw [e]; exact hv⟩,hn⟩
theorem Stt.but (s : Stt K c S H σ ρ τ) (b : But vs σ σ2) (hn : W6 vs ρ) (ho : ∀ p ∈ c.os,p.1 ∉ vs) : Stt K c S H σ2 ρ τ:=by
  have out : ∀ (i : Nat) (y : A),ρ[i]? = some (some y) → σ2[i]? = σ[i]?:=fun i y h=>b.2 i fun z=>by rw [hn i z] at h; cases h
  refine ⟨?_,Ez b.1 out s.env,fun v i m=>?_,s.le,s.r,s.new,s.up,fun p m=>by rw [b.2 p.1 (ho p m)]; exact s.os p m,s.tb⟩
  · rw [JYb b.1 out]; exact s.own
  · obtain ⟨h1,y,h2⟩:=s.loc v i m
    exact ⟨by rw [out i y h2]; exact h1,y,h2⟩
/-- an owned thing on top is changed -/
theorem Stt.writeTop {p : Addr} {o : HO} {y y' : A} (s : Stt K c S H σ ρ ((.ref p,y) :: τ)) (hx : Yg y = false) (hx' : Yg y' = false) (hg : ∀ g,RepA K S H y (.ref p) g → g = [p]) (hr : RepA K S (upd H p o) y' (.ref p) [p]) : Stt K c S (upd H p o) σ ρ ((.ref p,y') :: τ):=by
  obtain ⟨g,h,h1,h2,nd,h3⟩:=s.top hx
  have eg:=hg g h1
  subst eg
  have np : p ∉ h:=fun z=>(List.nodup_append.mp nd).2.2 p (List.mem_cons_self ..) p z rfl
  have Sp : S p = none:=(h3 p (by simp)).1
  have Rp : c.R p = none:=(h3 p (by simp)).2
  exact Stt.push (g:=[p]) (h:=h) hx' hr (h2.keep (Same.refl S) fun a ha=>upd_ne (fun z=>np (z ▸ ha))) nd h3 s.env (fun v' i m=>s.loc v' i (List.mem_cons_of_mem _ m)) (s.le.up Sp) (fun a o' e=>by rw [upd_ne (ne_of_none e Rp)]; exact s.r a o' e) s.new s.up s.os (by
    obtain ⟨u,e1,e2⟩:=h1.nsp y (.ref p) [p] p (by simp)
    exact s.tb.put e1 e2)
end
structure QTs (X : Cx) (P : Pm) (ifs : List Expr) (a : AT) : Prop where
  ex : ∃ t,PTs X ifs t ∧ Vp X.K P t a
def Za : AT:=fun _ ρ Q=>Q true ρ
section
variable {X : Cx} {P : Pm} {K : Fg} {pos : Pos}
theorem Xs : QTs X P [] Za:=⟨_,pts_nil,fun c EA _ _ τ S H σ ρ Q R s q k=>k _ _ ⟨S,ρ,s,q⟩⟩
theorem Ci {e : Expr} {t : AT} (h : QT X P e t) : QTs X P [e] t:=let ⟨_,p,s⟩:=h.ex; ⟨_,pts_one p,s⟩
def noX : AX:=fun _ _ _=>False
theorem Fe {c : Ctx} : XOk K c (fun _ _ _ _=>False) noX:=fun _ _ _ _ _ _ _ _ _ h=>h
def lcA (G : J0 → Prop) (ag : AG) (at_ : AT) (ae : AE) (vs : List Nat) : List D → List D → J0 → AK → Prop
  | [],acc,ρ,Q=>G ρ ∧ Q (.lst acc) ρ
  | x :: xs,acc,ρ,Q=>G ρ ∧ ag x ρ fun ρ1=>at_ noX ρ1 fun b ρ2=>if b = true then ae noX ρ2 fun y ρ3=>Yl y ρ3 fun d ρ4=>acc.length ≤ 100000 ∧ lcA G ag at_ ae vs xs (acc ++ [d]) (Yj vs ρ4) Q else lcA G ag at_ ae vs xs acc (Yj vs ρ2) Q
def aLc (ai : AI) (ag : AG) (at_ : AT) (ae : AE) (vs : List Nat) : AE:=fun EA ρ Q=>ai EA ρ fun xs G ρ1=>W6 vs ρ1 ∧ lcA G ag at_ ae vs xs [] ρ1 Q
abbrev Pn (P : Pm) : Pm:=⟨fun _ _ _ _=>False,P.O⟩
theorem JPy {wi : TI} {g : TG} {tt : TT} {te : TE} {ai : AI} {ag : AG} {at_ : AT} {ae : AE} {vs ws : List Nat} (hO : ∀ v ∈ vs,v ∉ P.O) (hws : ∀ i ∈ ws,i ∈ vs) (si : Oj K P wi ai) (sg : Gc K (Pn P) g ag ws) (st : Vp K (Pn P) tt at_) (se : U5 K (Pn P) te ae) :
    U5 K P (tLc wi g tt te vs) (aLc ai ag at_ ae vs):=by
  intro c EA ho hw τ S H σ ρ Q R s q k
  refine si c EA ho hw τ S H σ ρ _ _ s q fun c' J H1 S1 ρ1 xs G rb s1 hJ ⟨hn1,q1⟩ Dl hD=>?_
  have ho':=rb.osIn ho
  have hos : ∀ p ∈ c'.os,p.1 ∉ vs:=fun p m z=>hO p.1 z (ho'.1 p m)
  have s1' : Stt K c' S1 H1 (wipe σ vs) ρ1 τ:=s1.but Bt hn1 hos
  have s2 : Stt K c' S1 (upd H1 Dl (.lst [])) (wipe σ vs) ρ1 ((.ref Dl,.lst []) :: τ):=s1'.newList hD (by simp only [RepL])
  refine ⟨fun i m H=>∃ S ρ acc,Stt K c' S H (wipe σ vs) ρ ((.ref Dl,.lst acc) :: τ) ∧ W6 vs ρ ∧ i + m = xs.length ∧ lcA G ag at_ ae vs (xs.drop i) acc ρ Q,⟨xs.length,S1,ρ1,[],s2,hn1,by omega,by simpa using q1⟩,?_⟩
  rintro i m H2 ⟨S2,ρ2,acc,s3,hn2,hm,q2⟩
  have noloc : ∀ u j,(u,A.loc j) ∈ (V.ref Dl,A.lst acc) :: τ → j ∉ vs:=fun u j mm z=>by
    obtain ⟨_,y,hy⟩:=s3.loc u j mm
    rw [hn2 j z] at hy
    cases hy
  by_cases hlt : i < xs.length
  · have e : xs.drop i = xs[i] :: xs.drop (i + 1):=List.drop_eq_getElem_cons hlt
    rw [e] at q2
    obtain ⟨hG,q2⟩:=q2
    obtain ⟨h1,h2⟩:=(hJ S2 H2 (wipe σ vs) ρ2 _ s3 hG).1 i xs[i] (List.getElem?_eq_getElem hlt)
    refine .inr ⟨h1,fun H'=>∃ S ρ acc,Stt K c' S H' (wipe σ vs) ρ ((.ref Dl,.lst acc) :: τ) ∧ W6 vs ρ ∧ lcA G ag at_ ae vs (xs.drop (i + 1)) acc ρ Q,fun H' ⟨S',ρ',acc',a1,a2,a3⟩=>⟨m - 1,by omega,S',ρ',acc',a1,a2,by omega,a3⟩,fun x H' hy=>?_⟩
    obtain ⟨S3,s4⟩:=h2 x H' hy
    refine sg c' ho' _ S3 H' (wipe σ vs) ρ2 x xs[i] _ _ s4 (fun u j mm z=>noloc u j mm (hws j z)) q2 fun σ' ρ' s5 bt q5=>?_
    have btv : But vs (wipe σ vs) σ':=bt.mono hws
    have wip : wipe (wipe σ vs) vs = wipe σ vs:=But.wipe (But.symm Bt).symm
    refine ⟨(But.wipe btv).trans wip,st c' noX ho' Fe _ S3 H' σ' ρ' _ _ s5 q5 fun b H3 ⟨S4,ρ4,s6,q6⟩=>?_⟩
    -- back to the block's start
    have back : ∀ {S H : Hp} {ρ : J0} {acc : List D},Stt K c' S H σ' ρ ((.ref Dl,.lst acc) :: τ) → Stt K c' S H (wipe σ vs) (Yj vs ρ) ((.ref Dl,.lst acc) :: τ) ∧ W6 vs (Yj vs ρ):=fun {S H ρ acc'} z=>by
      have nl : ∀ u j,(u,A.loc j) ∈ (V.ref Dl,A.lst acc') :: τ → j ∉ vs:=fun u j mm zz=>by
        rcases List.mem_cons.mp mm with y | y
        · injection y with _ y; cases y
        · exact noloc u j (List.mem_cons_of_mem _ y) zz
      have hlen : ∀ v ∈ vs,v < ρ.length:=fun v hv=>by
        have e1:=Z5 (hn2 v hv)
        have e2:=s3.env.len
        have e3:=z.env.len
        have e4:=btv.1
        omega
      have nn:=Ol (ρ:=ρ) hlen
      exact ⟨(z.clears vs nl).but (But.symm btv) nn hos,nn⟩
    cases b with
    | false =>
      rw [if_neg Bool.false_ne_true] at q6 ⊢
      obtain ⟨z1,z2⟩:=back s6
      exact ⟨S4,_,acc,z1,z2,q6⟩
    | true =>
      rw [if_pos rfl] at q6 ⊢
      refine se c' noX ho' Fe _ S4 H3 σ' ρ4 _ _ s6 q6 fun vy H4 ⟨S5,ρ5,y,s7,q7⟩=>?_
      obtain ⟨S6,d,ρ6,sm,s8,hz,q8⟩:=W9 s7 q7
      have rd:=s8.data
      have s9:=s8.drop
      obtain ⟨g,hh,r1,_,_,_⟩:=s9.top rfl
      obtain ⟨p',us,e1,hp,rl,_⟩:=r1.lst_inv
      cases e1
      refine ⟨us,hp,by rw [rl.len]; exact Nat.lt_of_le_of_lt hz (by decide),?_⟩
      have s10 : Stt K c' S6 (upd H4 Dl (.lst (us ++ [vy]))) σ' ρ6 ((.ref Dl,.lst (acc ++ [d])) :: τ):=s9.writeTop rfl rfl (fun g' h=>by obtain ⟨a',_,e,_,_,e2⟩:=h.lst_inv; cases e; exact e2) (.mk_lst upd_same (rl.app (by simp only [RepL]; exact ⟨vy,[],rfl,rd,rfl⟩)))
      obtain ⟨z1,z2⟩:=back s10
      exact ⟨S6,_,_,z1,z2,q8⟩
  · have e : xs.drop i = []:=List.drop_eq_nil_of_le (by omega)
    rw [e] at q2
    refine .inl ⟨(hJ S2 H2 (wipe σ vs) ρ2 _ s3 q2.1).2 i (by omega),k _ _ ⟨S2,ρ2,.lst acc,?_,q2.2⟩⟩
    exact rb.back (s3.but (But.symm Bt) hn2 hos)
theorem JMh {elt tg iter : Expr} {ifs : List Expr} {scope : Scope} {own : List (Str × Nat)} {ai : AI} {ag : AG} {at_ : AT} {ae : AE} {ws : List Nat} (hc : X.calm = true) (hN : X.N.Nodup) (hi : QI X P tg iter ai) (ok : BlkOk X.N X.env.scope scope own)
    (hg : ∃ g,Gc X.K (Pn P) g ag ws ∧ ∀ (s : Shared) (H : Hp) (C : Addr) (cl : List (Str × Addr)) (fp : List Addr),PG (X.blk s H scope (compEnvC scope cl C X.env) fp) tg g) (ht : ∃ t,Vp X.K (Pn P) t at_ ∧ ∀ (s : Shared) (H : Hp) (C : Addr) (cl : List (Str × Addr)) (fp : List Addr),PTs (X.blk s H scope (compEnvC scope cl C X.env) fp) ifs t)
    (he : ∃ t,U5 X.K (Pn P) t ae ∧ ∀ (s : Shared) (H : Hp) (C : Addr) (cl : List (Str × Addr)) (fp : List Addr),PE (X.blk s H scope (compEnvC scope cl C X.env) fp) elt t) (hO : ∀ v ∈ own.map (·.2),v ∉ P.O) (hws : ∀ i ∈ ws,i ∈ own.map (·.2)) (hs : ∀ x,foldedSetIterable iter X.env x = pure x:=by intro _; rfl) :
    QE X P (.ListComp elt [⟨tg,iter,ifs,0⟩] scope pos) (aLc ai ag at_ ae (own.map (·.2))):=by
  obtain ⟨wi,pi,si⟩:=hi.ex
  obtain ⟨g,sg,pg⟩:=hg
  obtain ⟨tt,st,pt⟩:=ht
  obtain ⟨te,se,pe⟩:=he
  exact ⟨_,pe_lc hc hN pi ok pg pt pe hs,JPy hO hws si sg st se⟩
end
section
variable {K : Fg} {P : Pm}
def JJp (K : Fg) (P : Pm) (ae : AE) : TE:=fun σ H R=>∃ c EA τ S ρ Q,OsIn K c P.O ∧ XOk K c P.W EA ∧ Stt K c S H σ ρ τ ∧ ae EA ρ Q ∧ ∀ v H',KE K c σ τ Q v H' → R v H'
def Cv (K : Fg) (P : Pm) (at_ : AT) : TT:=fun σ H R=>∃ c EA τ S ρ Q,OsIn K c P.O ∧ XOk K c P.W EA ∧ Stt K c S H σ ρ τ ∧ at_ EA ρ Q ∧ ∀ v H',KT K c σ τ Q v H' → R v H'
def JVa (K : Fg) (P : Pm) (ag : AG) (ws : List Nat) : TG:=fun v σ H R=>∃ c τ S ρ d Q,OsIn K c P.O ∧ Stt K c S H σ ρ ((v,.v d) :: τ) ∧ (∀ u i,(u,A.loc i) ∈ τ → i ∉ ws) ∧ ag d ρ Q ∧ ∀ σ' ρ',Stt K c S H σ' ρ' τ → But ws σ σ' → Q ρ' → R σ' H
theorem Fh {ae : AE} : U5 K P (JJp K P ae) ae:=fun c EA ho hw τ S H σ ρ Q R s q k=>⟨c,EA,τ,S,ρ,Q,ho,hw,s,q,k⟩
theorem Mc {ae : AT} : Vp K P (Cv K P ae) ae:=fun c EA ho hw τ S H σ ρ Q R s q k=>⟨c,EA,τ,S,ρ,Q,ho,hw,s,q,k⟩
theorem Me {ag : AG} {ws : List Nat} : Gc K P (JVa K P ag ws) ag ws:=fun c ho τ S H σ ρ v d Q R s hn q k=>⟨c,τ,S,ρ,d,Q,ho,s,hn,q,k⟩
theorem Gx {X : Cx} {e : Expr} {ae : AE} (h : QE X P e ae) (hK : X.K = K) : PE X e (JJp K P ae):=by
  subst hK
  obtain ⟨t,p,s⟩:=h.ex
  exact ⟨fun pins st σ H Q I ⟨c,EA,τ,S,ρ,Q',h1,h2,h3,h4,h5⟩=>p.run pins st σ H Q I (s c EA h1 h2 τ S H σ ρ Q' Q h3 h4 h5)⟩
theorem Mz {X : Cx} {e : List Expr} {ae : AT} (h : QTs X P e ae) (hK : X.K = K) : PTs X e (Cv K P ae):=by
  subst hK
  obtain ⟨t,p,s⟩:=h.ex
  exact ⟨fun pins st σ H Q I ⟨c,EA,τ,S,ρ,Q',h1,h2,h3,h4,h5⟩=>p.run pins st σ H Q I (s c EA h1 h2 τ S H σ ρ Q' Q h3 h4 h5)⟩
theorem Ni {X : Cx} {e : Expr} {ag : AG} {ws : List Nat} (h : QG X P e ag ws) (hK : X.K = K) : PG X e (JVa K P ag ws):=by
  subst hK
  obtain ⟨t,p,s⟩:=h.ex
  exact ⟨fun pins st σ H v u Q I r ⟨c,τ,S,ρ,d,Q',h1,h2,h3,h4,h5⟩=>p.run pins st σ H v u Q I r (s c h1 τ S H σ ρ v d Q' Q h2 h3 h4 h5)⟩
theorem Xr {X : Cx} {elt tg iter : Expr} {ifs : List Expr} {scope : Scope} {ai : AI} {ag : AG} {at_ : AT} {ae : AE} {ws : List Nat} {pos : Pos} (own : List (Str × Nat)) (hc : X.calm = true) (hN : X.N.Nodup) (ok : BlkOk X.N X.env.scope scope own) (hi : QI X P tg iter ai)
    (hg : ∀ (s : Shared) (H : Hp) (C : Addr) (cl : List (Str × Addr)) (fp : List Addr),QG (X.blk s H scope (compEnvC scope cl C X.env) fp) (Pn P) tg ag ws) (ht : ∀ (s : Shared) (H : Hp) (C : Addr) (cl : List (Str × Addr)) (fp : List Addr),QTs (X.blk s H scope (compEnvC scope cl C X.env) fp) (Pn P) ifs at_)
    (he : ∀ (s : Shared) (H : Hp) (C : Addr) (cl : List (Str × Addr)) (fp : List Addr),QE (X.blk s H scope (compEnvC scope cl C X.env) fp) (Pn P) elt ae) (hO : ∀ v ∈ own.map (·.2),v ∉ P.O) (hws : ∀ i ∈ ws,i ∈ own.map (·.2)) (hs : ∀ x,foldedSetIterable iter X.env x = pure x:=by intro _; rfl) :
    QE X P (.ListComp elt [⟨tg,iter,ifs,0⟩] scope pos) (aLc ai ag at_ ae (own.map (·.2))) :=
  JMh hc hN hi ok ⟨_,Me,fun s H C cl fp=>Ni (hg s H C cl fp) rfl⟩ ⟨_,Mc,fun s H C cl fp=>Mz (ht s H C cl fp) rfl⟩ ⟨_,Fh,fun s H C cl fp=>Gx (he s H C cl fp) rfl⟩ hO hws hs
end
end Vs
namespace Vs
open PySem PySem.Spec PyProof.Rows L2
variable [Tbs]
section
variable {X : Cx} {P : Pm} {K : Fg} {pos : Pos}
def dcA (G : J0 → Prop) (ag : AG) (at_ : AT) (ak ae : AE) (vs : List Nat) : List D → List (Key × D) → J0 → AK → Prop
  | [],acc,ρ,Q=>G ρ ∧ Q (.dic acc) ρ
  | x :: xs,acc,ρ,Q=>G ρ ∧ ag x ρ fun ρ1=>at_ noX ρ1 fun b ρ2=>if b = true then ak noX ρ2 fun ky ρ3=>ae noX ρ3 fun y ρ4=>Yl y ρ4 fun d ρ5=>∃ kd kk,dat ky ρ5 = some kd ∧ keyD kd = some kk ∧ acc.length ≤ 100000 ∧ dcA G ag at_ ak ae vs xs (putD acc kk d) (Yj vs ρ5) Q else dcA G ag at_ ak ae vs xs acc (Yj vs ρ2) Q
def aDc (ai : AI) (ag : AG) (at_ : AT) (ak ae : AE) (vs : List Nat) : AE:=fun EA ρ Q=>ai EA ρ fun xs G ρ1=>W6 vs ρ1 ∧ dcA G ag at_ ak ae vs xs [] ρ1 Q
theorem JYx {wi : TI} {g : TG} {tt : TT} {tk te : TE} {ai : AI} {ag : AG} {at_ : AT} {ak ae : AE} {vs ws : List Nat} (hO : ∀ v ∈ vs,v ∉ P.O) (hws : ∀ i ∈ ws,i ∈ vs) (si : Oj K P wi ai) (sg : Gc K (Pn P) g ag ws) (st : Vp K (Pn P) tt at_) (sk : U5 K (Pn P) tk ak) (se : U5 K (Pn P) te ae) :
    U5 K P (tDc wi g tt tk te vs) (aDc ai ag at_ ak ae vs):=by
  intro c EA ho hw τ S H σ ρ Q R s q k
  refine si c EA ho hw τ S H σ ρ _ _ s q fun c' J H1 S1 ρ1 xs G rb s1 hJ ⟨hn1,q1⟩ Dl hD=>?_
  have ho':=rb.osIn ho
  have hos : ∀ p ∈ c'.os,p.1 ∉ vs:=fun p m z=>hO p.1 z (ho'.1 p m)
  have s1' : Stt K c' S1 H1 (wipe σ vs) ρ1 τ:=s1.but Bt hn1 hos
  have s2 : Stt K c' S1 (upd H1 Dl (.dK [])) (wipe σ vs) ρ1 ((.ref Dl,.dic []) :: τ):=s1'.alloc hD rfl (.mk_dic upd_same (by simp only [RepK]))
  refine ⟨fun i m H=>∃ S ρ acc,Stt K c' S H (wipe σ vs) ρ ((.ref Dl,.dic acc) :: τ) ∧ W6 vs ρ ∧ i + m = xs.length ∧ dcA G ag at_ ak ae vs (xs.drop i) acc ρ Q,⟨xs.length,S1,ρ1,[],s2,hn1,by omega,by simpa using q1⟩,?_⟩
  rintro i m H2 ⟨S2,ρ2,acc,s3,hn2,hm,q2⟩
  have noloc : ∀ u j,(u,A.loc j) ∈ (V.ref Dl,A.dic acc) :: τ → j ∉ vs:=fun u j mm z=>by
    obtain ⟨_,y,hy⟩:=s3.loc u j mm
    rw [hn2 j z] at hy
    cases hy
  by_cases hlt : i < xs.length
  · have e : xs.drop i = xs[i] :: xs.drop (i + 1):=List.drop_eq_getElem_cons hlt
    rw [e] at q2
    obtain ⟨hG,q2⟩:=q2
    obtain ⟨h1,h2⟩:=(hJ S2 H2 (wipe σ vs) ρ2 _ s3 hG).1 i xs[i] (List.getElem?_eq_getElem hlt)
    refine .inr ⟨h1,fun H'=>∃ S ρ acc,Stt K c' S H' (wipe σ vs) ρ ((.ref Dl,.dic acc) :: τ) ∧ W6 vs ρ ∧ dcA G ag at_ ak ae vs (xs.drop (i + 1)) acc ρ Q,fun H' ⟨S',ρ',acc',a1,a2,a3⟩=>⟨m - 1,by omega,S',ρ',acc',a1,a2,by omega,a3⟩,fun x H' hy=>?_⟩
    obtain ⟨S3,s4⟩:=h2 x H' hy
    refine sg c' ho' _ S3 H' (wipe σ vs) ρ2 x xs[i] _ _ s4 (fun u j mm z=>noloc u j mm (hws j z)) q2 fun σ' ρ' s5 bt q5=>?_
    have btv : But vs (wipe σ vs) σ':=bt.mono hws
    have wip : wipe (wipe σ vs) vs = wipe σ vs:=But.wipe (But.symm Bt).symm
    refine ⟨(But.wipe btv).trans wip,st c' noX ho' Fe _ S3 H' σ' ρ' _ _ s5 q5 fun b H3 ⟨S4,ρ4,s6,q6⟩=>?_⟩
    have back : ∀ {S H : Hp} {ρ : J0} {acc : List (Key × D)},Stt K c' S H σ' ρ ((.ref Dl,.dic acc) :: τ) → Stt K c' S H (wipe σ vs) (Yj vs ρ) ((.ref Dl,.dic acc) :: τ) ∧ W6 vs (Yj vs ρ):=fun {S H ρ acc'} z=>by
      have nl : ∀ u j,(u,A.loc j) ∈ (V.ref Dl,A.dic acc') :: τ → j ∉ vs:=fun u j mm zz=>by
        rcases List.mem_cons.mp mm with y | y
        · injection y with _ y; cases y
        · exact noloc u j (List.mem_cons_of_mem _ y) zz
      have hlen : ∀ v ∈ vs,v < ρ.length:=fun v hv=>by
        have e1:=Z5 (hn2 v hv)
        have e2:=s3.env.len
        have e3:=z.env.len
        have e4:=btv.1
        omega
      have nn:=Ol (ρ:=ρ) hlen
      exact ⟨(z.clears vs nl).but (But.symm btv) nn hos,nn⟩
    cases b with
    | false =>
      rw [if_neg Bool.false_ne_true] at q6 ⊢
      obtain ⟨z1,z2⟩:=back s6
      exact ⟨S4,_,acc,z1,z2,q6⟩
    | true =>
      rw [if_pos rfl] at q6 ⊢
      refine sk c' noX ho' Fe _ S4 H3 σ' ρ4 _ _ s6 q6 fun vk H4 ⟨S5,ρ5,ky,s7,q7⟩=>se c' noX ho' Fe _ S5 H4 σ' ρ5 _ _ s7 q7 fun vy H5 ⟨S6,ρ6,y,s8,q8⟩=>?_
      obtain ⟨S7,d,ρ7,sm,s9,kd,kk,hk1,hk2,hz,q9⟩:=W9 s8 q8
      have rd:=s9.data
      have rk:=s9.dat (v:=vk) (x:=ky) (by simp) hk1
      have ek:=Bs hk2 rk
      subst ek
      have s10:=s9.drop.drop
      obtain ⟨g,hh,r1,_,_,_⟩:=s10.top rfl
      obtain ⟨p',us,e1,hp,rl,_⟩:=r1.dic_inv
      cases e1
      refine ⟨us,kk,rfl,hp,by rw [rl.len]; exact Nat.lt_of_le_of_lt hz (by decide),?_⟩
      have s11 : Stt K c' S7 (upd H5 Dl (.dK (putK us kk vy))) σ' ρ7 ((.ref Dl,.dic (putD acc kk d)) :: τ):=s10.writeTop rfl rfl (fun g' h=>by obtain ⟨a',_,e,_,_,e2⟩:=h.dic_inv; cases e; exact e2) (.mk_dic upd_same (rl.put kk rd))
      obtain ⟨z1,z2⟩:=back s11
      exact ⟨S7,_,_,z1,z2,q9⟩
  · have e : xs.drop i = []:=List.drop_eq_nil_of_le (by omega)
    rw [e] at q2
    refine .inl ⟨(hJ S2 H2 (wipe σ vs) ρ2 _ s3 q2.1).2 i (by omega),k _ _ ⟨S2,ρ2,.dic acc,?_,q2.2⟩⟩
    exact rb.back (s3.but (But.symm Bt) hn2 hos)
theorem JH6 {kx elt tg iter : Expr} {ifs : List Expr} {scope : Scope} {ai : AI} {ag : AG} {at_ : AT} {ak ae : AE} {ws : List Nat} (own : List (Str × Nat)) (hc : X.calm = true) (hN : X.N.Nodup) (ok : BlkOk X.N X.env.scope scope own) (hi : QI X P tg iter ai)
    (hg : ∀ (s : Shared) (H : Hp) (C : Addr) (cl : List (Str × Addr)) (fp : List Addr),QG (X.blk s H scope (compEnvC scope cl C X.env) fp) (Pn P) tg ag ws) (ht : ∀ (s : Shared) (H : Hp) (C : Addr) (cl : List (Str × Addr)) (fp : List Addr),QTs (X.blk s H scope (compEnvC scope cl C X.env) fp) (Pn P) ifs at_)
    (hk : ∀ (s : Shared) (H : Hp) (C : Addr) (cl : List (Str × Addr)) (fp : List Addr),QE (X.blk s H scope (compEnvC scope cl C X.env) fp) (Pn P) kx ak)
    (he : ∀ (s : Shared) (H : Hp) (C : Addr) (cl : List (Str × Addr)) (fp : List Addr),QE (X.blk s H scope (compEnvC scope cl C X.env) fp) (Pn P) elt ae) (hO : ∀ v ∈ own.map (·.2),v ∉ P.O) (hws : ∀ i ∈ ws,i ∈ own.map (·.2)) (hs : ∀ x,foldedSetIterable iter X.env x = pure x:=by intro _; rfl) :
    QE X P (.DictComp kx elt [⟨tg,iter,ifs,0⟩] scope pos) (aDc ai ag at_ ak ae (own.map (·.2))):=by
  obtain ⟨wi,pi,si⟩:=hi.ex
  exact ⟨_,pe_dc hc hN pi ok (fun s H C cl fp=>Ni (hg s H C cl fp) rfl) (fun s H C cl fp=>Mz (ht s H C cl fp) rfl) (fun s H C cl fp=>Gx (hk s H C cl fp) rfl) (fun s H C cl fp=>Gx (he s H C cl fp) rfl) hs,JYx hO hws si Me Mc Fh Fh⟩
end
end Vs
namespace Vs
open PySem PySem.Spec PyProof.Rows L2
variable [Tbs]
structure EqC (Pr : Program) (w : World) (K : Fg) (mg : Str → Option Value) (base : Heap) (C : Addr) (k : Nat) (sp : ASp) : Prop where
  ne : PySem.W.findIn K (.ref C) "__ne__" = some (some (.builtin "object.__ne__"))
  mo : PySem.W.mroIn K C (.type "object") = some true
  ex : ∃ f fd ps,PySem.W.findIn K (.ref C) "__eq__" = some (some (.ref f)) ∧ PySem.W.isFn K (.ref f) = true ∧ Binds K fd ps [] ∧ Fok Pr w K mg base k f fd ps sp
end Vs
namespace Vs
open PySem PySem.Spec PyProof.Rows L2
variable [Tbs]
theorem CallR.or {X : Cx} {f : Value} {r r' : List V → Hp → VK → Prop} (h : CallR X f r) (h' : CallR X f r') : CallR X f (fun xs H Q=>r xs H Q ∨ r' xs H Q):=fun pins s σ H xs us Q I rx q =>
  q.elim (fun q=>h pins s σ H xs us Q I rx q) fun q=>h' pins s σ H xs us Q I rx q
def X1 (ds : List D) : List D:=ds.mergeSort (PySem.W.dataLe false pd)
def V9 (T : D → V → Prop) : List D → List V → Prop
  | [],vs=>vs = []
  | d :: ds,vs=>∃ v r,vs = v :: r ∧ T d v ∧ V9 T ds r
theorem eachT_rep {K : Fg} {S : Hp} : ∀ {ds : List D} {vs : List V},V9 (Rep K S) ds vs ↔ RepL K S ds vs
  | [],vs=>by simp only [V9,RepL]
  | d :: ds,vs=>by
    simp only [V9,RepL]
    constructor
    · rintro ⟨v,r,e,h1,h2⟩
      exact ⟨v,r,e,h1,eachT_rep.mp h2⟩
    · rintro ⟨v,r,e,h1,h2⟩
      exact ⟨v,r,e,h1,eachT_rep.mpr h2⟩
def Kz (K : Fg) : List V → Hp → VK → Prop:=fun xs H Q=>∃ (a : Addr) (vs : List V) (ds : List D) (T : D → V → Prop),xs = [.ref a] ∧ SqL K H a vs ∧ V9 T ds vs ∧ (∀ d v,T d v → Rep K H d v) ∧ (∀ d ∈ ds,PlD 20 d) ∧ PySem.W.AllAlike (ds.map pd) ∧ PySem.W.Sortable (ds.map pd) ∧
  ∀ vs' p,V9 T (X1 ds) vs' → H p = none → Q (.ref p) (upd H p (.lst vs'))
section
variable {X : Cx} {P : Pm} {K : Fg} {pos : Pos}
theorem T2 (hu : X.A.units + 64 < cLine) : CallR X (.builtin "sorted") (Kz X.K):=by
  intro pins s σ H xs us Q I r h
  obtain ⟨a,vs,ds,T,rfl,hs,ht,hT,hp,hal,hk,q⟩:=h
  obtain ⟨its,rv,hl,hz⟩:=I.list hs
  obtain ⟨u,rfl,ru⟩:=vals1 r
  obtain rfl : u = Value.ref a:=ru
  have e1 : ∀ {ds : List D} {vs : List V} {its : List Value},V9 T ds vs → Vals vs its → PySem.W.EachIs (fun u d=>∃ v,RelV v u ∧ T d v) its ds:=by
    intro ds
    induction ds with
    | nil =>
      intro vs its h r
      simp only [V9] at h
      subst h
      cases r
      exact .nil
    | cons d ds ih =>
      intro vs its h r
      simp only [V9] at h
      obtain ⟨v,rr,rfl,h1,h2⟩:=h
      cases r with
      | cons ra rb=>exact .cons ⟨v,ra,h1⟩ (ih h2 rb)
  have e2 : ∀ {ds : List D} {its : List Value},(∀ d ∈ ds,PlD 20 d) → PySem.W.EachIs (fun u d=>∃ v,RelV v u ∧ T d v) its ds → PySem.W.EachIs (fun u d=>∃ as,Reads s.heap u (pd d) as) its ds:=by
    intro ds
    induction ds with
    | nil=>intro its _ h; cases h; exact .nil
    | cons d ds ih =>
      intro its hp h
      cases h with
      | cons h1 h2 =>
        obtain ⟨v,ra,rb⟩:=h1
        exact .cons (Dp.reads I _ v _ (V5 20 d v (hp d (by simp)) (hT d v rb)) ra) (ih (fun x hx=>hp x (by simp [hx])) h2)
  have e3 : ∀ {ds : List D} {out : List Value},PySem.W.EachIs (fun u d=>∃ v,RelV v u ∧ T d v) out ds → ∃ vs',Vals vs' out ∧ V9 T ds vs':=by
    intro ds
    induction ds with
    | nil=>intro out h; cases h; exact ⟨[],.nil,by simp only [V9]⟩
    | cons d ds ih =>
      intro out h
      cases h with
      | cons h1 h2 =>
        obtain ⟨v,ra,rb⟩:=h1
        obtain ⟨vs',z1,z2⟩:=ih h2
        exact ⟨v :: vs',.cons ra z1,by simp only [V9]; exact ⟨v,vs',rfl,rb,z2⟩⟩
  have hE:=e1 ht rv
  have lds : ds.length = its.length:=hE.length.symm
  have lvs:=rv.length
  refine PySem.W.sorted_data (R:=fun u d=>∃ v,RelV v u ∧ T d v) (enc:=pd) hl.isList hE (e2 hp hE) hal hk (by omega) (fun d hd=>?_) fun out hlen ho=>?_
  · have:=(Vx 20 d (hp d hd)).2
    omega
  · obtain ⟨vs',z1,z2⟩:=e3 ho
    obtain ⟨ep,he'⟩:=PyProof.Rows.sortedAll_at s.heap its out.toArray
    have hlo:=z1.length
    exact ⟨.ref _,upd H (s.heap.objs.size + 1) (.lst vs'),I.laid (t':=s.toks) (fun _ _=>PyProof.Rows.sortedAll_old) (Nat.le_succ _) ⟨by omega,out,ep,z1,he'⟩,rfl,q _ _ z2 (I.hok.fresh (Nat.le_succ _))⟩
abbrev JZk (K : Fg) : List V → Hp → VK → Prop:=fun xs H Q=>Kz K xs H Q ∨ ∃ (a : Addr) (kvs : List (Key × V)) (ks : List Str),xs = [.ref a] ∧ Rd H a (.dK kvs) ∧ kvs.map (·.1) = ks.map Sum.inr ∧ ks.length < 64 ∧ ∀ ys p,ys.Perm ks → sortedS ys = true → H p = none → Q (.ref p) (upd H p (.lst (ys.map V.str)))
theorem JBb (hc : X.calm = true) (hu : X.A.units + 64 < cLine) : CallR X (.builtin "sorted") (JZk X.K):=CallR.or (T2 hu) (call_sortedD hc)
def Kw : ARs:=fun xs ρ Q=>∃ x d,xs = [x] ∧ dat x ρ = some d ∧ match d with
  | .lst ds=>(∀ d ∈ ds,PlD 20 d) ∧ PySem.W.AllAlike (ds.map pd) ∧ PySem.W.Sortable (ds.map pd) ∧ Q (.lst (X1 ds)) ρ
  | .dic kvs=>∃ ks : List Str,kvs.map (·.1) = ks.map Sum.inr ∧ ks.length < 64 ∧ ∀ ys : List Str,ys.Perm ks → sortedS ys = true → Q (.lst (ys.map D.str)) ρ
  | _=>False
theorem E4 {S : Hp} : ∀ (ys : List Str),RepL K S (ys.map D.str) (ys.map V.str)
  | []=>by simp only [List.map_nil,RepL]
  | y :: ys=>by
    simp only [List.map_cons,RepL,Rep]
    exact ⟨_,_,rfl,rfl,E4 ys⟩
theorem JYo {S : Hp} : ∀ {kvs : List (Key × D)} {ws : List (Key × V)},RepK K S kvs ws → ws.map (·.1) = kvs.map (·.1)
  | [],ws,h=>by simp only [RepK] at h; subst h; rfl
  | (k,d) :: kvs,ws,h=>by
    simp only [RepK] at h
    obtain ⟨v,r,rfl,_,h2⟩:=h
    simp only [List.map_cons,JYo h2]
theorem JK6 : Vy K (JZk K) Kw:=by
  intro c τ S H σ ρ vs xs Q R hl s q k
  obtain ⟨x,d,rfl,h1,q⟩:=q
  obtain ⟨v,rfl,s1⟩:=one_arg hl s
  obtain ⟨y0,g0,r0,e0⟩:=s1.thing (List.mem_cons_self ..) h1
  cases d with
  | lst ds =>
    obtain ⟨p,vs,rfl,h3,h4⟩:=Vw r0 e0 s1.le
    obtain ⟨q1,q2,q3,q4⟩:=q
    refine .inl ⟨p,vs,ds,Rep K S,rfl,h3,eachT_rep.mpr h4,fun d v r=>Rep.le s1.le d v r,q1,q2,q3,fun vs' p' hv hp=>?_⟩
    exact k _ _ ⟨S,ρ,_,s1.drop.newList hp (eachT_rep.mp hv),q4⟩
  | dic kvs =>
    obtain ⟨p,ws,rfl,h3,h4⟩:=Ld r0 e0 s1.le
    obtain ⟨ks,q1,q2,q3⟩:=q
    refine .inr ⟨p,ws,ks,rfl,h3,(JYo h4).trans q1,q2,fun ys p' hy1 hy2 hp=>?_⟩
    exact k _ _ ⟨S,ρ,_,s1.drop.newList hp (E4 ys),q3 ys hy1 hy2⟩
  | _=>cases q
theorem Lr {S : Hp} : ∀ {ns : List Int} {vs : List V},RepL K S (ns.map D.int) vs → vs = ns.map V.int
  | [],vs,h=>by simpa only [List.map_nil,RepL] using h
  | n :: ns,vs,h=>by
    simp only [List.map_cons,RepL,Rep] at h
    obtain ⟨v,r,rfl,rfl,h2⟩:=h
    rw [Lr h2]
    rfl
end
end Vs
namespace Vs
open PySem PySem.Spec PyProof.Rows L2
end Vs
namespace Vs
open PySem PySem.Spec PyProof.Rows L2
end Vs
namespace Vs
open PySem PySem.Spec PyProof.Rows L2
variable [Tbs]
def Xu (ls : List (Key × D)) (p : Key × D) : Bool:=match valD ls p.1 with
  | some d=>deq p.2 d
  | none=>false
def Hq (ks ls : List (Key × D)) : Bool:=ks.length == ls.length && ks.all (Xu ls)
section
variable {X : Cx} {P : Pm} {K : Fg}
theorem Eo {S : Hp} {ls : List (Key × D)} {vb : List (Key × Value)} {e : Key → Bool} : ∀ {ks : List (Key × D)} {ws : List (Key × V)} {va : List (Key × Value)},RepK K S ks ws → KV ws va → (∀ p ∈ ks,((valueAt vb p.1).isSome && e p.1) = Xu ls p) → (va.all fun p=>(valueAt vb p.1).isSome && e p.1) = ks.all (Xu ls)
  | [],ws,va,h,r,_=>by
    simp only [RepK] at h
    subst h
    cases r
    rfl
  | (k,d) :: ks,ws,va,h,r,hh=>by
    simp only [RepK] at h
    obtain ⟨v,r',rfl,h1,h2⟩:=h
    cases r with
    | @cons _ q _ qs hq hr =>
      obtain ⟨hk,_⟩:=hq
      obtain ⟨qk,qv⟩:=q
      have hk' : k = qk:=hk
      subst hk'
      simp only [List.all_cons]
      rw [Eo h2 hr fun p hp=>hh p (by simp [hp])]
      have:=hh (k,d) (by simp)
      rw [← this]
theorem kv_mem {S : Hp} : ∀ {ks : List (Key × D)} {ws : List (Key × V)} {va : List (Key × Value)} {k : Key} {u : Value},RepK K S ks ws → KV ws va → (k,u) ∈ va → ∃ d v,(k,d) ∈ ks ∧ RelV v u ∧ Rep K S d v
  | [],ws,va,k,u,h,r,m=>by
    simp only [RepK] at h
    subst h
    cases r
    simp at m
  | (k',d) :: ks,ws,va,k,u,h,r,m=>by
    simp only [RepK] at h
    obtain ⟨v,r',rfl,h1,h2⟩:=h
    cases r with
    | @cons _ q _ qs hq hr =>
      obtain ⟨hk,hv⟩:=hq
      obtain ⟨qk,qv⟩:=q
      rcases List.mem_cons.mp m with z | z
      · cases z
        have hk' : k' = k:=hk
        subst hk'
        exact ⟨d,v,by simp,hv,h1⟩
      · obtain ⟨d',v',a1,a2,a3⟩:=kv_mem h2 hr z
        exact ⟨d',v',by simp [a1],a2,a3⟩
end
end Vs
namespace Vs
open PySem PySem.Spec PyProof.Rows L2
variable [Tbs]
/-- a method -/
structure CalM (Pr : Program) (w : World) (K : Fg) (mg : Str → Option Value) (base : Heap) (C : Addr) (m : Str) (k : Nat) (ps : List Str) (sp : ASp) : Prop where
  ex : ∃ f fd,Meth K C m f ∧ Binds K fd ps [] ∧ Fok Pr w K mg base k f fd ps sp
/-- a class with an __init__ -/
structure CalK (Pr : Program) (w : World) (K : Fg) (mg : Str → Option Value) (base : Heap) (x : Str) (C : Addr) (k : Nat) (ps : List Str) (sp : ASp) : Prop where
  ex : ∃ f fd,Mk K C f ∧ mg x = some (.ref C) ∧ Binds K fd ps [] ∧ Fok Pr w K mg base k f fd ps sp
def Je (vs : List Nat) (a : AS) : AS:=fun DA ρ=>a DA (Yj vs ρ)
section
variable {X : Cx} {P : Pm} {k : Nat} {ps : List Str} {sp : ASp} {C : Addr} {m x : Str} {o e : Expr} {es : List Expr} {ao : AE} {aa : AA} {apos p pos : Pos}
theorem Jg (vs : List Nat) {st : Stmt} {a : AS} (h : QS X P st a) : QS X P st (Je vs a):=JB8 vs h
theorem Mb : ∀ σ,PassesAt (L2.CX X.prog X.w) X σ (fun cls d H=>(Pn P).W cls d σ H):=fun σ pins H s e s' I c=>(Pf _ _ _ _ _ c).elim
theorem JL5 {pl : Sem Bool} (he : QE X P o ao) (c : Cls X.K C) (F : CalM X.prog X.w X.K X.mg X.base C m k ps sp) (hr : Room k X.A) (hx : ∀ σ,PassesAt (L2.CX X.prog X.w) X σ (fun cls d H=>P.W cls d σ H)) (ha : QA X P (e :: es) aa)
    (hst : starEach (e :: es) X.env = (false,eval e X.env) :: starEach es X.env:=by rfl) (hpl : (backTo pos (starEach es X.env)).any (·.1) = false:=by rfl)
    (ht : eval (.Call (.Attribute o m apos) (e :: es) [] pos) X.env = (do
      let ov ← eval o X.env
      standAt apos.atName
      let (f,first) ← holding [ov] (getMethod ov m pl)
      callWith pos f first (backTo pos (starEach (e :: es) X.env)) (backToKw pos (keywordEach [] X.env))):=by rfl) :
    QE X P (.Call (.Attribute o m apos) (e :: es) [] pos) (Xp C m sp [] ao aa):=let ⟨_,_,h1,h2,h3⟩:=F.ex; JNi he c h1 h3 hr h2 .nil Kn hx ha hst hpl ht
theorem JKs (F : CalK X.prog X.w X.K X.mg X.base x C k ps sp) (hr : Room (k + 1) X.A) (hg : Gl X x) (hx : ∀ σ,PassesAt (L2.CX X.prog X.w) X σ (fun cls d H=>P.W cls d σ H)) (ha : QA X P (e :: es) aa)
    (hdb : (x == ("__debug__" : Str)) = false:=by decide) (he : starEach (e :: es) X.env = (false,eval e X.env) :: starEach es X.env:=by rfl) (hpl : (backTo pos (starEach es X.env)).any (·.1) = false:=by rfl) :
    QE X P (.Call (.Name x p) (e :: es) [] pos) (Xx C sp [] aa):=let ⟨_,_,h1,h2,h3,h4⟩:=F.ex; JPf h1 h4 hr hg h2 h3 .nil Kn hx ha hdb he hpl
theorem Be {i : Int} (h : ∃ t,X.mg x = some (.int i t)) (hg : Gl X x) (hd : (x == ("__debug__" : Str)) = false:=by decide) : QE X P (.Name x pos) (aC (.int i)):=let ⟨t,h⟩:=h; Ad (v:=.int i) rfl hg h ⟨t,rfl⟩ hd
theorem JP6 {i : Str} (h : ∃ t,X.mg x = some (.str i t)) (hg : Gl X x) (hd : (x == ("__debug__" : Str)) = false:=by decide) : QE X P (.Name x pos) (aC (.str i)):=let ⟨t,h⟩:=h; Ad (v:=.str i) rfl hg h ⟨t,rfl⟩ hd
end
end Vs
namespace Vs
open PySem PySem.Spec PyProof.Rows L2
end Vs
namespace Vs
open PySem PySem.Spec PyProof.Rows L2
variable [Tbs]
section
variable {K : Fg} {C : Addr} {f : Str}
/-- an own exception class whose __init__ stores one field -/
theorem JVw (h : Oz K C = true) : OexC K C:=by
  obtain ⟨q,h⟩:=He.ba h
  obtain ⟨h2,h⟩:=He.ba h
  obtain ⟨h3,h⟩:=He.ba h
  obtain ⟨h4,h5⟩:=He.ba h
  refine ⟨?_,He.eqO_ok h2,of_decide_eq_true h3,of_decide_eq_true h4,h5⟩
  split at q
  · rename_i dd cd sl ho
    split at q
    · rename_i C' bm k0 k1 k2 k3 n k5 hm hs
      simp only [Bool.and_eq_true,beq_iff_eq,Bool.not_eq_true'] at q
      obtain ⟨⟨⟨⟨rfl,rfl⟩,hdel⟩,hhd⟩,ht⟩:=q
      obtain ⟨nm,bs,mro,ns,qn,hd,sn,sub,ab,col,del⟩:=cd
      dsimp only at hm hdel hhd
      subst hm hdel hhd
      have hsl : sl = #[k0,k1,k2,k3,some (.builtin "ValueError.__new__"),k5]:=by
        obtain ⟨l⟩:=sl
        simp only at hs
        rw [hs]
      subst hsl
      exact ⟨nm,qn,ns,bs,bm,sn,sub,ab,col,dd,k0,k1,k2,k3,k5,ho,ht⟩
    · cases q
  · cases q
/-- its __init__ is a function,its field no name of the class -/
theorem JJi (h : M6 K C f = true) : PySem.W.findIn K (.ref C) "__init__" = some (some (.ref (He.ma K C "__init__"))) ∧ PySem.W.typeIn K (.ref (He.ma K C "__init__")) = some (.type "function") ∧ PySem.W.findIn K (.ref C) f = some none ∧ XfC K C:=by
  obtain ⟨h1,h⟩:=He.ba h
  obtain ⟨h2,h⟩:=He.ba h
  obtain ⟨h3,h4⟩:=He.ba h
  exact ⟨He.eqO_ok h1,of_decide_eq_true h2,He.eqO_ok h3,xfB_ok h4⟩
/-- what isinstance asks of an own class -/
theorem To (c : Cls K C) (h : G7 K C = true) : ClsI K C:=by
  obtain ⟨h1,h⟩:=He.ba h
  obtain ⟨h2,h⟩:=He.ba h
  obtain ⟨h3,h4⟩:=He.ba h
  exact ⟨c,He.eqO_ok h1,He.eqO_ok h2,of_decide_eq_true h3,of_decide_eq_true h4⟩
theorem JMe (h : neB K C = true) : PySem.W.findIn K (.ref C) "__ne__" = some (some (.builtin "object.__ne__")) ∧ PySem.W.mroIn K C (.type "object") = some true:=by
  obtain ⟨h1,h2⟩:=He.ba h
  exact ⟨He.eqO_ok h1,of_decide_eq_true h2⟩
/-- isinstance's tables -/
theorem Us {t u : Value} {b : Bool} (h : Vi K t u b = true) : PySem.W.kitOne K t u = some b:=of_decide_eq_true h
end
end Vs
namespace Vs
open PySem PySem.Spec PyProof.Rows L2
variable [Tbs]
section
variable {EA : AX} {ρ : J0} {Q : AK} {DA : AEnds} {QB : Bool → J0 → Prop} {x y : A} {d e z : D} {K : Fg} {C : Addr} {f m : Str} {sp : ASp}
/-- isinstance of built-in data by built-in types -/
def tyN : D → Option String
  | .non=>some "NoneType"
  | .bl _=>some "bool"
  | .int _=>some "int"
  | .str _=>some "str"
  | .lst _=>some "list"
  | .tup _=>some "tuple"
  | .dic _=>some "dict"
  | _=>none
def Xm (a : String) : List String → Option Bool
  | []=>some false
  | b :: r=>match kitB a b with
    | some true=>some true
    | some false=>Xm a r
    | none=>none
theorem Tj {a : String} : ∀ {us : List String} {b : Bool},Xm a us = some b → PySem.W.kitAny K (.type a) (us.map Value.type) = some b
  | [],b,h=>by
    simp only [Xm] at h
    cases h
    exact kitAny_nil
  | u :: us,b,h=>by
    simp only [Xm] at h
    cases e : kitB a u with
    | none=>rw [e] at h; cases h
    | some r =>
      rw [e] at h
      cases r with
      | true =>
        cases h
        exact kitAny_cons (kit_ty e) (fun z=>nomatch z) fun _=>rfl
      | false=>exact kitAny_cons (kit_ty e) (fun _=>Tj h) fun z=>nomatch z
theorem JUe {a : String} {us : List String} {b : Bool} (h1 : tyN d = some a) (h2 : Xm a us = some b) : Wi K d (us.map Value.type) b:=by
  refine ⟨.type a,?_,fun C fs e=>?_,Tj h2⟩
  · cases d <;> simp only [tyN] at h1 <;> first | (cases h1; rfl) | cases h1
  · subst e
    cases h1
theorem Vq {us : List Value} {b : Bool} (h1 : dat x ρ = some d) (h2 : Wi K d us b) (k : Q (.v (.bl b)) ρ) : Uv K us x ρ Q:=⟨d,b,h1,h2,k⟩
theorem Cz {ae : AE} (k : ae DA.ex ρ fun x ρ1=>Yl x ρ1 fun d ρ2=>DA.ex C [(f,d)] ρ2) : B0 C f ae DA ρ:=k
/-- a loop as a recursion over what is left: the step is proved with the rest's meaning in hand -/
theorem Oi {G : J0 → Prop} {ag : AG} {ab : AS} (W : List D → J0 → Prop) (h0 : ∀ ρ,W [] ρ → G ρ ∧ DA.nx ρ)
    (h1 : ∀ x xs ρ,W (x :: xs) ρ → (∀ ρ,W xs ρ → forA G ag ab DA xs ρ) → G ρ ∧ ag x ρ fun ρ'=>ab { DA with nx:=forA G ag ab DA xs,ct:=forA G ag ab DA xs,bk:=DA.nx } ρ') : ∀ (xs : List D) (ρ : J0),W xs ρ → forA G ag ab DA xs ρ
  | [],ρ,w=>h0 ρ w
  | x :: xs,ρ,w=>h1 x xs ρ w fun ρ' w'=>Oi W h0 h1 xs ρ' w'
end
end Vs
namespace Vs
open PySem PySem.Spec PyProof.Rows L2
variable [Tbs]
def Ui (d : D) (u : String) : Bool:=match d with
  | .bl _=>u == "bool" || u == "int"
  | .int _=>u == "int"
  | .str _=>u == "str"
  | .lst _=>u == "list"
  | .tup _=>u == "tuple"
  | .dic _=>u == "dict"
  | _=>false
theorem Nn {K : Fg} {d : D} {u : String} (h : (tyN d).isSome = true) (hu : u = "int" ∨ u = "bool" ∨ u = "str" ∨ u = "list" ∨ u = "tuple" ∨ u = "dict") : Wi K d [.type u] (Ui d u):=by
  have go : ∀ a,tyN d = some a → Xm a [u] = some (Ui d u) → Wi K d [.type u] (Ui d u):=fun a h1 h2=>JUe (us:=[u]) h1 h2
  cases d <;> first
    | (cases h; done)
    | (refine go _ rfl ?_; rcases hu with rfl | rfl | rfl | rfl | rfl | rfl <;> simp only [Ui] <;> decide +kernel)
theorem Qz {K : Fg} {d : D} (h : (tyN d).isSome = true) : Wi K d [.type "list",.type "tuple"] (Ui d "list" || Ui d "tuple"):=by
  have go : ∀ a,tyN d = some a → Xm a ["list","tuple"] = some (Ui d "list" || Ui d "tuple") → Wi K d [.type "list",.type "tuple"] (Ui d "list" || Ui d "tuple"):=fun a h1 h2=>JUe (us:=["list","tuple"]) h1 h2
  cases d <;> first
    | (cases h; done)
    | (refine go _ rfl ?_; simp only [Ui]; decide +kernel)
/-- isinstance of an own class -/
theorem Aa {K : Fg} {C C2 : Addr} {fs : List (Str × D)} {b : Bool} (c : ClsI K C) (h : PySem.W.kitOne K (.ref C) (.ref C2) = some b) : Wi K (.obj C fs) [.ref C2] b:=by
  refine ⟨.ref C,rfl,fun C' fs' e=>?_,?_⟩
  · cases e
    exact c
  · exact kitAny_cons h (fun z=>by rw [z]; exact kitAny_nil) fun z=>z
end Vs
namespace Vs
open PySem PySem.Spec PyProof.Rows L2
variable [Tbs]
section
variable {EA : AX} {ρ : J0} {Q : AK} {G : J0 → Prop} {ag : AG} {at_ : AT} {ae ak : AE} {vs : List Nat}
theorem Dg {ai : AI} (k : ai EA ρ fun xs G ρ1=>W6 vs ρ1 ∧ lcA G ag at_ ae vs xs [] ρ1 Q) : aLc ai ag at_ ae vs EA ρ Q:=k
theorem Ro {ai : AI} (k : ai EA ρ fun xs G ρ1=>W6 vs ρ1 ∧ dcA G ag at_ ak ae vs xs [] ρ1 Q) : aDc ai ag at_ ak ae vs EA ρ Q:=k
theorem Lf {i : Nat} {d : D} {q : J0 → Prop} (k : q (ρ.set i (some (.v d)))) : Ub i d ρ q:=k
theorem JW3 {QB : Bool → J0 → Prop} (k : QB true ρ) : Za EA ρ QB:=k
theorem JJg {ae : AE} {QI : List D → (J0 → Prop) → J0 → Prop} (k : ae EA ρ fun x ρ1=>Yl x ρ1 fun d ρ2=>∃ xs,X6 d = some xs ∧ QI xs (fun _=>True) ρ2) : Vo ae EA ρ QI:=k
end
end Vs
namespace Vs
open PySem PySem.Spec PyProof.Rows L2
variable [Tbs]
section
variable {EA : AX} {ρ ρ' : J0} {Q : AK} {DA : AEnds} {QB : Bool → J0 → Prop} {x y o : A} {d e z : D} {C : Addr} {f m : Str} {sp : ASp} {dd : List D} {aa : AA} {ao ab : AE} {p : Prop}
theorem JL3 {c : Prop} [Decidable c] {p q : Prop} (h : c) (k : p) : if c then p else q:=by rw [if_pos h]; exact k
theorem JFk {c : Prop} [Decidable c] {p q : Prop} (h : ¬c) (k : q) : if c then p else q:=by rw [if_neg h]; exact k
theorem Qy {b : Bool} {p q : Prop} (h : b = true) (k : p) : if b = true then p else q:=JL3 h k
theorem Eh {b : Bool} {p q : Prop} (h : b = false) (k : q) : if b = true then p else q:=by subst h; exact JFk Bool.false_ne_true k
/-- x is an instance of C -/
def JVu (C : Addr) (m : Str) (x : A) (ρ : J0) (p : Prop) : Prop:=N0 C m x ρ ∧ p
theorem C4 {fs : List (Str × D)} (h1 : dat x ρ = some (.obj C fs)) (h2 : fs.lookup m = none) (k : p) : JVu C m x ρ p:=⟨⟨fs,h1,h2⟩,k⟩
theorem JYr (k : aa EA ρ fun xs ρ1=>U1 sp xs EA ρ1 Q) : Y4 sp [] aa EA ρ Q:=by
  unfold Y4
  simp only [List.map_nil,List.append_nil]
  exact k
theorem Cu (k : ao EA ρ fun o ρ1=>JVu C m o ρ1 (aa EA ρ1 fun xs ρ2=>U1 sp (o :: xs) EA ρ2 Q)) : Xp C m sp [] ao aa EA ρ Q:=by
  unfold Xp
  simp only [List.map_nil,List.append_nil]
  exact k
theorem D8 (k : aa EA ρ fun xs ρ1=>H7 C sp xs EA ρ1 Q) : Xx C sp [] aa EA ρ Q:=by
  unfold Xx
  simp only [List.map_nil,List.append_nil]
  exact k
/-- slices -/
def O8 (x : A) (lo hi : Option Int) (ρ : J0) (Q : AK) : Prop:=∃ d,dat x ρ = some d ∧ match d with
  | .lst xs=>Q (.lst (cutD xs lo hi)) ρ
  | .tup xs=>Q (.v (.tup (cutD xs lo hi))) ρ
  | _=>False
theorem A4 {al ah : AO} (k : ao EA ρ fun x ρ1=>al EA ρ1 fun lo ρ2=>ah EA ρ2 fun hi ρ3=>O8 x lo hi ρ3 Q) : Zk ao al ah EA ρ Q:=k
theorem Tx {xs : List D} {lo hi : Option Int} (h : dat x ρ = some (.tup xs)) (k : Q (.v (.tup (cutD xs lo hi))) ρ) : O8 x lo hi ρ Q:=⟨_,h,k⟩
theorem Dk {xs : List D} {lo hi : Option Int} (h : dat x ρ = some (.lst xs)) (k : Q (.lst (cutD xs lo hi)) ρ) : O8 x lo hi ρ Q:=⟨_,h,k⟩
theorem Af {q : Option Int → J0 → Prop} (k : q none ρ) : Zi EA ρ q:=k
def isI (x : A) (ρ : J0) (k : Int → Prop) : Prop:=∃ i,dat x ρ = some (.int i) ∧ k i
theorem JVi {i : Int} {k : Int → Prop} (h : dat x ρ = some (.int i)) (hk : k i) : isI x ρ k:=⟨i,h,hk⟩
theorem Dh {q : Option Int → J0 → Prop} (k : ao EA ρ fun x ρ1=>isI x ρ1 fun i=>q (some i) ρ1) : Zm ao EA ρ q:=k
/-- targets -/
theorem Qa {n : Nat} {b : AGs} {ds : List D} {q : J0 → Prop} (h : ds.length = n) (k : b ds ρ q) : Xa n b (.tup ds) ρ q:=⟨ds,rfl,h,k⟩
theorem JW9 {a : AG} {b : AGs} {r : List D} {q : J0 → Prop} (k : a d ρ fun ρ'=>b r ρ' q) : W4 a b (d :: r) ρ q:=⟨d,r,rfl,k⟩
theorem Q0 {q : J0 → Prop} (k : q ρ) : Xc [] ρ q:=⟨rfl,k⟩
/-- fields -/
def JYc (C : Addr) (f : Str) (o : A) (d : D) (ρ : J0) (nx : J0 → Prop) : Prop:=∃ j fs,o = .loc j ∧ ρ[j]? = some (some (.obj C fs)) ∧ (∀ p ∈ fs,∃ d,p.2 = .v d) ∧ fs.length ≤ 100 ∧ nx (ρ.set j (some (.obj C (Z1 f d fs))))
theorem JW5 {av ao : AE} (k : av DA.ex ρ fun x ρ1=>Yl x ρ1 fun d ρ2=>ao DA.ex ρ2 fun o ρ3=>JYc C f o d ρ3 DA.nx) : L7 C f av ao DA ρ:=k
theorem Rn {j : Nat} {fs : List (Str × A)} {nx : J0 → Prop} (h1 : ρ[j]? = some (some (.obj C fs))) (h2 : ∀ p ∈ fs,∃ d,p.2 = A.v d) (h3 : fs.length ≤ 100) (k : nx (ρ.set j (some (.obj C (Z1 f d fs))))) : JYc C f (.loc j) d ρ nx:=⟨j,fs,rfl,h1,h2,h3,k⟩
theorem Km : ∀ p ∈ ([] : List (Str × A)),∃ d,p.2 = A.v d:=fun _ h=>nomatch h
theorem JWs {f : Str} {d : D} : ∀ p ∈ ([(f,.v d)] : List (Str × A)),∃ d,p.2 = A.v d:=fun p h=>by
  rcases List.mem_cons.mp h with h | h
  · exact ⟨d,by rw [h]⟩
  · cases h
theorem JZj {fs : List (Str × D)} (h1 : lkA x ρ = some (.v (.obj C fs))) (h2 : fs.lookup f = some d) (k : Q (.v d) ρ) : Kg C f x ρ Q:=⟨_,d,h1,by simp only [X3,if_pos,h2],k⟩
theorem D2 {n : Nat} {d : D} (h : PlD n d) : PlD n d:=h
theorem JVv {y : A} (h : Bf y ≤ 100000) : Bf y ≤ 100000:=h
/-- get -/
def Os (x : A) (ρ : J0) (p : Prop) : Prop:=(∃ kvs,dat x ρ = some (.dic kvs)) ∧ p
def JZo (x y : A) (ρ : J0) (Q : AK) : Prop:=∃ kvs i k,dat x ρ = some (.dic kvs) ∧ dat y ρ = some i ∧ keyD i = some k ∧ Q (.v ((valD kvs k).getD .non)) ρ
theorem Qk (k : ao EA ρ fun x ρ1=>Os x ρ1 (ab EA ρ1 fun y ρ2=>JZo x y ρ2 Q)) : JNd ao ab EA ρ Q:=k
theorem JZb {kvs : List (Key × D)} (h : dat x ρ = some (.dic kvs)) (k : p) : Os x ρ p:=⟨⟨kvs,h⟩,k⟩
theorem JJ2 {kvs : List (Key × D)} {i : D} {ky : Key} (h1 : dat x ρ = some (.dic kvs)) (h2 : dat y ρ = some i) (h3 : keyD i = some ky) (h4 : (valD kvs ky).getD .non = z) (k : Q (.v z) ρ) : JZo x y ρ Q:=⟨kvs,i,ky,h1,h2,h3,by rw [h4]; exact k⟩
/-- in -/
theorem JVg {kvs : List (Key × D)} {ky : Key} (h1 : dat x ρ = some d) (h2 : dat y ρ = some (.dic kvs)) (h3 : keyD d = some ky) (k : Q (.v (.bl (valD kvs ky).isSome)) ρ) : aIn false x y ρ Q:=⟨d,_,_,h1,h2,⟨ky,h3,rfl⟩,k⟩
theorem JZ1 {kvs : List (Key × D)} {ky : Key} (h1 : dat x ρ = some d) (h2 : dat y ρ = some (.dic kvs)) (h3 : keyD d = some ky) (k : Q (.v (.bl (!(valD kvs ky).isSome))) ρ) : aIn true x y ρ Q:=⟨d,_,_,h1,h2,⟨ky,h3,rfl⟩,k⟩
theorem JFg {xs : List D} (h1 : dat x ρ = some d) (h2 : dat y ρ = some (.lst xs)) (h3 : PlD 20 d) (h4 : ∀ z ∈ xs,PlD 20 z) (k : Q (.v (.bl (!xs.any fun z=>deq z d))) ρ) : aIn true x y ρ Q:=⟨d,_,_,h1,h2,⟨h3,h4,rfl⟩,k⟩
theorem JPe {c : Nat} {z : Str} (h1 : dat x ρ = some (.str ⟨#[c]⟩)) (h2 : dat y ρ = some (.str z)) (k : Q (.v (.bl (decide (c ∈ z.cps.toList)))) ρ) : aIn false x y ρ Q:=⟨_,_,_,h1,h2,⟨c,rfl,rfl⟩,k⟩
theorem Tu {QI : List D → (J0 → Prop) → J0 → Prop} (k : aa EA ρ fun xs ρ1=>∃ x j,xs = [x] ∧ dat x ρ1 = some (.int j) ∧ -(2 ^ 62) ≤ j ∧ j < 2 ^ 62 ∧ QI (Wu 0 j.toNat) (fun _=>True) ρ1) : Ga aa EA ρ QI:=k
theorem JP9 {ds : List D} (h1 : dat x ρ = some (.lst ds)) (h2 : ∀ d ∈ ds,PlD 20 d) (h3 : PySem.W.AllAlike (ds.map pd)) (h4 : PySem.W.Sortable (ds.map pd)) (k : Q (.lst (X1 ds)) ρ) : Kw [x] ρ Q:=⟨x,_,rfl,h1,h2,h3,h4,k⟩
theorem Nk {G : J0 → Prop} {ag : AG} {at_ : AT} {ak ae : AE} {vs : List Nat} (W : List (Key × D) → List D → J0 → Prop) (h0 : ∀ acc ρ,W acc [] ρ → G ρ ∧ Q (.dic acc) ρ)
    (h1 : ∀ acc x xs ρ,W acc (x :: xs) ρ → (∀ acc ρ,W acc xs ρ → dcA G ag at_ ak ae vs xs acc ρ Q) → dcA G ag at_ ak ae vs (x :: xs) acc ρ Q) : ∀ (xs : List D) (acc : List (Key × D)) (ρ : J0),W acc xs ρ → dcA G ag at_ ak ae vs xs acc ρ Q
  | [],acc,ρ,w=>h0 acc ρ w
  | x :: xs,acc,ρ,w=>h1 acc x xs ρ w fun acc' ρ' w'=>Nk W h0 h1 xs acc' ρ' w'
end
inductive RX where
  | rt (r : A)
  | xc (C : Addr) (fs : List (Str × D))
section
variable {ι : Type} {args : ι → List A} {ok : ι → Prop} {po : ι → A → List A → Prop} {xc : ι → Addr → List (Str × D) → List A → Prop}
def Zq (O : List Nat) (xs : List A) (po : A → List A → Prop) (xc : Addr → List (Str × D) → List A → Prop) : AEnds where
  nx:=fun ρ=>∃ xs',fin O 0 xs ρ = some xs' ∧ po (.v .non) xs'
  rt:=fun r ρ=>∃ xs',fin O 0 xs ρ = some xs' ∧ po r xs'
  bk:=fun _=>False
  ct:=fun _=>False
  ex:=fun C fs ρ=>∃ xs',fin O 0 xs ρ = some xs' ∧ xc C fs xs'
variable {EA : AX} {ρ ρ' : J0} {Q : AK} {xs : List A}
variable {rs : ι → RX} {out : ι → List A}
end
section
variable {ρ : J0} {Q : AK} {G : J0 → Prop} {ag : AG} {at_ : AT} {ae ak : AE} {vs : List Nat}
/-- a comprehension whose steps leave all names as they are -/
theorem Ou (t : D → Bool) (f : D → D) (hG : G ρ) : ∀ (xs acc : List D),acc.length + xs.length ≤ 100000 →
    (∀ x ∈ xs,∀ (R : D → J0 → Prop) (N : J0 → Prop),(∀ ρ4,Yj vs ρ4 = ρ → t x = true → R (f x) ρ4) → (∀ ρ2,Yj vs ρ2 = ρ → t x = false → N ρ2) → ag x ρ fun ρ1=>at_ noX ρ1 fun b ρ2=>if b = true then ae noX ρ2 fun y ρ3=>Yl y ρ3 R else N ρ2) →
    Q (.lst (acc ++ (xs.filter t).map f)) ρ → lcA G ag at_ ae vs xs acc ρ Q
  | [],acc,_,_,hq=>⟨hG,by simpa using hq⟩
  | x :: xs,acc,hl,h,hq=>by
    simp only [List.length_cons] at hl
    refine ⟨hG,h x (List.mem_cons_self ..) (fun d ρ4=>acc.length ≤ 100000 ∧ lcA G ag at_ ae vs xs (acc ++ [d]) (Yj vs ρ4) Q) (fun ρ2=>lcA G ag at_ ae vs xs acc (Yj vs ρ2) Q) (fun ρ4 e ht=>?_) (fun ρ2 e ht=>?_)⟩
    · refine ⟨by omega,?_⟩
      rw [e]
      refine Ou t f hG xs _ (by simp; omega) (fun y hy=>h y (List.mem_cons_of_mem _ hy)) ?_
      simpa [List.filter_cons,ht] using hq
    · rw [e]
      refine Ou t f hG xs _ (by omega) (fun y hy=>h y (List.mem_cons_of_mem _ hy)) ?_
      simpa [List.filter_cons,ht] using hq
theorem Fq (t : D → Bool) (f : D → D) {xs : List D} (hG : G ρ) (hl : xs.length ≤ 100000)
    (h : ∀ x ∈ xs,∀ (R : D → J0 → Prop) (N : J0 → Prop),(∀ ρ4,Yj vs ρ4 = ρ → t x = true → R (f x) ρ4) → (∀ ρ2,Yj vs ρ2 = ρ → t x = false → N ρ2) → ag x ρ fun ρ1=>at_ noX ρ1 fun b ρ2=>if b = true then ae noX ρ2 fun y ρ3=>Yl y ρ3 R else N ρ2)
    (hq : Q (.lst ((xs.filter t).map f)) ρ) : lcA G ag at_ ae vs xs [] ρ Q:=Ou t f hG xs [] (by simpa using hl) h (by simpa using hq)
theorem Hy {xs : List D} : xs.filter (fun _=>true) = xs:=List.filter_eq_self.mpr fun _ _=>rfl
end
end Vs
namespace Vs
open PySem PySem.Spec PyProof.Rows L2
end Vs
set_option maxHeartbeats 2000000
namespace Vs
variable [Tbs]
section
open PySem PySem.SeqAt
open AutoSeq1 (wpAny_loadPart')
open MeetsSeq MeetsSeq2 MeetsSeq3 SeqRoads2
variable {prog : Program} {w : World} {A : Around} {Rz : Result → Shared → Prop}
theorem JKc (p q : Addr) (us vs : Array Value) (m1 m2 : Nat) (e1 e2 : Option Addr) (l1 l2 : Array (Option Value)) (len : us.size = vs.size) (J : Nat → Shared → Prop)
    (go : ∀ k (a1 : k < us.size) (a2 : k < vs.size) s,J k s → wpAny (model prog w) A.in1 (eqBool us[k] vs[k]) (fun r z=>r = true ∧ J (k + 1) z) (fun e z=>Rz (.error e) z) s)
    (ends : ∀ s,J us.size s → Rz (.ok (.ret (.bool false))) s) {s : Shared} (g1 : s.heap.get? p = some { cls:=.type "tuple",dict:=e1,data:=.seq us m1,slots:=l1 }) (g2 : s.heap.get? q = some { cls:=.type "tuple",dict:=e2,data:=.seq vs m2,slots:=l2 }) (j0 : J 0 s) :
    wpAny (model prog w) A.in1 (Builtin.«tuple.__ne__» ⟨[.ref p,.ref q],[]⟩) (GQ.FinOf prog w A Rz) (fun e z=>Rz (.error e) z) s:=by
  have isSub:=AutoSeq1.sub_tuple_tuple
  have zl : (us.toList.zip vs.toList).length = us.size:=by simp [len]
  have j1:=j0
  obtain ⟨hp,ge,dr,tk,os⟩:=s
  wp_walk using wpAny_loadPart' g1,wpAny_loadPart' g2,wpAny_forIn_list _ (fun more c z=>c.1 = none ∧ ∃ k,more = (us.toList.zip vs.toList).drop k ∧ k ≤ us.size ∧ J k z) _
  case turn =>
    rintro ⟨a,b⟩ more c z ⟨c0,k,hm,hk,hJ⟩
    have lt : k < (us.toList.zip vs.toList).length:=by
      rcases Nat.lt_or_ge k (us.toList.zip vs.toList).length with x | x
      · exact x
      · rw [List.drop_of_length_le x] at hm; cases hm
    have a1 : k < us.size:=zl ▸ lt
    have a2 : k < vs.size:=len ▸ a1
    rw [List.drop_eq_getElem_cons lt] at hm
    injection hm with hab hmore
    have ea : a = us[k]:=by have:=congrArg Prod.fst hab; simpa using this
    have eb : b = vs[k]:=by have:=congrArg Prod.snd hab; simpa using this
    subst ea eb
    refine wpAny_bind (wpAny_mono (go k a1 a2 z hJ) (fun r z2 hz=>?_) fun _ _ x=>x)
    obtain ⟨rfl,hz⟩:=hz
    wp_walk
    exact ⟨rfl,k + 1,hmore,a1,hz⟩
  case fin =>
    rintro ⟨c1,c2⟩ z ⟨c0,k,hm,hk,hJ⟩
    simp only at c0
    subst c0
    have ge' : us.size ≤ k:=by
      rcases Nat.lt_or_ge k (us.toList.zip vs.toList).length with x | x
      · rw [List.drop_eq_getElem_cons x] at hm; cases hm
      · exact zl ▸ x
    have ek : k = us.size:=by omega
    have done_ : Rz (.ok (.ret (.bool false))) z:=ends z (ek ▸ hJ)
    wp_walk
    simpa [Builtin.Tuple.tupleCompareSizes,len] using done_
  case h =>
    exact ⟨rfl,0,rfl,Nat.zero_le _,j1⟩
theorem JFf {E : Value → Shared → Prop} {s : Shared} {p q : Addr} {us vs : Array Value} {Q : Value → Shared → Prop} (len : us.size = vs.size) (hu : A.units < cLine) (J : Nat → Shared → Prop) (h1 : s.heap.IsTuple p us) (h2 : s.heap.IsTuple q vs)
    (go : ∀ k (a1 : k < us.size) (a2 : k < vs.size) s,J k s → wpAny (model prog w) A.in1 (eqBool us[k] vs[k]) (fun r z=>r = true ∧ J (k + 1) z) E s)
    (ends : ∀ s,J us.size s → Q (.bool false) s) (j0 : J 0 s) : wpAny (model prog w) A (richCompare .NotEq (.ref p) (.ref q)) Q E s:=by
  obtain ⟨⟨c1,d1,t1,l1⟩,o1,e1,m1,f1⟩:=id h1
  obtain ⟨⟨c2,d2,t2,l2⟩,o2,e2,m2,f2⟩:=id h2
  simp only at e1 f1 e2 f2
  subst e1 f1 e2 f2
  refine wpAny_richCompare_same_room (op:=.NotEq) ⟨_,o1,rfl⟩ ⟨_,o2,rfl⟩ F.slot_tuple_ne (GQ.call_here F.slot_tuple_ne ⟨_,o1,rfl⟩ F.entry_tuple_ne (F.args_tuple_ne_2 _ _) ?_) hu
  exact JKc (Rz:=wants (fun v z=>v ≠ .notImplemented ∧ Q v z) E) p q us vs m1 m2 d1 d2 l1 l2 len J go (fun z hz=>⟨(fun x=>nomatch x),ends z hz⟩) o1 o2 j0
end
section
open PySem PySem.Spec PyProof.Rows L2
variable {X : Cx} {P : Pm} {K : Fg} {n : Nat}
/-- two values of one datum -/
def Vk (K : Fg) (d : D) : Eqv:=fun x y H=>Rep K H d x ∧ Rep K H d y
theorem JJ9 {d : D} : Mon (Vk K d):=fun x y H H' e h=>⟨Rep.le (Le.of_same e) d x h.1,Rep.le (Le.of_same e) d y h.2⟩
theorem F6 : ∀ (n : Nat) (d : D),PlD n d → deq d d = true:=fun n d h=>by
  rw [Zz n d d h h]
  exact SeqAt.eqv_refl_plain _ (Vx n d h).1
theorem JM8 {d : D} (h : PlD 20 d) : EqG X n (Vk X.K d):=by
  intro A pins s σ H x y u v sb I rx ry dd
  obtain ⟨as,r1⟩:=Dp.reads I _ x u (V5 20 d x h dd.1) rx
  obtain ⟨bs,r2⟩:=Dp.reads I _ y v (V5 20 d y h dd.2) ry
  obtain ⟨a1,a2⟩:=Vx 20 d h
  have hu:=sb.room.units
  have q:=SeqAt.eqAt_plain _ _ A s u v as bs r1 r2 a1 a1 (by have:=Nat.min_le_left (pd d).depth (pd d).depth; omega)
  rw [← Zz 20 d d h h,F6 20 d h] at q
  exact q X.prog X.w X.xe _ ⟨rfl,H,I,Ext.rfl'⟩
theorem JFe : EqG X n (Vk X.K (.dic [])):=by
  intro A pins s σ H x y u v sb I rx ry dd
  obtain ⟨r1,r2⟩:=dd
  simp only [Rep,RepK] at r1 r2
  obtain ⟨a,ws,rfl,h1,rfl⟩:=r1
  obtain ⟨b,us,rfl,h2,rfl⟩:=r2
  cases rx
  cases ry
  have hu:=sb.room.units
  by_cases hab : a = b
  · subst hab
    exact SeqAt.EqAt.same (A:=A) (s:=s) (.ref a) X.prog X.w X.xe _ ⟨rfl,H,I,Ext.rfl'⟩
  · obtain ⟨_,ya,va,ra,da⟩:=h1.ok I.hok
    obtain ⟨_,yb,vb,rb,db⟩:=h2.ok I.hok
    have ea : va = []:=List.eq_nil_of_length_eq_zero ra.length.symm
    have eb : vb = []:=List.eq_nil_of_length_eq_zero rb.length.symm
    subst ea eb
    have t : PySem.W.EqTree X.prog X.w s (0 + 1) (.ref a) (.ref b) _:=.dicts (e:=fun _=>true) hab ya yb da db (fun _ _ _ z=>nomatch z)
    exact t.at A (by omega) X.xe _ ⟨rfl,H,I,Ext.rfl'⟩
omit [Tbs] in
theorem JFz {C : Addr} {sp : ASp} {fs : List (Str × D)} (T : @EqC tbs0 X.prog X.w X.K X.mg X.base C n sp) (hp : sp.pre [.v (.obj C fs),.v (.obj C fs)]) (hq : ∀ r xs',sp.post [.v (.obj C fs),.v (.obj C fs)] r xs' → r = .v (.bl true)) (hx : ∀ Ce gs xs',¬ sp.exc [.v (.obj C fs),.v (.obj C fs)] Ce gs xs') : EqG X n (Vk X.K (.obj C fs)):=by
  letI : Tbs:=tbs0
  obtain ⟨f,fd,ps,hs,hf,hb,F⟩:=T.ex
  have F' : FnOk X.prog X.w X.K X.mg X.base (L2.CX X.prog X.w) n f fd ps (spEq fun a b H=>Rep X.K H (.obj C fs) (.ref a) ∧ Rep X.K H (.obj C fs) (.ref b)):=F.imp fun vs H Q E z=>by
    obtain ⟨a,b,rfl,⟨ra,rb⟩,q⟩:=z
    refine ⟨⟨H,H,[]⟩,H,[.v (.obj C fs),.v (.obj C fs)],rfl,rfl,?_,fun _ _ e=>e,fun _ _ e=>e,hp,fun r xs' v H' S' h1 _ _ st=>?_,fun Ce gs xs' dd H' S' h1=>(hx _ _ _ h1).elim⟩
    · refine ⟨⟨[],?_,List.nodup_nil,(fun _ h=>nomatch h)⟩,?_,(fun _ _ h=>nomatch h),Le.of_same (fun _ _ e=>e),(fun _ _ e=>e),(fun _ _=>rfl),(fun _ _ e=>e),(fun _ h=>nomatch h),(fun _ h=>nomatch h)⟩
      · simp [Y2,Yc,RepP,RepA,ra,rb]
      · exact Fj (vs:=[.ref a,.ref b]) (xs:=[.v (.obj C fs),.v (.obj C fs)]) rfl fun x hx=>by
          have : x = .v (.obj C fs):=by simpa using hx
          subst this
          rfl
    · have e:=hq _ _ h1
      subst e
      obtain ⟨g,hg⟩:=st.held2 (List.mem_cons_self ..) (y:=.v (.bl true)) rfl
      simp only [RepA,Rep] at hg
      rw [hg.1]
      exact q H' st.r
  refine (eqG_ins (E:=fun _ _ _=>False) F' hs hf hb (fun pins σ H s e s' I z=>(Pf _ _ _ _ _ z).elim)).imp fun x y H d=>?_
  obtain ⟨h1,h2⟩:=d
  have h1':=h1
  have h2':=h2
  simp only [Rep] at h1 h2
  obtain ⟨a,dx,ws,rfl,a1,_⟩:=h1
  obtain ⟨b,dy,us,rfl,b1,_⟩:=h2
  exact ⟨a,b,dx,dy,ws,us,rfl,rfl,a1,b1,h1',h2'⟩
def K9 (K : Fg) (G : D → Prop) : R2:=fun x y H Q=>∃ ds,Rep K H (.tup ds) x ∧ Rep K H (.tup ds) y ∧ (∀ d ∈ ds,G d) ∧ ∀ H',Ext H H' → Q (.bl false) H'
theorem Pp {ds : List D} {H : Hp} : ∀ {es : List D} {xs ys : List V},(∀ d ∈ es,d ∈ ds) → RepL K H es xs → RepL K H es ys → Prs (fun x y H=>∃ d ∈ ds,Vk K d x y H) xs ys H
  | [],xs,ys,_,h1,h2=>by
    simp only [RepL] at h1 h2
    subst h1 h2
    exact Prs.nil
  | e :: es,xs,ys,hm,h1,h2=>by
    simp only [RepL] at h1 h2
    obtain ⟨x,xs',rfl,a1,a2⟩:=h1
    obtain ⟨y,ys',rfl,b1,b2⟩:=h2
    exact Prs.cons ⟨e,hm e (List.mem_cons_self ..),a1,b1⟩ (Pp (fun d hd=>hm d (List.mem_cons_of_mem _ hd)) a2 b2)
theorem JG2 {G : D → Prop} (hG : ∀ d,G d → EqG X n (Vk X.K d)) (hr : Room (n + 1) X.A) : OpR X (compareOp .NotEq) (K9 X.K G):=by
  intro pins s σ H x y v u Q I rx ry h
  obtain ⟨ds,r1,r2,hd,q⟩:=h
  simp only [Rep] at r1 r2
  obtain ⟨a,xs,rfl,a1,a2⟩:=r1
  obtain ⟨b,ys,rfl,b1,b2⟩:=r2
  cases rx
  cases ry
  have E : EqG X n (fun x y H=>∃ d ∈ ds,Vk X.K d x y H):=fun A pins s σ H x y u v sb I rx ry ⟨d,hm,z⟩=>hG d (hd d hm) A pins s σ H x y u v sb I rx ry z
  have M : Mon (fun x y H=>∃ d ∈ ds,Vk X.K d x y H):=fun x y H H' e ⟨d,hm,z⟩=>⟨d,hm,JJ9 x y H H' e z⟩
  have p:=Pp (K:=X.K) (ds:=ds) (fun _ h=>h) a2 b2
  obtain ⟨its,r,e,z⟩:=I.tuple a1
  obtain ⟨its2,r',e',z'⟩:=I.tuple b1
  have hsz : its.toArray.size = its2.toArray.size:=by rw [List.size_toArray,List.size_toArray,← r.length,← r'.length]; exact p.1
  have sb : Sub X (n + 1) X.A:=⟨hr,rfl⟩
  show wpAny (model X.prog X.w) X.A (richCompare .NotEq (.ref a) (.ref b)) (EP X pins σ Q) X.xe s
  exact JFf hsz hr.units0 (fun _ t=>LoopI X pins σ H t) e e' (fun i h1 h2 t w=>turnG M E sb p r r' i h1 h2 t w) (fun t ⟨H',I',ee⟩=>⟨.bl false,H',I',rfl,q H' ee⟩) ⟨H,I,Ext.rfl'⟩
theorem Stt.grow {c : Ctx} {S H H' : Hp} {σ : L2.St} {ρ : J0} {τ : List (V × A)} (s : Stt K c S H σ ρ τ) (e : Ext H H') : Stt K c S H' σ ρ τ:=by
  refine ⟨?_,s.env,s.loc,fun a o h=>?_,fun a o h=>e _ _ (s.r a o h),s.new,s.up,s.os,s.tb.mv (fun _ _ _ z=>z) (fun _ _ _ z=>z) (Same.refl S) fun b u _ z=>e b u z⟩
  · obtain ⟨fp,h1,h2,h3⟩:=s.own
    refine ⟨fp,RepP.keep (fun _ _ e=>e) (fun a ha=>?_) h1,h2,h3⟩
    have:=h1.there a ha
    cases q : H a with
    | none=>exact absurd q this
    | some o=>exact e _ _ q
  · rcases s.le a o h with q | ⟨ob,ws,q1,q2⟩
    · exact .inl (e _ _ q)
    · exact .inr ⟨ob,ws,q1,e _ _ q2⟩
def JZ6 (G : D → Prop) : AR2:=fun x y ρ Q=>∃ ds,dat x ρ = some (.tup ds) ∧ dat y ρ = some (.tup ds) ∧ (∀ d ∈ ds,G d) ∧ Q (.v (.bl false)) ρ
theorem JGk {G : D → Prop} : Yu K (K9 K G) (JZ6 G):=by
  intro c τ S H σ ρ vx vy x y Q R s q k
  obtain ⟨ds,h1,h2,hd,q⟩:=q
  obtain ⟨r1,r2⟩:=Vj s h1 h2
  exact ⟨ds,r1,r2,hd,fun H' e=>k _ _ (KE.sc ((s.grow e).drop.drop) rfl q)⟩
end
end Vs
set_option maxHeartbeats 1000000
namespace Vs
open PySem PySem.Spec PyProof.Rows L2
variable [Tbs]
section
variable {X : Cx} {P : Pm} {K : Fg} {C : Addr} {x : Str} {k n : Nat} {sp : ASp} {ps : List Str} {dd : List D} {e : Expr} {es : List Expr} {aa : AA} {p pos : Pos}
/-- data that are equal to themselves -/
def GOk (Pr : Program) (w : World) (K : Fg) (mg : Str → Option Value) (base : Heap) (n : Nat) (d : D) : Prop:=PlD 20 d ∨ d = .dic [] ∨ ∃ C fs sp k,k ≤ n ∧ @EqC tbs0 Pr w K mg base C k sp ∧ d = .obj C fs ∧ sp.pre [.v d,.v d] ∧ (∀ r xs',sp.post [.v d,.v d] r xs' → r = .v (.bl true)) ∧ ∀ Ce gs xs',¬ sp.exc [.v d,.v d] Ce gs xs'
theorem GOk.eqG {d : D} (h : GOk X.prog X.w X.K X.mg X.base n d) : EqG X n (Vk X.K d):=by
  rcases h with h | rfl | ⟨C,fs,sp,k,hk,T,rfl,h1,h2,h3⟩
  · exact JM8 h
  · exact JFe
  · exact (JFz T h1 h2 h3).mono hk
def Lg (G : D → Prop) : AR2:=fun x y ρ Q=>aNe x y ρ Q ∨ JZ6 G x y ρ Q
theorem JLg {r : R2} {G : D → Prop} (h : Yu K r aNe) : Yu K (fun x y H Q=>r x y H Q ∨ K9 K G x y H Q) (Lg G):=by
  intro c τ S H σ ρ vx vy x y Q R s q k
  rcases q with q | q
  · exact .inl (h c τ S H σ ρ vx vy x y Q R s q k)
  · exact .inr (JGk c τ S H σ ρ vx vy x y Q R s q k)
theorem JXz {G : D → Prop} {m : Nat} (hG : ∀ d,G d → GOk X.prog X.w X.K X.mg X.base n d) (hr : Room m X.A) (hm : n + 1 ≤ m:=by decide) : OpR X (compareOp .NotEq) (fun x y H Q=>Ph X.K x y H Q ∨ K9 X.K G x y H Q):=Vs.OpR.or (F8 hr.units) (JG2 (fun d h=>(hG d h).eqG) (hr.mono hm))
theorem JGa {ρ : J0} {Q : AK} {G : D → Prop} {x y : A} (h : aNe x y ρ Q) : Lg G x y ρ Q:=.inl h
end
end Vs
set_option maxHeartbeats 2000000
namespace Vs
open PySem PySem.Spec PyProof.Rows L2 PpSet
variable [Tbs]
def JJw (e : Int × Value) : Str:=match e.2 with | .str k _=>k | _=>Str.empty
def JLm (w : World) (e : Int × Value) : Prop:=∃ k t,e.2 = Value.str k t ∧ e.1 = hashStr w k
/-- the set of the texts l at a; its table rises and can be walked -/
def SetT (w : World) (h : Heap) (a : Addr) (l : List Str) : Prop :=
  ∃ o es ep t,h.get? a = some o ∧ o.ExactSet ∧ o.data = .set es ep t ∧ (∀ e ∈ es.toList,JLm w e) ∧ (es.toList.map JJw).Nodup ∧ (∀ k,k ∈ l ↔ k ∈ es.toList.map JJw) ∧
    es.size ≤ l.length ∧ t.fits es.size = true ∧ Ris t.place.toList ∧ (w.params.followText "set-order" = true ∨ t.led = true)
section
variable {P : Program} {w : World} {h h' : Heap} {a : Addr} {l : List Str}
theorem SetT.at (R : SetT w h a l) (k : ∀ o,h.get? a = some o → h'.get? a = some o) : SetT w h' a l:=by
  obtain ⟨o,es,ep,t,ho,r⟩:=R
  exact ⟨o,es,ep,t,k o ho,r⟩
end
section
variable {P : Program} {w : World} {A : Around} {E : Value → Shared → Prop} {s : Shared} {a : Addr} {l : List Str}
theorem SetT.typeIs (R : SetT w s.heap a l) : s.TypeIs (.ref a) "set":=by
  obtain ⟨o,es,ep,t,ho,hex,_⟩:=R
  exact ⟨o,ho,hex.1⟩
end
end Vs
namespace Vs
open PySem PySem.Spec PyProof.Rows L2 PpSet
end Vs
namespace Vs
open PySem PySem.Spec PyProof.Rows L2
variable [Tbs]
def Nz (o iv : A) (ρ : J0) (Q : AK) : Prop:=∃ j xs k z,o = .loc j ∧ ρ[j]? = some (some (.lst xs)) ∧ dat iv ρ = some (.int (k : Nat)) ∧ xs.length ≤ 100000 ∧ xs[k]? = some z ∧ Q (.v z) (ρ.set j (some (.lst (xs.eraseIdx k))))
def Ls (ao ai : AE) : AE:=fun EA ρ Q=>ao EA ρ fun o ρ1=>(∃ xs,dat o ρ1 = some (.lst xs)) ∧ ai EA ρ1 fun iv ρ2=>Nz o iv ρ2 Q
section
variable {X : Cx} {P : Pm} {K : Fg} {S : Hp}
theorem RepL.erase {xs : List D} {vs : List V} (n : Nat) (h : RepL K S xs vs) : RepL K S (xs.eraseIdx n) (vs.eraseIdx n):=by
  rw [List.eraseIdx_eq_take_drop_succ,List.eraseIdx_eq_take_drop_succ]
  exact (h.take n).app (h.drop (n + 1))
theorem RepL.dropLast {xs : List D} {vs : List V} (h : RepL K S xs vs) : RepL K S xs.dropLast vs.dropLast:=by
  rw [List.dropLast_eq_take,List.dropLast_eq_take,h.len]
  exact h.take _
theorem JFt {o e : Expr} {ao ae : AE} {apos cpos : Pos} (ho' : QE X P o ao) (he : QE X P e ae) (hbase : attributeBase o "pop" X.env (eval o X.env) = eval o X.env:=by rfl)
    (hfew : ((backTo cpos (starEach (e :: []) X.env)).all (fun x=>!x.1) && (backToKw cpos (keywordEach [] X.env)).all (fun x=>x.1.isSome)
      && decide ((e :: []).length + ([] : List Keyword).length + (if ([] : List Keyword).isEmpty then 0 else 1) < 30)) = true:=by rfl)
    (hline : (apos.endLine == cpos.line) = true:=by rfl) (hs : starEach [e] X.env = (false,eval e X.env) :: starEach [] X.env:=by rfl) (hplain : (backTo cpos (starEach [] X.env)).any (·.1) = false:=by rfl) :
    QE X P (.Call (.Attribute o "pop" apos) [e] [] cpos) (Ls ao ae):=by
  obtain ⟨to,po,so⟩:=ho'.ex
  obtain ⟨te,pe,se⟩:=he.ex
  refine ⟨_,pe_bm PySem.F.plainAttrs_list PySem.F.slot_list_pop PySem.F.type_list_pop mt_popAt po (pa_cons pe pa_nil hs) hbase hfew hline hs hplain,fun c EA ho hw τ S H σ ρ Q R st q k=>so c EA ho hw τ S H σ ρ _ _ st q fun vo H1 ⟨S1,ρ1,xo,s1,⟨xs0,h0⟩,q1⟩=>?_⟩
  obtain ⟨y0,g0,r0,e0⟩:=s1.thing (List.mem_cons_self ..) h0
  obtain ⟨p,vs,rfl,h3,h4⟩:=Vw r0 e0 s1.le
  refine ⟨.inl ⟨rfl,vs,h3⟩,se c EA ho hw _ S1 H1 σ ρ1 _ _ s1 q1 fun v H2 ⟨S2,ρ2,x,s2,j,xs,kk,z,eo,hj,hk,hl,hz,q2⟩=>?_⟩
  subst eo
  have hvo : σ[j]? = some (some (.ref p)):=(s2.loc _ j (by simp)).1
  obtain ⟨g,ra⟩:=s2.slotA hj hvo
  obtain ⟨p',ws,e1,hp,rl,rfl⟩:=ra.lst_inv
  cases e1
  have rk:=s2.dat (List.mem_cons_self ..) hk
  simp only [Rep] at rk
  subst rk
  obtain ⟨v,hv,rv⟩:=rl.get hz
  have hlt : kk < xs.length:=(List.getElem?_eq_some_iff.mp hz).1
  refine ⟨p,ws,kk,kk,v,rfl,rfl,hp,by omega,by omega,?_,hv,?_⟩
  · unfold seqIndex?
    have hlt' : kk < ws.length:=by rw [rl.len]; exact hlt
    have h0 : ¬ ((kk : Int) < 0):=by omega
    have h1 : ((kk : Int) < (ws.length : Int)):=by omega
    simp only [if_neg h0]
    simp [h1]
  have s5:=s2.write (o:=.lst (ws.eraseIdx kk)) (y':=.lst (xs.eraseIdx kk)) hj hvo (fun g' h=>by obtain ⟨a',_,e,_,_,e2⟩:=h.lst_inv; cases e; exact e2) rfl (.mk_lst upd_same (rl.erase kk))
  exact k _ _ ⟨S2,_,.v z,s5.drop.drop.hold rv,q2⟩
end
section
variable {EA : AX} {ρ : J0} {Q : AK}
theorem JG5 {ao ai : AE} (k : ao EA ρ fun o ρ1=>isL o ρ1 (ai EA ρ1 fun iv ρ2=>Nz o iv ρ2 Q)) : Ls ao ai EA ρ Q:=k
theorem JOk {j : Nat} {xs : List D} {z : D} {iv : A} {kk : Nat} (h1 : ρ[j]? = some (some (.lst xs))) (h3 : dat iv ρ = some (.int (kk : Nat))) (h4 : xs.length ≤ 100000) (h2 : xs[kk]? = some z) (k : Q (.v z) (ρ.set j (some (.lst (xs.eraseIdx kk))))) : Nz (.loc j) iv ρ Q:=⟨j,xs,kk,z,rfl,h1,h3,h4,h2,k⟩
end
end Vs
set_option maxHeartbeats 1000000
namespace Vs
open PySem PySem.Spec PyProof.Rows L2
variable [Tbs]
def CE (ae : AE) : Prop:=∀ {ι : Type} [Nonempty ι] {EA : ι → AX} {EA' : AX} {ρ : J0} {Q : ι → AK} {Q' : AK},(∀ i,ae (EA i) ρ (Q i)) → (∀ C fs ρ,(∀ i,EA i C fs ρ) → EA' C fs ρ) → (∀ x ρ,(∀ i,Q i x ρ) → Q' x ρ) → ae EA' ρ Q'
def CT (at_ : AT) : Prop:=∀ {ι : Type} [Nonempty ι] {EA : ι → AX} {EA' : AX} {ρ : J0} {Q : ι → Bool → J0 → Prop} {Q' : Bool → J0 → Prop},(∀ i,at_ (EA i) ρ (Q i)) → (∀ C fs ρ,(∀ i,EA i C fs ρ) → EA' C fs ρ) → (∀ x ρ,(∀ i,Q i x ρ) → Q' x ρ) → at_ EA' ρ Q'
def CA (aa : AA) : Prop:=∀ {ι : Type} [Nonempty ι] {EA : ι → AX} {EA' : AX} {ρ : J0} {Q : ι → List A → J0 → Prop} {Q' : List A → J0 → Prop},(∀ i,aa (EA i) ρ (Q i)) → (∀ C fs ρ,(∀ i,EA i C fs ρ) → EA' C fs ρ) → (∀ x ρ,(∀ i,Q i x ρ) → Q' x ρ) → aa EA' ρ Q'
def CO (ao : AO) : Prop:=∀ {ι : Type} [Nonempty ι] {EA : ι → AX} {EA' : AX} {ρ : J0} {Q : ι → Option Int → J0 → Prop} {Q' : Option Int → J0 → Prop},(∀ i,ao (EA i) ρ (Q i)) → (∀ C fs ρ,(∀ i,EA i C fs ρ) → EA' C fs ρ) → (∀ x ρ,(∀ i,Q i x ρ) → Q' x ρ) → ao EA' ρ Q'
def CI (ai : AI) : Prop:=∀ {ι : Type} [Nonempty ι] {EA : ι → AX} {EA' : AX} {ρ : J0} {Q : ι → List D → (J0 → Prop) → J0 → Prop} {Q' : List D → (J0 → Prop) → J0 → Prop},(∀ i,ai (EA i) ρ (Q i)) → (∀ C fs ρ,(∀ i,EA i C fs ρ) → EA' C fs ρ) → (∀ x G ρ,(∀ i,Q i x G ρ) → Q' x G ρ) → ai EA' ρ Q'
def CG (ag : AG) : Prop:=∀ {ι : Type} [Nonempty ι] {d : D} {ρ : J0} {Q : ι → J0 → Prop} {Q' : J0 → Prop},(∀ i,ag d ρ (Q i)) → (∀ ρ,(∀ i,Q i ρ) → Q' ρ) → ag d ρ Q'
def CGs (ag : AGs) : Prop:=∀ {ι : Type} [Nonempty ι] {d : List D} {ρ : J0} {Q : ι → J0 → Prop} {Q' : J0 → Prop},(∀ i,ag d ρ (Q i)) → (∀ ρ,(∀ i,Q i ρ) → Q' ρ) → ag d ρ Q'
def C2 (ra : AR2) : Prop:=∀ {ι : Type} [Nonempty ι] {x y : A} {ρ : J0} {Q : ι → AK} {Q' : AK},(∀ i,ra x y ρ (Q i)) → (∀ x ρ,(∀ i,Q i x ρ) → Q' x ρ) → ra x y ρ Q'
def C1 (ra : AR1) : Prop:=∀ {ι : Type} [Nonempty ι] {x : A} {ρ : J0} {Q : ι → AK} {Q' : AK},(∀ i,ra x ρ (Q i)) → (∀ x ρ,(∀ i,Q i x ρ) → Q' x ρ) → ra x ρ Q'
def Cs (ra : ARs) : Prop:=∀ {ι : Type} [Nonempty ι] {x : List A} {ρ : J0} {Q : ι → AK} {Q' : AK},(∀ i,ra x ρ (Q i)) → (∀ x ρ,(∀ i,Q i x ρ) → Q' x ρ) → ra x ρ Q'
structure Cov {ι : Type} (DA : ι → AEnds) (D' : AEnds) : Prop where
  nx : ∀ ρ,(∀ i,(DA i).nx ρ) → D'.nx ρ
  rt : ∀ x ρ,(∀ i,(DA i).rt x ρ) → D'.rt x ρ
  bk : ∀ ρ,(∀ i,(DA i).bk ρ) → D'.bk ρ
  ct : ∀ ρ,(∀ i,(DA i).ct ρ) → D'.ct ρ
  ex : ∀ C fs ρ,(∀ i,(DA i).ex C fs ρ) → D'.ex C fs ρ
def CS (a : AS) : Prop:=∀ {ι : Type} [Nonempty ι] {DA : ι → AEnds} {D' : AEnds} {ρ : J0},(∀ i,a (DA i) ρ) → Cov DA D' → a D' ρ
theorem i0 {ι : Type} [h : Nonempty ι] : ∃ _ : ι,True:=let ⟨i⟩:=h; ⟨i,trivial⟩
section
variable {ι : Type} [Nonempty ι]
theorem Wp {x : A} {ρ : J0} {Q : ι → D → J0 → Prop} {Q' : D → J0 → Prop} (h : ∀ i,Yl x ρ (Q i)) (k : ∀ d ρ,(∀ i,Q i d ρ) → Q' d ρ) : Yl x ρ Q':=by
  cases x with
  | loc j =>
    obtain ⟨i,_⟩:=i0 (ι:=ι)
    obtain ⟨y,hy,_⟩:=h i
    refine ⟨y,hy,k _ _ fun i=>?_⟩
    obtain ⟨z,hz,q⟩:=h i
    rw [hy] at hz
    cases hz
    exact q
  | _=>exact k _ _ h
theorem O9 : ∀ {xs : List A} {ρ : J0} {Q : ι → List D → J0 → Prop} {Q' : List D → J0 → Prop},(∀ i,Z6 xs ρ (Q i)) → (∀ d ρ,(∀ i,Q i d ρ) → Q' d ρ) → Z6 xs ρ Q'
  | [],_,_,_,h,k=>k _ _ h
  | x :: xs,_,_,_,h,k=>Wp h fun d ρ h1=>O9 h1 fun ds ρ h2=>k _ _ h2
theorem JGj {x : A} {ρ : J0} {Q : ι → A → J0 → Prop} {Q' : A → J0 → Prop} (h : ∀ i,Z9 x ρ (Q i)) (k : ∀ d ρ,(∀ i,Q i d ρ) → Q' d ρ) : Z9 x ρ Q':=by
  cases x with
  | loc j =>
    obtain ⟨i,_⟩:=i0 (ι:=ι)
    obtain ⟨y,hy,_⟩:=h i
    refine ⟨y,hy,k _ _ fun i=>?_⟩
    obtain ⟨z,hz,q⟩:=h i
    rw [hy] at hz
    cases hz
    exact q
  | _=>exact k _ _ h
theorem JM7 {x : A} {ρ : J0} {j : Nat} {Q : ι → J0 → Prop} {Q' : J0 → Prop} (h : ∀ i,Ze x ρ j (Q i)) (k : ∀ ρ,(∀ i,Q i ρ) → Q' ρ) : Ze x ρ j Q':=by
  cases x with
  | loc j =>
    obtain ⟨i,_⟩:=i0 (ι:=ι)
    obtain ⟨y,hy,_⟩:=h i
    refine ⟨y,hy,k _ fun i=>?_⟩
    obtain ⟨z,hz,q⟩:=h i
    rw [hy] at hz
    cases hz
    exact q
  | _=>exact k _ h
/-- a truth value -/
theorem Lm {x : A} {ρ : J0} {Q : ι → Bool → Prop} {Q' : Bool → Prop} (h : ∀ i,∃ b,dat x ρ = some (.bl b) ∧ Q i b) (k : ∀ b,(∀ i,Q i b) → Q' b) : ∃ b,dat x ρ = some (.bl b) ∧ Q' b:=by
  obtain ⟨i,_⟩:=i0 (ι:=ι)
  obtain ⟨b,hb,_⟩:=h i
  refine ⟨b,hb,k _ fun i=>?_⟩
  obtain ⟨c,hc,q⟩:=h i
  rw [hb] at hc
  cases hc
  exact q
theorem Xe {b : Bool} {p q : ι → Prop} {p' q' : Prop} (h : ∀ i,if b = true then p i else q i) (k1 : (∀ i,p i) → p') (k2 : (∀ i,q i) → q') : if b = true then p' else q':=by
  cases b with
  | true=>exact k1 h
  | false=>exact k2 h
theorem V1 {p : Prop} {q : ι → Prop} {q' : Prop} (h : ∀ i,p ∧ q i) (k : (∀ i,q i) → q') : p ∧ q':=by
  obtain ⟨i,_⟩:=i0 (ι:=ι)
  exact ⟨(h i).1,k fun i=>(h i).2⟩
/-- one witness -/
theorem Bk {α : Type} {P : α → Prop} {q : ι → α → Prop} {q' : α → Prop} (u : ∀ a b,P a → P b → a = b) (h : ∀ i,∃ a,P a ∧ q i a) (k : ∀ a,(∀ i,q i a) → q' a) : ∃ a,P a ∧ q' a:=by
  obtain ⟨i,_⟩:=i0 (ι:=ι)
  obtain ⟨a,ha,_⟩:=h i
  refine ⟨a,ha,k a fun i=>?_⟩
  obtain ⟨b,hb,q⟩:=h i
  rw [u a b ha hb]
  exact q
theorem Cp {sp : ASp} {xs : List A} : CE (U1 sp xs):=fun {ι} _ EA EA' ρ Q Q' h hx hq=>by
  obtain ⟨i,_⟩:=i0 (ι:=ι)
  obtain ⟨ys,ρ',e,hp,_,_⟩:=h i
  refine ⟨ys,ρ',e,hp,fun r ys' p l=>hq _ _ fun i=>?_,fun C fs ys' p l=>hx _ _ _ fun i=>?_⟩
  all_goals
    obtain ⟨zs,ρ2,e2,_,q1,q2⟩:=h i
    rw [e] at e2
    cases e2
  · exact q1 r ys' p l
  · exact q2 C fs ys' p l
theorem JMi {C : Addr} {sp : ASp} {xs : List A} : CE (H7 C sp xs):=fun {ι} _ EA EA' ρ Q Q' h hx hq=>by
  obtain ⟨i,_⟩:=i0 (ι:=ι)
  obtain ⟨ys,ρ',e,hp,h0,_⟩:=h i
  refine ⟨ys,ρ',e,hp,fun r y ys' p l=>⟨(h0 r y ys' p l).1,hq _ _ fun i=>?_⟩,fun C fs y ys' p l=>hx _ _ _ fun i=>?_⟩
  all_goals
    obtain ⟨zs,ρ2,e2,_,q1,q2⟩:=h i
    rw [e] at e2
    cases e2
  · exact (q1 r y ys' p l).2
  · exact q2 C fs y ys' p l
end
theorem Fd {g : Int → Int → D} : C2 (aI0 g):=fun {ι} _ x y ρ Q Q' h k=>by
  obtain ⟨i,_⟩:=i0 (ι:=ι)
  obtain ⟨a,b,h1,h2,_⟩:=h i
  refine ⟨a,b,h1,h2,k _ _ fun i=>?_⟩
  obtain ⟨c,d,g1,g2,q⟩:=h i
  rw [h1] at g1; rw [h2] at g2
  cases g1; cases g2
  exact q
theorem Fb {C : Int → Int → Prop} {g : Int → Int → D} : C2 (aI C g):=fun {ι} _ x y ρ Q Q' h k=>by
  obtain ⟨i,_⟩:=i0 (ι:=ι)
  obtain ⟨a,b,h1,h2,hc,_⟩:=h i
  refine ⟨a,b,h1,h2,hc,k _ _ fun i=>?_⟩
  obtain ⟨c,d,g1,g2,_,q⟩:=h i
  rw [h1] at g1; rw [h2] at g2
  cases g1; cases g2
  exact q
theorem M5 : C2 Bq:=Fd
theorem B7 : C2 aLt:=Fd
theorem Xg : C2 aLe:=Fd
theorem JU0 : C2 aGt:=Fd
theorem Q1 : C2 aGe:=Fd
theorem Gg : C2 X2:=Fb
theorem Gh : C2 X8:=Fb
theorem N8 : C2 Bo:=Fb
theorem Ke : C2 Xq:=Fb
theorem Ye : C2 aIx:=fun {ι} _ x y ρ Q Q' h k=>by
  obtain ⟨i,_⟩:=i0 (ι:=ι)
  obtain ⟨a,b,z,h1,h2,h3,_⟩:=h i
  refine ⟨a,b,z,h1,h2,h3,k _ _ fun i=>?_⟩
  obtain ⟨c,d,z',g1,g2,g3,q⟩:=h i
  rw [h1] at g1; rw [h2] at g2
  cases g1; cases g2
  rw [h3] at g3
  cases g3
  exact q
theorem Vr : C2 Vc:=fun {ι} _ x y ρ Q Q' h k=>by
  obtain ⟨i,_⟩:=i0 (ι:=ι)
  obtain ⟨d,e,h1,h2,h3⟩:=h i
  refine ⟨d,e,h1,h2,?_⟩
  have h' : ∀ i,Xf d e fun z=>Q i z ρ:=fun i=>by
    obtain ⟨d',e',g1,g2,g3⟩:=h i
    rw [h1] at g1; rw [h2] at g2
    cases g1; cases g2
    exact g3
  clear h h3
  unfold Xf at h' ⊢
  split at h' <;> first | exact k _ _ h' | exact V1 h' fun q=>k _ _ q | exact (h' i).elim
theorem Um : C2 aEq:=fun {ι} _ x y ρ Q Q' h k=>by
  obtain ⟨i,_⟩:=i0 (ι:=ι)
  obtain ⟨a,b,h1,h2,h3,h4,_⟩:=h i
  refine ⟨a,b,h1,h2,h3,h4,k _ _ fun i=>?_⟩
  obtain ⟨c,d,g1,g2,_,_,q⟩:=h i
  rw [h1] at g1; rw [h2] at g2
  cases g1; cases g2
  exact q
theorem Kl : C2 aNe:=fun {ι} _ x y ρ Q Q' h k=>by
  obtain ⟨i,_⟩:=i0 (ι:=ι)
  obtain ⟨a,b,h1,h2,h3,h4,_⟩:=h i
  refine ⟨a,b,h1,h2,h3,h4,k _ _ fun i=>?_⟩
  obtain ⟨c,d,g1,g2,_,_,q⟩:=h i
  rw [h1] at g1; rw [h2] at g2
  cases g1; cases g2
  exact q
theorem JMs : C2 aIs:=fun {ι} _ x y ρ Q Q' h k=>by
  obtain ⟨i,_⟩:=i0 (ι:=ι)
  obtain ⟨a,h1,h2,_⟩:=h i
  refine ⟨a,h1,h2,k _ _ fun i=>?_⟩
  obtain ⟨c,g1,_,q⟩:=h i
  rw [h1] at g1
  cases g1
  exact q
theorem JFw : C2 La:=fun {ι} _ x y ρ Q Q' h k=>by
  obtain ⟨i,_⟩:=i0 (ι:=ι)
  obtain ⟨a,h1,h2,_⟩:=h i
  refine ⟨a,h1,h2,k _ _ fun i=>?_⟩
  obtain ⟨c,g1,_,q⟩:=h i
  rw [h1] at g1
  cases g1
  exact q
theorem JBn {d e : D} {b c : Bool} (h : InD d e b) (h' : InD d e c) : b = c:=by
  unfold InD at h h'
  cases e with
  | lst xs=>exact h.2.2.trans h'.2.2.symm
  | tup xs=>exact h.2.2.trans h'.2.2.symm
  | dic kvs =>
    obtain ⟨k,h1,h2⟩:=h
    obtain ⟨k',h1',h2'⟩:=h'
    rw [h1] at h1'
    cases h1'
    exact h2.trans h2'.symm
  | str z =>
    obtain ⟨k,h1,h2⟩:=h
    obtain ⟨k',h1',h2'⟩:=h'
    rw [h1] at h1'
    cases h1'
    exact h2.trans h2'.symm
  | _=>exact h.elim
theorem Fm {n : Bool} : C2 (aIn n):=fun {ι} _ x y ρ Q Q' h k=>by
  obtain ⟨i,_⟩:=i0 (ι:=ι)
  obtain ⟨a,b,c,h1,h2,h3,_⟩:=h i
  refine ⟨a,b,c,h1,h2,h3,k _ _ fun i=>?_⟩
  obtain ⟨a',b',c',g1,g2,g3,q⟩:=h i
  rw [h1] at g1; rw [h2] at g2
  cases g1; cases g2
  rw [JBn h3 g3]
  exact q
theorem JPk : C1 Lj:=fun {ι} _ x ρ Q Q' h k=>by
  refine Bk (P:=fun i=>dat x ρ = some (.int i)) (fun a b h1 h2=>?_) h fun a q=>k _ _ q
  rw [h1] at h2; cases h2; rfl
theorem JHd {C : Addr} {f : Str} : C1 (Kg C f):=fun {ι} _ x ρ Q Q' h k=>by
  obtain ⟨i,_⟩:=i0 (ι:=ι)
  obtain ⟨a,b,h1,h2,_⟩:=h i
  refine ⟨a,b,h1,h2,k _ _ fun i=>?_⟩
  obtain ⟨c,d,g1,g2,q⟩:=h i
  rw [h1] at g1
  cases g1
  rw [h2] at g2
  cases g2
  exact q
theorem JGq {K : Fg} {d : D} {us : List Value} {b c : Bool} (h : Wi K d us b) (h' : Wi K d us c) : b = c:=by
  obtain ⟨t,h1,_,h3⟩:=h
  obtain ⟨t',g1,_,g3⟩:=h'
  rw [h1] at g1
  cases g1
  rw [h3] at g3
  cases g3
  rfl
theorem Vf {K : Fg} {us : List Value} : C1 (Uv K us):=fun {ι} _ x ρ Q Q' h k=>by
  obtain ⟨i,_⟩:=i0 (ι:=ι)
  obtain ⟨a,b,h1,h2,_⟩:=h i
  refine ⟨a,b,h1,h2,k _ _ fun i=>?_⟩
  obtain ⟨c,d,g1,g2,q⟩:=h i
  rw [h1] at g1
  cases g1
  rw [JGq h2 g2]
  exact q
theorem V3 : Cs Uo:=fun {ι} _ x ρ Q Q' h k=>by
  obtain ⟨i,_⟩:=i0 (ι:=ι)
  obtain ⟨a,d,n,rfl,h1,h2,_⟩:=h i
  refine ⟨a,d,n,rfl,h1,h2,k _ _ fun i=>?_⟩
  obtain ⟨b,e,m,g0,g1,g2,q⟩:=h i
  cases g0
  rw [h1] at g1
  cases g1
  rw [h2] at g2
  cases g2
  exact q
theorem Xt : Cs Ww:=fun {ι} _ x ρ Q Q' h k=>by
  obtain ⟨i,_⟩:=i0 (ι:=ι)
  obtain ⟨a,rfl,h1⟩:=h i
  refine ⟨a,rfl,?_⟩
  rcases h1 with ⟨n,h1,_⟩ | ⟨n,h1,_⟩
  · refine .inl ⟨n,h1,k _ _ fun i=>?_⟩
    obtain ⟨b,g0,g1⟩:=h i
    cases g0
    rcases g1 with ⟨m,g1,q⟩ | ⟨m,g1,q⟩ <;> rw [h1] at g1 <;> cases g1
    exact q
  · refine .inr ⟨n,h1,k _ _ fun i=>?_⟩
    obtain ⟨b,g0,g1⟩:=h i
    cases g0
    rcases g1 with ⟨m,g1,q⟩ | ⟨m,g1,q⟩ <;> rw [h1] at g1 <;> cases g1
    exact q
theorem Sd : Cs Hc:=fun {ι} _ x ρ Q Q' h k=>by
  obtain ⟨i,_⟩:=i0 (ι:=ι)
  obtain ⟨a,d,rfl,h1,_⟩:=h i
  refine ⟨a,d,rfl,h1,k _ _ fun i=>?_⟩
  obtain ⟨b,e,g0,g1,q⟩:=h i
  cases g0
  rw [h1] at g1
  cases g1
  exact q
theorem JFd : Cs L5:=fun {ι} _ x ρ Q Q' h k=>by
  obtain ⟨i,_⟩:=i0 (ι:=ι)
  obtain ⟨a,b,c,d,rfl,h1,h2,_⟩:=h i
  refine ⟨a,b,c,d,rfl,h1,h2,k _ _ fun i=>?_⟩
  obtain ⟨a',b',c',d',g0,g1,g2,q⟩:=h i
  cases g0
  rw [h1] at g1
  cases g1
  rw [h2] at g2
  cases g2
  exact q
theorem JLy : Cs Lq:=fun {ι} _ x ρ Q Q' h k=>by
  obtain ⟨i,_⟩:=i0 (ι:=ι)
  obtain ⟨a,b,c,d,rfl,h1,h2,_⟩:=h i
  refine ⟨a,b,c,d,rfl,h1,h2,k _ _ fun i=>?_⟩
  obtain ⟨a',b',c',d',g0,g1,g2,q⟩:=h i
  cases g0
  rw [h1] at g1
  cases g1
  rw [h2] at g2
  cases g2
  exact q
theorem JXk : Cs Kb:=fun {ι} _ x ρ Q Q' h k=>by
  obtain ⟨i,_⟩:=i0 (ι:=ι)
  obtain ⟨a,d,n,rfl,h1,h2,_⟩:=h i
  refine ⟨a,d,n,rfl,h1,h2,k _ _ fun i=>?_⟩
  obtain ⟨b,e,m,g0,g1,g2,q⟩:=h i
  cases g0
  rw [h1] at g1
  cases g1
  rw [h2] at g2
  cases g2
  exact q
theorem JU4 : Cs Xw:=fun {ι} _ x ρ Q Q' h k=>by
  obtain ⟨i,_⟩:=i0 (ι:=ι)
  obtain ⟨a,d,n,rfl,h1,h2,_⟩:=h i
  refine ⟨a,d,n,rfl,h1,h2,k _ _ fun i=>?_⟩
  obtain ⟨b,e,m,g0,g1,g2,q⟩:=h i
  cases g0
  rw [h1] at g1
  cases g1
  rcases h2 with rfl | rfl <;> rcases g2 with g2 | g2 <;> cases g2 <;> exact q
theorem Qo : ∀ {a b : List Bool},a.map D.bl = b.map D.bl → a = b
  | [],[],_=>rfl
  | [],_ :: _,h=>by cases h
  | _ :: _,[],h=>by cases h
  | x :: xs,y :: ys,h=>by
    simp only [List.map_cons,List.cons.injEq,D.bl.injEq] at h
    rw [h.1,Qo h.2]
theorem Gp : Cs Xb:=fun {ι} _ x ρ Q Q' h k=>by
  obtain ⟨i,_⟩:=i0 (ι:=ι)
  obtain ⟨a,bs,rfl,h1,_⟩:=h i
  refine ⟨a,bs,rfl,h1,k _ _ fun i=>?_⟩
  obtain ⟨b,cs,g0,g1,q⟩:=h i
  cases g0
  rw [h1] at g1
  simp only [Option.some.injEq,D.lst.injEq] at g1
  rw [Qo g1]
  exact q
theorem As : ∀ {a b : List Str},a.map (Sum.inr : Str → Key) = b.map Sum.inr → a = b
  | [],[],_=>rfl
  | [],_ :: _,h=>by cases h
  | _ :: _,[],h=>by cases h
  | x :: xs,y :: ys,h=>by
    simp only [List.map_cons,List.cons.injEq,Sum.inr.injEq] at h
    rw [h.1,As h.2]
theorem JL4 : Cs Kw:=fun {ι} _ x ρ Q Q' h k=>by
  obtain ⟨i,_⟩:=i0 (ι:=ι)
  obtain ⟨a,d,rfl,h1,h2⟩:=h i
  refine ⟨a,d,rfl,h1,?_⟩
  cases d with
  | lst ds =>
    refine ⟨h2.1,h2.2.1,h2.2.2.1,k _ _ fun i=>?_⟩
    obtain ⟨b,e,g0,g1,q⟩:=h i
    cases g0
    rw [h1] at g1
    cases g1
    exact q.2.2.2
  | dic kvs =>
    obtain ⟨ks,g1,g2,_⟩:=h2
    refine ⟨ks,g1,g2,fun ys p s=>k _ _ fun i=>?_⟩
    obtain ⟨b,e,f0,f1,q⟩:=h i
    cases f0
    rw [h1] at f1
    cases f1
    obtain ⟨ls,f1,_,q⟩:=q
    rw [g1] at f1
    exact q ys (by rw [← As f1]; exact p) s
  | _=>exact h2.elim
end Vs
namespace Vs
open PySem PySem.Spec PyProof.Rows L2
variable [Tbs]
section
variable {aa ab ac ao ae ak av : AE} {ra rb : AR2} {at_ t u : AT} {al : AA} {ai : AI} {ag : AG} {sp : ASp}
theorem J5 {d : D} : CE (aC d):=fun h _ hq=>hq _ _ h
theorem J8 {j : Nat} : CE (J6 j):=fun {ι} _ EA EA' ρ Q Q' h hx hq=>by
  refine Bk (P:=fun d=>ρ[j]? = some (some (.v d))) (fun a b h1 h2=>?_) h fun a q=>hq _ _ q
  rw [h1] at h2; cases h2; rfl
theorem Y1 {j : Nat} : CE (Y0 j):=fun h hx hq=>V1 h fun q=>hq _ _ q
theorem Jb (hr : C2 ra) (ha : CE aa) (hb : CE ab) : CE (aOp ra aa ab):=fun h hx hq=>ha h hx fun x ρ1 h1=>hb h1 hx fun y ρ2 h2=>hr h2 hq
theorem Va {ra : AR1} (hr : C1 ra) (ha : CE aa) : CE (aUn ra aa):=fun h hx hq=>ha h hx fun x ρ1 h1=>hr h1 hq
theorem Ya (ha : CE aa) : CT (Y5 aa):=fun h hx hq=>ha h hx fun x ρ1 h1=>Lm h1 fun b q=>hq _ _ q
theorem Kj (hr : C2 ra) (hr2 : C2 rb) (ha : CE aa) (hb : CE ab) (hc : CE ac) : CE (Zh ra rb aa ab ac):=fun h hx hq=>ha h hx fun x ρ1 h1=>hb h1 hx fun y ρ2 h2 =>
  Bk (P:=fun dy=>y = .v dy) (fun a b h1 h2=>by rw [h1] at h2; cases h2; rfl) h2 fun d h3=>hr h3 fun z ρ3 h4=>Lm h4 fun b h5=>Xe h5 (fun h6=>hc h6 hx fun w ρ4 h7=>hr2 h7 hq) fun q=>hq _ _ q
theorem JHj (ha : CT t) (hb : CT u) : CT (Hf t u):=fun h hx hq=>ha h hx fun x ρ1 h1=>Xe h1 (fun h2=>hb h2 hx hq) fun h2=>hq _ _ h2
theorem V0 (ha : CT t) (hb : CT u) : CT (Uq t u):=fun h hx hq=>ha h hx fun x ρ1 h1=>Xe h1 (fun h2=>hq _ _ h2) fun h2=>hb h2 hx hq
theorem Ut (ha : CT t) : CT (Uc t):=fun h hx hq=>ha h hx fun x ρ1 h1=>hq _ _ h1
theorem B3 : CT Za:=fun h hx hq=>hq _ _ h
theorem Wx (ha : CE aa) (hb : CE ab) : CE (W3 aa ab):=fun h hx hq=>ha h hx fun x ρ1 h1=>Lm h1 fun b h2=>Xe h2 (fun h3=>hb h3 hx hq) fun h3=>hq _ _ h3
theorem D4 (ha : CE aa) : CE (Bp aa):=fun h hx hq=>ha h hx fun x ρ1 h1=>Lm h1 fun b h2=>hq _ _ h2
theorem JM2 (ht : CT t) (ha : CE aa) (hb : CE ab) : CE (aIf t aa ab):=fun h hx hq=>ht h hx fun x ρ1 h1=>Xe h1 (fun h2=>ha h2 hx hq) fun h2=>hb h2 hx hq
theorem Jc : CA Ja:=fun h hx hq=>hq _ _ h
theorem J3 (ha : CE aa) (hl : CA al) : CA (J1 aa al):=fun h hx hq=>ha h hx fun x ρ1 h1=>hl h1 hx fun xs ρ2 h2=>hq _ _ h2
theorem Z7 (hl : CA al) : CE (Wa al):=fun h hx hq=>hl h hx fun xs ρ1 h1=>V1 h1 fun h2=>O9 h2 fun ds ρ2 h3=>hq _ _ h3
theorem W1 (hl : CA al) : CE (Vd al):=fun h hx hq=>hl h hx fun xs ρ1 h1=>V1 h1 fun h2=>O9 h2 fun ds ρ2 h3=>hq _ _ h3
theorem Se : CE Ha:=fun h hx hq=>hq _ _ h
theorem Yp {ra : ARs} (hr : Cs ra) (hl : CA al) : CE (aCB ra al):=fun h hx hq=>hl h hx fun xs ρ1 h1=>hr h1 hq
theorem Uu (ha : CE aa) : CE (Ud aa):=fun h hx hq=>ha h hx fun x ρ1 h1=>Wp h1 fun d ρ2 h2=>hq _ _ h2
theorem F1 : CO Zi:=fun h hx hq=>hq _ _ h
theorem F3 (ha : CE aa) : CO (Zm aa):=fun {ι} _ EA EA' ρ Q Q' h hx hq=>ha h hx fun x ρ1 h1 =>
  Bk (P:=fun i=>dat x ρ1 = some (.int i)) (fun a b h1 h2=>by rw [h1] at h2; cases h2; rfl) h1 fun a q=>hq _ _ q
theorem F7 {lo hi : AO} (ha : CE aa) (hl : CO lo) (hh : CO hi) : CE (Zk aa lo hi):=fun {ι} _ EA EA' ρ Q Q' h hx hq=>ha h hx fun x ρ1 h1=>hl h1 hx fun l ρ2 h2=>hh h2 hx fun u ρ3 h3=>by
  refine Bk (P:=fun d=>dat x ρ3 = some d) (fun a b h1 h2=>by rw [h1] at h2; cases h2; rfl) h3 fun d q=>?_
  cases d with
  | lst xs=>exact hq _ _ q
  | tup xs=>exact hq _ _ q
  | _ =>
    obtain ⟨i,_⟩:=i0 (ι:=ι)
    exact (q i).elim
theorem Hv (ha : CE ao) (hb : CE ae) : CE (B9 ao ae):=fun {ι} _ EA EA' ρ Q Q' h hx hq=>ha h hx fun o ρ1 h1=>V1 h1 fun h2=>hb h2 hx fun x ρ2 h3=>Wp h3 fun d ρ3 h4=>by
  obtain ⟨i,_⟩:=i0 (ι:=ι)
  obtain ⟨j,xs,rfl,e1,e2,_⟩:=h4 i
  refine ⟨j,xs,rfl,e1,e2,hq _ _ fun i=>?_⟩
  obtain ⟨j',xs',f0,f1,_,q⟩:=h4 i
  cases f0
  rw [e1] at f1; cases f1
  exact q
theorem Y7 {dd : List D} (hl : CA al) : CE (Y4 sp dd al):=fun h hx hq=>hl h hx fun xs ρ1 h1=>Cp h1 hx hq
theorem JKi {C : Addr} {m : Str} {dd : List D} (ho : CE ao) (hl : CA al) : CE (Xp C m sp dd ao al):=fun h hx hq=>ho h hx fun o ρ1 h1=>V1 h1 fun h2=>hl h2 hx fun xs ρ2 h3=>Cp h3 hx hq
theorem JGe {C : Addr} {dd : List D} (hl : CA al) : CE (Xx C sp dd al):=fun h hx hq=>hl h hx fun xs ρ1 h1=>JMi h1 hx hq
theorem JKm (ha : CE ao) (hb : CE ab) : CE (Ls ao ab):=fun {ι} _ EA EA' ρ Q Q' h hx hq=>ha h hx fun o ρ1 h1=>V1 h1 fun h2=>hb h2 hx fun iv ρ2 h3=>by
  obtain ⟨i,_⟩:=i0 (ι:=ι)
  obtain ⟨j,xs,k,z,rfl,e1,e2,e3,e4,_⟩:=h3 i
  refine ⟨j,xs,k,z,rfl,e1,e2,e3,e4,hq _ _ fun i=>?_⟩
  obtain ⟨j',xs',k',z',f0,f1,f2,_,f4,q⟩:=h3 i
  cases f0
  rw [e1] at f1; cases f1
  rw [e2] at f2
  simp only [Option.some.injEq,D.int.injEq] at f2
  have : k = k':=by omega
  subst this
  rw [e4] at f4; cases f4
  exact q
theorem Uj {j : Nat} : CG (Ub j):=fun h hq=>hq _ h
theorem G3 : CGs Xc:=fun h hq=>V1 h fun q=>hq _ q
theorem Wo {bs : AGs} (ha : CG ag) (hb : CGs bs) : CGs (W4 ag bs):=fun {ι} _ d ρ Q Q' h hq=>by
  obtain ⟨i,_⟩:=i0 (ι:=ι)
  obtain ⟨x,r,rfl,_⟩:=h i
  refine ⟨x,r,rfl,ha (Q:=fun i ρ'=>bs r ρ' (Q i)) (fun i=>?_) fun ρ' z=>hb z hq⟩
  obtain ⟨x',r',e,q⟩:=h i
  cases e
  exact q
theorem Fu {n : Nat} {bs : AGs} (hb : CGs bs) : CG (Xa n bs):=fun {ι} _ d ρ Q Q' h hq=>by
  obtain ⟨i,_⟩:=i0 (ι:=ι)
  obtain ⟨ds,rfl,hl,_⟩:=h i
  refine ⟨ds,rfl,hl,hb (Q:=Q) (fun i=>?_) hq⟩
  obtain ⟨ds',e,_,q⟩:=h i
  cases e
  exact q
theorem Wc (ha : CE aa) : CI (Vo aa):=fun h hx hq=>ha h hx fun x ρ1 h1=>Wp h1 fun d ρ2 h2 =>
  Bk (P:=fun xs=>X6 d = some xs) (fun a b h1 h2=>by rw [h1] at h2; cases h2; rfl) h2 fun a q=>hq _ _ _ q
theorem Rq (hl : CA al) : CI (Ga al):=fun {ι} _ EA EA' ρ Q Q' h hx hq=>hl h hx fun xs ρ1 h1=>by
  obtain ⟨i,_⟩:=i0 (ι:=ι)
  obtain ⟨x,j,rfl,e1,e2,e3,_⟩:=h1 i
  refine ⟨x,j,rfl,e1,e2,e3,hq _ _ _ fun i=>?_⟩
  obtain ⟨x',j',f0,f1,_,_,q⟩:=h1 i
  cases f0
  rw [e1] at f1; cases f1
  exact q
theorem JNs (hl : CA al) : CI (L8 al):=fun {ι} _ EA EA' ρ Q Q' h hx hq=>hl h hx fun xs ρ1 h1=>by
  obtain ⟨i,_⟩:=i0 (ι:=ι)
  obtain ⟨x,y,j,k,rfl,e1,e2,e3,_⟩:=h1 i
  refine ⟨x,y,j,k,rfl,e1,e2,e3,hq _ _ _ fun i=>?_⟩
  obtain ⟨x',y',j',k',f0,f1,f2,_,q⟩:=h1 i
  cases f0
  rw [e1] at f1; cases f1
  rw [e2] at f2; cases f2
  exact q
theorem Nh {ι : Type} [Nonempty ι] {G : J0 → Prop} {vs : List Nat} (hg : CG ag) (ht : CT at_) (he : CE ae) : ∀ {xs acc : List D} {ρ : J0} {Q : ι → AK} {Q' : AK},(∀ i,lcA G ag at_ ae vs xs acc ρ (Q i)) → (∀ x ρ,(∀ i,Q i x ρ) → Q' x ρ) → lcA G ag at_ ae vs xs acc ρ Q'
  | [],_,_,_,_,h,k=>V1 h fun q=>k _ _ q
  | x :: xs, acc, _, _, _, h, k => V1 h fun q => hg q fun ρ1 h1 => ht (EA := fun _ => noX) h1 (fun _ _ _ z => by
      obtain ⟨i,_⟩:=i0 (ι:=ι)
      exact z i) fun b ρ2 h2=>Xe h2 (fun h3=>he (EA:=fun _=>noX) h3 (fun _ _ _ z=>by
      obtain ⟨i,_⟩:=i0 (ι:=ι)
      exact z i) fun y ρ3 h4=>Wp h4 fun d ρ4 h5=>V1 h5 fun h6=>Nh hg ht he h6 k) fun h3=>Nh hg ht he h3 k
theorem B6 {vs : List Nat} (hi : CI ai) (hg : CG ag) (ht : CT at_) (he : CE ae) : CE (aLc ai ag at_ ae vs):=fun h hx hq=>hi h hx fun xs G ρ1 h1=>V1 h1 fun h2=>Nh hg ht he h2 hq
theorem P8 {ι : Type} [Nonempty ι] {G : J0 → Prop} {vs : List Nat} (hg : CG ag) (ht : CT at_) (hk : CE ak) (he : CE ae) : ∀ {xs : List D} {acc : List (Key × D)} {ρ : J0} {Q : ι → AK} {Q' : AK},(∀ i,dcA G ag at_ ak ae vs xs acc ρ (Q i)) → (∀ x ρ,(∀ i,Q i x ρ) → Q' x ρ) → dcA G ag at_ ak ae vs xs acc ρ Q'
  | [],_,_,_,_,h,k=>V1 h fun q=>k _ _ q
  | x :: xs, acc, _, Q, Q', h, k => V1 h fun q => hg q fun ρ1 h1 => ht (EA := fun _ => noX) h1 (fun _ _ _ z => by
      obtain ⟨i,_⟩:=i0 (ι:=ι)
      exact z i) fun b ρ2 h2=>Xe h2 (fun h3=>hk (EA:=fun _=>noX) h3 (fun _ _ _ z=>by
      obtain ⟨i,_⟩:=i0 (ι:=ι)
      exact z i) fun ky ρ3 h4=>he (EA:=fun _=>noX) h4 (fun _ _ _ z=>by
      obtain ⟨i,_⟩:=i0 (ι:=ι)
      exact z i) fun y ρ4 h5=>Wp h5 fun d ρ5 h6=>by
        obtain ⟨i,_⟩:=i0 (ι:=ι)
        obtain ⟨kd,kk,e1,e2,e3,_⟩:=h6 i
        refine ⟨kd,kk,e1,e2,e3,P8 hg ht hk he (Q:=Q) (fun i=>?_) k⟩
        obtain ⟨kd',kk',f1,f2,_,q⟩:=h6 i
        rw [e1] at f1; cases f1
        rw [e2] at f2; cases f2
        exact q) fun h3=>P8 hg ht hk he h3 k
theorem Qq {vs : List Nat} (hi : CI ai) (hg : CG ag) (ht : CT at_) (hk : CE ak) (he : CE ae) : CE (aDc ai ag at_ ak ae vs):=fun h hx hq=>hi h hx fun xs G ρ1 h1=>V1 h1 fun h2=>P8 hg ht hk he h2 hq
end
section
variable {a b : AS} {ae av ao aiv : AE} {t : AT} {ai : AI} {ag : AG}
theorem Yz : CS Yt:=fun h c=>c.nx _ h
theorem Jy (ha : CS a) (hb : CS b) : CS (Jw a b):=fun h c=>ha h ⟨fun ρ h1=>hb h1 c,c.rt,c.bk,c.ct,c.ex⟩
theorem Xd (he : CE ae) : CS (Wv ae):=fun h c=>he h c.ex fun _ ρ h1=>c.nx _ h1
theorem Yk (he : CE ae) : CS (Yd ae):=fun h c=>he h c.ex fun x ρ h1=>JGj h1 c.rt
theorem Yx (ht : CT t) (ha : CS a) (hb : CS b) : CS (Yr t a b):=fun h c=>ht h c.ex fun x ρ h1=>Xe h1 (fun h2=>ha h2 c) fun h2=>hb h2 c
theorem Yq {j : Nat} (he : CE ae) : CS (Ym j ae):=fun h c=>he h c.ex fun x ρ h1=>JM7 h1 c.nx
theorem K3 (hv : CE av) (ho : CE ao) (hi : CE aiv) : CS (Bc av ao aiv):=fun {ι} _ DA D' ρ h c=>hv h c.ex fun x ρ1 h1=>Wp h1 fun d ρ2 h2=>ho h2 c.ex fun o ρ3 h3=>hi h3 c.ex fun iv ρ4 h4=>by
  obtain ⟨i,_⟩:=i0 (ι:=ι)
  obtain ⟨j,y,k,y',rfl,e1,e2,e3,e4,_⟩:=h4 i
  refine ⟨j,y,k,y',rfl,e1,e2,e3,e4,c.nx _ fun i=>?_⟩
  obtain ⟨j',z,k',z',f0,f1,f2,f3,_,q⟩:=h4 i
  cases f0
  rw [e1] at f1; cases f1
  rw [e2] at f2; cases f2
  rw [e3] at f3; cases f3
  exact q
theorem Mv {ι : Type} [Nonempty ι] {G : J0 → Prop} (hg : CG ag) (hb : CS b) : ∀ {xs : List D} {ρ : J0} {DA : ι → AEnds} {D' : AEnds},(∀ i,forA G ag b (DA i) xs ρ) → Cov DA D' → forA G ag b D' xs ρ
  | [],_,_,_,h,c=>V1 h fun q=>c.nx _ q
  | x :: xs,_,_,_,h,c=>V1 h fun q=>hg q fun ρ1 h1=>hb h1 ⟨fun ρ h2=>Mv hg hb h2 c,c.rt,fun ρ h2=>c.nx ρ h2,fun ρ h2=>Mv hg hb h2 c,c.ex⟩
theorem Zo (hi : CI ai) (hg : CG ag) (hb : CS b) : CS (Wn ai ag b):=fun h c=>hi h c.ex fun xs G ρ h1=>Mv hg hb h1 c
theorem JFs {C : Addr} {f : Str} (hv : CE av) (ho : CE ao) : CS (L7 C f av ao):=fun {ι} _ DA D' ρ h c=>hv h c.ex fun x ρ1 h1=>Wp h1 fun d ρ2 h2=>ho h2 c.ex fun o ρ3 h3=>by
  obtain ⟨i,_⟩:=i0 (ι:=ι)
  obtain ⟨j,fs,rfl,e1,e2,e3,_⟩:=h3 i
  refine ⟨j,fs,rfl,e1,e2,e3,c.nx _ fun i=>?_⟩
  obtain ⟨j',fs',f0,f1,_,_,q⟩:=h3 i
  cases f0
  rw [e1] at f1; cases f1
  exact q
theorem Ky {C : Addr} {f : Str} (he : CE ae) : CS (B0 C f ae):=fun h c=>he h c.ex fun x ρ1 h1=>Wp h1 fun d ρ2 h2=>c.ex _ _ _ h2
theorem Jf {vs : List Nat} (ha : CS a) : CS (Je vs a):=fun h c=>ha h c
end
def spS (a : AS) (O : List Nat) (n m : Nat) : ASp where
  pre:=fun xs=>xs.length = m ∧ ∃ po xc,a (Zq O xs po xc) (Yn n xs)
  post:=fun xs r xs'=>∀ po xc,a (Zq O xs po xc) (Yn n xs) → po r xs'
  exc:=fun xs C fs xs'=>(∃ po xc,a (Zq O xs po xc) (Yn n xs)) ∧ ∀ po xc,a (Zq O xs po xc) (Yn n xs) → xc C fs xs'
theorem Ua {a : AS} {O : List Nat} {n m : Nat} (c : CS a) : ∀ xs,(spS a O n m).pre xs → a (U3 O (spS a O n m) xs) (Yn n xs):=by
  rintro xs ⟨_,po,xc,h⟩
  haveI : Nonempty {p : (A → List A → Prop) × (Addr → List (Str × D) → List A → Prop) // a (Zq O xs p.1 p.2) (Yn n xs)}:=⟨⟨(po,xc),h⟩⟩
  refine c (ι:={p : (A → List A → Prop) × (Addr → List (Str × D) → List A → Prop) // a (Zq O xs p.1 p.2) (Yn n xs)}) (DA:=fun i=>Zq O xs i.1.1 i.1.2) (fun i=>i.2) ?_
  have i1 : {p : (A → List A → Prop) × (Addr → List (Str × D) → List A → Prop) // a (Zq O xs p.1 p.2) (Yn n xs)}:=⟨(po,xc),h⟩
  constructor
  · intro ρ z
    obtain ⟨xs',e,_⟩:=z i1
    refine ⟨xs',e,fun po xc hh=>?_⟩
    obtain ⟨ys,e',q⟩:=z ⟨(po,xc),hh⟩
    rw [e] at e'
    cases e'
    exact q
  · intro r ρ z
    obtain ⟨xs',e,_⟩:=z i1
    refine ⟨xs',e,fun po xc hh=>?_⟩
    obtain ⟨ys,e',q⟩:=z ⟨(po,xc),hh⟩
    rw [e] at e'
    cases e'
    exact q
  · intro ρ z
    exact z i1
  · intro ρ z
    exact z i1
  · intro C fs ρ z
    obtain ⟨xs',e,_⟩:=z i1
    refine ⟨xs',e,⟨_,_,h⟩,fun po xc hh=>?_⟩
    obtain ⟨ys,e',q⟩:=z ⟨(po,xc),hh⟩
    rw [e] at e'
    cases e'
    exact q
theorem U9 {a : AS} {O : List Nat} {n m : Nat} : ∀ xs,(spS a O n m).pre xs → xs.length = m:=fun _ h=>h.1
/-- what is known of a def at some arguments -/
structure Sat (S : ASp) (xs : List A) (P : A → List A → Prop) (X : Addr → List (Str × D) → List A → Prop) : Prop where
  pre : S.pre xs
  po : ∀ r o,S.post xs r o → P r o
  ex : ∀ C fs o,S.exc xs C fs o → X C fs o
theorem Sat.mk' {a : AS} {O : List Nat} {n m : Nat} {xs : List A} {P : A → List A → Prop} {X : Addr → List (Str × D) → List A → Prop} (hl : xs.length = m) (h : a (Zq O xs P X) (Yn n xs)) : Sat (spS a O n m) xs P X :=
  ⟨⟨hl,P,X,h⟩,fun _ _ p=>p _ _ h,fun _ _ _ p=>p.2 _ _ h⟩
def noO : Addr → List (Str × D) → List A → Prop:=fun _ _ _=>False
/-- the arguments stay,and there is no exception -/
abbrev Val (S : ASp) (xs : List A) (P : A → Prop) : Prop:=Sat S xs (fun r o=>o = xs ∧ P r) noO
abbrev Ev (S : ASp) (xs : List A) (r : A) : Prop:=Val S xs (· = r)
abbrev Rz (S : ASp) (xs : List A) (C : Addr) (fs : List (Str × D)) : Prop:=Sat S xs (fun _ _=>False) fun C' fs' o=>C' = C ∧ fs' = fs ∧ o = xs
section
variable {S : ASp} {xs ys : List A} {P : A → List A → Prop} {X : Addr → List (Str × D) → List A → Prop} {EA : AX} {ρ ρ' : J0} {Q : AK}
theorem Wl (hp : pass xs ρ = some (ys,ρ')) (h : Sat S ys P X) (hq : ∀ r o,P r o → Q r (give xs o ρ')) (hx : ∀ C fs o,X C fs o → EA C fs (give xs o ρ')) : U1 S xs EA ρ Q :=
  ⟨ys,ρ',hp,h.pre,fun r o p _=>hq r o (h.po r o p),fun C fs o p _=>hx C fs o (h.ex C fs o p)⟩
theorem Ff : ∀ {xs : List A} {ρ ρ' : J0} {ys : List A},pass xs ρ = some (ys,ρ') → give xs ys ρ' = ρ
  | [],ρ,ρ',ys,h=>by
    simp only [pass,Option.some.injEq,Prod.mk.injEq] at h
    obtain ⟨rfl,rfl⟩:=h
    rfl
  | x :: xs,ρ,ρ',ys,h=>by
    cases x with
    | loc i =>
      simp only [pass] at h
      split at h
      · rename_i y hy
        split at h
        · rename_i zs ρ2 hz
          cases h
          have e:=Ff hz
          simp only [give]
          have hn:=(Lx hz).2.1 i (by
            have : i < ρ.length:=by
              rcases Nat.lt_or_ge i ρ.length with q | q
              · exact q
              · rw [List.getElem?_eq_none q] at hy; cases hy
            simp [this])
          have hni:=Kd hz i (by
            have : i < ρ.length:=by
              rcases Nat.lt_or_ge i ρ.length with q | q
              · exact q
              · rw [List.getElem?_eq_none q] at hy; cases hy
            simp [this])
          have hc : ∀ (xs zs : List A) (ρ : J0) (o : Option A),A.loc i ∉ xs → give xs zs (ρ.set i o) = (give xs zs ρ).set i o:=by
            intro xs
            induction xs with
            | nil=>intro zs ρ o _; cases zs <;> rfl
            | cons x xs ih =>
              intro zs ρ o hn
              have h1 : A.loc i ∉ xs:=fun z=>hn (List.mem_cons_of_mem _ z)
              cases zs with
              | nil=>cases x <;> rfl
              | cons z zs =>
                cases x with
                | loc j =>
                  have hij : j ≠ i:=fun z=>hn (by rw [z]; exact List.mem_cons_self ..)
                  simp only [give]
                  rw [List.set_comm _ _ hij.symm,ih _ _ _ h1]
                | _=>exact ih _ _ _ h1
          rw [hc _ _ _ _ hni,e,List.set_set]
          refine List.ext_getElem? fun j=>?_
          rcases Nat.decEq i j with q | q
          · rw [List.getElem?_set_ne q]
          · subst q
            have : i < ρ.length:=by
              rcases Nat.lt_or_ge i ρ.length with q | q
              · exact q
              · rw [List.getElem?_eq_none q] at hy; cases hy
            rw [List.getElem?_set_self this,hy]
        · cases h
      · cases h
    | _ =>
      simp only [pass] at h
      split at h
      · rename_i zs ρ2 hz
        cases h
        simpa only [give] using Ff hz
      · cases h
theorem Wt {P : A → Prop} (hp : pass xs ρ = some (ys,ρ')) (h : Val S ys P) (hq : ∀ r,P r → Q r ρ) : U1 S xs EA ρ Q:=Wl hp h (fun r o ⟨e,p⟩=>by rw [e,Ff hp]; exact hq r p) fun _ _ _ z=>z.elim
theorem kEv {r : A} (hp : pass xs ρ = some (ys,ρ')) (h : Ev S ys r) (hq : Q r ρ) : U1 S xs EA ρ Q:=Wt hp h fun _ e=>by rw [e]; exact hq
theorem kRz {C : Addr} {fs : List (Str × D)} (hp : pass xs ρ = some (ys,ρ')) (h : Rz S ys C fs) (hx : EA C fs ρ) : U1 S xs EA ρ Q:=Wl hp h (fun _ _ z=>z.elim) fun C' fs' o ⟨e1,e2,e3⟩=>by rw [e1,e2,e3,Ff hp]; exact hx
theorem kMk {C : Addr} (hp : pass xs ρ = some (ys,ρ')) (h : Sat S (.obj C [] :: ys) P X) (hq : ∀ r y o,P r (y :: o) → r = .v .non ∧ Q y (give xs o ρ')) (hx : ∀ Ce fs y o,X Ce fs (y :: o) → EA Ce fs (give xs o ρ')) : H7 C S xs EA ρ Q :=
  ⟨ys,ρ',hp,h.pre,fun r y o p _=>hq r y o (h.po r _ p),fun Ce fs y o p _=>hx Ce fs y o (h.ex Ce fs _ p)⟩
/-- an __init__ that gives this instance,its other arguments stay -/
abbrev Mks (S : ASp) (C : Addr) (ys : List A) (y : A) : Prop:=Sat S (.obj C [] :: ys) (fun r o=>r = .v .non ∧ o = y :: ys) noO
theorem JKv {C : Addr} {y : A} (hp : pass xs ρ = some (ys,ρ')) (h : Mks S C ys y) (hq : Q y ρ) : H7 C S xs EA ρ Q:=kMk hp h (fun r z o ⟨h1,h2⟩=>by
  cases h2
  exact ⟨h1,by rw [Ff hp]; exact hq⟩) fun _ _ _ _ z=>z.elim
end
end Vs
namespace Vs
open PySem PySem.Spec PyProof.Rows L2
variable [Tbs]
def Xh (vs : List Nat) (a : AS) : AS:=fun DA ρ=>a { DA with nx:=fun ρ=>DA.nx (Yj vs ρ) } ρ
section
variable {X : Cx} {P : Pm} {DA : AEnds} {ρ ρ' : J0} {a : AS} {vs : List Nat}
theorem Fs (vs : List Nat) {st : List Stmt} (h : QSs X P st a) : QSs X P st (Xh vs a) :=
  let ⟨t,p,s⟩:=h.ex; ⟨t,p,fun c D DA ho hw l S H σ ρ st q=>s c D { DA with nx:=fun ρ=>DA.nx (Yj vs ρ) } ho hw ⟨fun S H σ ρ st q=>l.nx S H σ _ (st.clears vs fun _ _ m=>by simp at m) q,l.rt,l.bk,l.ct⟩ S H σ _ st q⟩
theorem Hg (h : CS a) : CS (Xh vs a):=fun h1 c=>h h1 ⟨fun ρ h2=>c.nx _ h2,c.rt,c.bk,c.ct,c.ex⟩
theorem Ec (k : a { DA with nx:=fun ρ=>DA.nx (Yj vs ρ) } ρ) : Xh vs a DA ρ:=k
theorem JYh (h : Yj vs ρ = ρ') (k : a DA ρ') : Je vs a DA ρ:=by
  subst h
  exact k
theorem F0 {a b : AS} (M : J0 → Prop) (h1 : ∀ k : J0 → Prop,(∀ ρ,M ρ → k ρ) → a { DA with nx:=k } ρ) (h2 : ∀ ρ,M ρ → b DA ρ) : Jw a b DA ρ:=h1 (b DA) h2
/-- a result or an exception,and what the arguments are then -/
abbrev Fn (S : ASp) (xs : List A) (R : RX) (out : List A) : Prop:=Sat S xs (fun r o=>R = .rt r ∧ o = out) fun C fs o=>R = .xc C fs ∧ o = out
section
variable {O : List Nat} {n m : Nat} {xs ys out : List A} {R : RX} {S : ASp} {EA : AX} {Q : AK} {P : A → List A → Prop} {Z : Addr → List (Str × D) → List A → Prop}
theorem fnI (hl : xs.length = m) (h : ∀ DA : AEnds,(∀ r ρ,fin O 0 xs ρ = some out → R = .rt r → DA.rt r ρ) → (∀ ρ,fin O 0 xs ρ = some out → R = .rt (.v .non) → DA.nx ρ) → (∀ C fs ρ,fin O 0 xs ρ = some out → R = .xc C fs → DA.ex C fs ρ) → a DA (Yn n xs)) : Fn (spS a O n m) xs R out :=
  Sat.mk' hl (h _ (fun r ρ h1 h2=>⟨_,h1,h2,rfl⟩) (fun ρ h1 h2=>⟨_,h1,h2,rfl⟩) fun C fs ρ h1 h2=>⟨_,h1,h2,rfl⟩)
theorem fnP (hl : xs.length = m) (h : ∀ DA : AEnds,(∀ r ρ o,fin O 0 xs ρ = some o → P r o → DA.rt r ρ) → (∀ ρ o,fin O 0 xs ρ = some o → P (.v .non) o → DA.nx ρ) → (∀ C fs ρ o,fin O 0 xs ρ = some o → Z C fs o → DA.ex C fs ρ) → a DA (Yn n xs)) : Sat (spS a O n m) xs P Z :=
  Sat.mk' hl (h _ (fun r ρ o h1 h2=>⟨o,h1,h2⟩) (fun ρ o h1 h2=>⟨o,h1,h2⟩) fun C fs ρ o h1 h2=>⟨o,h1,h2⟩)
theorem Ge {r : A} (h : Fn S ys R out) (hp : pass xs ρ = some (ys,ρ')) (e : R = .rt r) (k : Q r (give xs out ρ')) : U1 S xs EA ρ Q:=Wl hp h (fun r' o ⟨h1,h2⟩=>by
  rw [e] at h1
  cases h1
  rw [h2]
  exact k) fun C fs o ⟨h1,_⟩=>by
    rw [e] at h1
    cases h1
end
theorem JVo {xs : List D} {n : Nat} (h : xs.length ≤ n) : xs.length ≤ n:=h
/-- a comprehension over data of one kind,each round with the same names -/
theorem Nl {α : Type} {G : J0 → Prop} {ag : AG} {at_ : AT} {ae : AE} {vs : List Nat} {Q : AK} (f : α → D) (t : α → Bool) (e : α → D) (hG : G ρ) : ∀ (xs : List α) (acc : List D),acc.length + xs.length ≤ 100000 →
    (∀ x ∈ xs,∀ (R : D → J0 → Prop) (N : J0 → Prop),(∀ ρ4,Yj vs ρ4 = ρ → t x = true → R (e x) ρ4) → (∀ ρ2,Yj vs ρ2 = ρ → t x = false → N ρ2) → ag (f x) ρ fun ρ1=>at_ noX ρ1 fun b ρ2=>if b = true then ae noX ρ2 fun y ρ3=>Yl y ρ3 R else N ρ2) →
    Q (.lst (acc ++ (xs.filter t).map e)) ρ → lcA G ag at_ ae vs (xs.map f) acc ρ Q
  | [],acc,_,_,hq=>⟨hG,by simpa using hq⟩
  | x :: xs,acc,hl,h,hq=>by
    simp only [List.length_cons] at hl
    refine ⟨hG,h x (List.mem_cons_self ..) (fun d ρ4=>acc.length ≤ 100000 ∧ lcA G ag at_ ae vs (xs.map f) (acc ++ [d]) (Yj vs ρ4) Q) (fun ρ2=>lcA G ag at_ ae vs (xs.map f) acc (Yj vs ρ2) Q) (fun ρ4 e1 ht=>?_) (fun ρ2 e1 ht=>?_)⟩
    · refine ⟨by omega,?_⟩
      rw [e1]
      refine Nl f t e hG xs _ (by simp; omega) (fun y hy=>h y (List.mem_cons_of_mem _ hy)) ?_
      simpa [List.filter_cons,ht] using hq
    · rw [e1]
      refine Nl f t e hG xs _ (by omega) (fun y hy=>h y (List.mem_cons_of_mem _ hy)) ?_
      simpa [List.filter_cons,ht] using hq
theorem Ss {α : Type} {G : J0 → Prop} {ag : AG} {at_ : AT} {ae : AE} {vs : List Nat} {Q : AK} (f : α → D) (t : α → Bool) (e : α → D) {xs : List α} (hG : G ρ) (hl : xs.length ≤ 100000)
    (h : ∀ x ∈ xs,∀ (R : D → J0 → Prop) (N : J0 → Prop),(∀ ρ4,Yj vs ρ4 = ρ → t x = true → R (e x) ρ4) → (∀ ρ2,Yj vs ρ2 = ρ → t x = false → N ρ2) → ag (f x) ρ fun ρ1=>at_ noX ρ1 fun b ρ2=>if b = true then ae noX ρ2 fun y ρ3=>Yl y ρ3 R else N ρ2)
    (hq : Q (.lst ((xs.filter t).map e)) ρ) : lcA G ag at_ ae vs (xs.map f) [] ρ Q:=Nl f t e hG xs [] (by simpa using hl) h (by simpa using hq)
theorem JPc {xs : List D} {z : Int} (h0 : 0 ≤ z) (h1 : z < xs.length) : ∃ x ∈ xs,itD (.lst xs) (.int z) = some x:=by
  refine ⟨xs[z.toNat]'(by omega),List.getElem_mem _,?_⟩
  have e : z = ((z.toNat : Nat) : Int):=by omega
  have h:=G4 (xs:=xs) (k:=z.toNat) (by omega)
  rw [← e] at h
  show atI _ z = _
  rw [h,List.getElem?_eq_getElem (by omega)]
/-- tuples of plain data and empty dicts -/
def Gk0 (d : D) : Prop:=PlD 20 d ∨ d = .dic []
theorem JKy {Pr : Program} {w : World} {K : Fg} {mg : Str → Option Value} {base : Heap} : ∀ d,Gk0 d → GOk Pr w K mg base 1 d:=fun d h=>by
  rcases h with h | h
  · exact .inl h
  · exact .inr (.inl h)
theorem JXg {G : D → Prop} : C2 (Lg G):=fun {ι} _ x y ρ Q Q' h k=>by
  obtain ⟨i,_⟩:=i0 (ι:=ι)
  rcases h i with h1 | h1
  · obtain ⟨d,e,h1,h2,h3,h4,_⟩:=h1
    refine .inl ⟨d,e,h1,h2,h3,h4,k _ _ fun i=>?_⟩
    rcases h i with g | g
    · obtain ⟨d',e',g1,g2,_,_,q⟩:=g
      rw [h1] at g1; cases g1
      rw [h2] at g2; cases g2
      exact q
    · obtain ⟨ds,g1,g2,_,q⟩:=g
      rw [h1] at g1; cases g1
      rw [h2] at g2; cases g2
      rw [F6 _ _ h3]
      exact q
  · obtain ⟨ds,h1,h2,h3,_⟩:=h1
    refine .inr ⟨ds,h1,h2,h3,k _ _ fun i=>?_⟩
    rcases h i with g | g
    · obtain ⟨d',e',g1,g2,g3,_,q⟩:=g
      rw [h1] at g1; cases g1
      rw [h2] at g2; cases g2
      rw [F6 _ _ g3] at q
      exact q
    · obtain ⟨ds,g1,g2,_,q⟩:=g
      rw [h1] at g1; cases g1
      exact q
end
end Vs
namespace Vs
open PySem PySem.Spec PyProof.Rows L2
variable [Tbs]
/-- x += e,numbers -/
def JNf (i : Nat) (ae : AE) : AS:=fun DA ρ=>∃ x,ρ[i]? = some (some (.v (.int x))) ∧ ae DA.ex ρ fun y ρ1=>∃ j,dat y ρ1 = some (.int j) ∧ DA.nx (ρ1.set i (some (.v (.int (x + j)))))
section
variable {X : Cx} {P : Pm} {K : Fg} {pos : Pos}
/-- o.insert(i,x) -/
def P0 (o iv : A) (d : D) (ρ : J0) (Q : AK) : Prop:=∃ j xs k,o = .loc j ∧ ρ[j]? = some (some (.lst xs)) ∧ dat iv ρ = some (.int k) ∧ 0 ≤ k ∧ k < 2 ^ 63 ∧ xs.length ≤ 100000 ∧ Q (.v .non) (ρ.set j (some (.lst (xs.take k.toNat ++ [d] ++ xs.drop k.toNat))))
def G9 (ao ai ae : AE) : AE:=fun EA ρ Q=>ao EA ρ fun o ρ1=>(∃ xs,dat o ρ1 = some (.lst xs)) ∧ ai EA ρ1 fun iv ρ2=>ae EA ρ2 fun x ρ3=>Yl x ρ3 fun d ρ4=>P0 o iv d ρ4 Q
theorem Ri {o e f : Expr} {ao ai ae : AE} {apos cpos : Pos} (ho' : QE X P o ao) (hi : QE X P e ai) (he : QE X P f ae) (hbase : attributeBase o "insert" X.env (eval o X.env) = eval o X.env:=by rfl)
    (h1 : ((backTo cpos (starEach [e,f] X.env)).all (fun x=>!x.1) && (backToKw cpos (keywordEach [] X.env)).all (fun x=>x.1.isSome) && decide ([e,f].length + ([] : List Keyword).length + (if ([] : List Keyword).isEmpty then 0 else 1) < 30)) = true:=by rfl)
    (h2 : (apos.endLine == cpos.line) = true:=by rfl) (h3 : starEach [e,f] X.env = (false,eval e X.env) :: starEach [f] X.env:=by rfl) (h4 : (backTo cpos (starEach [f] X.env)).any (·.1) = false:=by rfl) (h5 : starEach [f] X.env = (false,eval f X.env) :: starEach [] X.env:=by rfl) :
    QE X P (.Call (.Attribute o "insert" apos) [e,f] [] cpos) (G9 ao ai ae):=by
  obtain ⟨to,po,so⟩:=ho'.ex
  obtain ⟨ti,pi,si⟩:=hi.ex
  obtain ⟨te,pe,se⟩:=he.ex
  refine ⟨_,pe_bm PySem.F.plainAttrs_list PySem.F.slot_list_insert PySem.F.type_list_insert mt_insert po (pa_cons pi (pa_cons pe pa_nil h5) h3) hbase h1 h2 h3 h4,fun c EA ho hw τ S H σ ρ Q R st q k=>so c EA ho hw τ S H σ ρ _ _ st q fun vo H1 ⟨S1,ρ1,xo,s1,⟨xs0,h0⟩,q1⟩=>?_⟩
  obtain ⟨y0,g0,r0,e0⟩:=s1.thing (List.mem_cons_self ..) h0
  obtain ⟨p,vs,rfl,h3',h4'⟩:=Vw r0 e0 s1.le
  refine ⟨.inl ⟨rfl,vs,h3'⟩,si c EA ho hw _ S1 H1 σ ρ1 _ _ s1 q1 fun v H2 ⟨S2,ρ2,x,s2,q2⟩=>se c EA ho hw _ S2 H2 σ ρ2 _ _ s2 q2 fun u H3 ⟨S3,ρ3,z,s3,q3⟩=>?_⟩
  obtain ⟨S4,d,ρ4,sm,s4,j,xs,kk,eo,hj,hk,hk0,hk1,hl,q4⟩:=W9 s3 q3
  subst eo
  have hvo : σ[j]? = some (some (.ref p)):=(s4.loc _ j (by simp)).1
  obtain ⟨g,ra⟩:=s4.slotA hj hvo
  obtain ⟨p',ws,e1,hp,rl,rfl⟩:=ra.lst_inv
  cases e1
  have rk:=s4.dat (List.mem_cons_of_mem _ (List.mem_cons_self ..)) hk
  simp only [Rep] at rk
  subst rk
  have rd:=s4.data
  refine ⟨p,ws,kk,u,rfl,rfl,hp,by rw [rl.len]; exact Nat.lt_of_le_of_lt hl (by decide),hk0,hk1,?_⟩
  have rn : RepL X.K S4 (xs.take kk.toNat ++ [d] ++ xs.drop kk.toNat) (ws.take kk.toNat ++ [u] ++ ws.drop kk.toNat):=((rl.take _).app (by simp only [RepL]; exact ⟨u,[],rfl,rd,rfl⟩)).app (rl.drop _)
  have s5:=s4.write (o:=.lst (ws.take kk.toNat ++ [u] ++ ws.drop kk.toNat)) (y':=.lst (xs.take kk.toNat ++ [d] ++ xs.drop kk.toNat)) hj hvo (fun g' h=>by obtain ⟨a',_,e,_,_,e2⟩:=h.lst_inv; cases e; exact e2) rfl (.mk_lst upd_same rn)
  exact k _ _ ⟨S4,_,.v .non,s5.drop.drop.drop.hold (by simp only [Rep]),q4⟩
/-- a new list times a number -/
def JH9 : AR2:=fun x y ρ Q=>∃ xs k,x = .lst xs ∧ dat y ρ = some (.int k) ∧ 0 ≤ k ∧ xs.length * k.toNat ≤ 100000 ∧ k ≤ 100000 ∧ Q (.lst (List.replicate k.toNat xs).flatten) ρ
end
end Vs
namespace Vs
open PySem PySem.Spec PyProof.Rows L2
variable [Tbs]
section
variable {X : Cx} {P : Pm} {K : Fg} {pos : Pos}
/-- t[::-1] -/
def JF4 (ae : AE) : AE:=fun EA ρ Q=>ae EA ρ fun x ρ1=>∃ xs,dat x ρ1 = some (.tup xs) ∧ Q (.v (.tup xs.reverse)) ρ1
def JXr : AR2:=fun x y ρ Q=>∃ xs k,dat x ρ = some (.tup xs) ∧ dat y ρ = some (.int k) ∧ xs ≠ [] ∧ 1 ≤ k ∧ k ≤ 1000 ∧ xs.length ≤ 1000 ∧ Q (.v (.tup (List.replicate k.toNat xs).flatten)) ρ
def Z8 : List (AE × AE) → AX → J0 → (List (Key × D) → J0 → Prop) → Prop
  | [],_,ρ,Q=>Q [] ρ
  | (ak,av) :: r,EA,ρ,Q=>ak EA ρ fun x ρ1=>∃ kd k,x = .v kd ∧ keyD kd = some k ∧ av EA ρ1 fun y ρ2=>Yl y ρ2 fun d ρ3=>Z8 r EA ρ3 fun kvs ρ4=>Q ((k,d) :: kvs) ρ4
def Kc (kvs : List (Key × D)) : List (Key × D):=kvs.foldl (fun acc p=>putD acc p.1 p.2) []
def L9 (ps : List (AE × AE)) : AE:=fun EA ρ Q=>Z8 ps EA ρ fun kvs ρ1=>kvs.length ≤ 15 ∧ Q (.dic (Kc kvs)) ρ1
structure QPs (X : Cx) (P : Pm) (pos : Pos) (ks : List (Option Expr)) (vs : List Expr) (ps : List (AE × AE)) : Prop where
  ex : ∃ trs,PPs X pos ks vs trs ∧ ∀ c EA,OsIn X.K c P.O → XOk X.K c P.W EA → ∀ τ S H σ ρ Q (R : List (V × V) → Hp → Prop),Stt X.K c S H σ ρ τ → Z8 ps EA ρ Q →
    (∀ (ws : List (Key × V)) H',(∃ S' ρ' kvs,Stt X.K c S' H' σ ρ' τ ∧ RepK X.K S' kvs ws ∧ Q kvs ρ') → R (ws.map fun p=>(kV p.1,p.2)) H') → tPairs trs σ H R
theorem JGr : QPs X P pos [] [] []:=⟨[],pps_nil,fun c EA _ _ τ S H σ ρ Q R st q k=>k [] H ⟨S,ρ,[],st,by simp only [RepK],q⟩⟩
theorem Nt {a b : Expr} {ak av : AE} {ks : List (Option Expr)} {vs : List Expr} {ps : List (AE × AE)} (ha : QE X P a ak) (hb : QE X P b av) (h : QPs X P pos ks vs ps) : QPs X P pos (some a :: ks) (b :: vs) ((ak,av) :: ps):=by
  obtain ⟨tk,pk,sk⟩:=ha.ex
  obtain ⟨tv,pv,sv⟩:=hb.ex
  obtain ⟨trs,pr,sr⟩:=h.ex
  refine ⟨_,pps_cons pk pv pr,fun c EA ho hw τ S H σ ρ Q R st q k=>sk c EA ho hw τ S H σ ρ _ _ st q fun v H1 ⟨S1,ρ1,x,s1,kd,ky,ex,hk,q1⟩=>?_⟩
  subst ex
  have rk:=Bs hk s1.data
  subst rk
  refine sv c EA ho hw τ S1 H1 σ ρ1 _ _ s1.drop q1 fun u H2 ⟨S2,ρ2,y,s2,q2⟩=>?_
  obtain ⟨S3,d,ρ3,_,s3,q3⟩:=W9 s2 q2
  refine sr c EA ho hw _ S3 H2 σ ρ3 _ _ s3 q3 fun ws H3 ⟨S4,ρ4,kvs,s4,rk,q4⟩=>?_
  exact k ((ky,u) :: ws) H3 ⟨S4,ρ4,(ky,d) :: kvs,s4.drop,by simp only [RepK]; exact ⟨u,ws,rfl,s4.data,rk⟩,q4⟩
theorem RepK.mrg {S : Hp} : ∀ {kvs : List (Key × D)} {ws : List (Key × V)} {acc : List (Key × D)} {wa : List (Key × V)},RepK K S kvs ws → RepK K S acc wa → RepK K S (kvs.foldl (fun acc p=>putD acc p.1 p.2) acc) (ws.foldl (fun acc kv=>putK acc kv.1 kv.2) wa)
  | [],ws,acc,wa,h,h2=>by
    simp only [RepK] at h
    subst h
    exact h2
  | (k,d) :: kvs,ws,acc,wa,h,h2=>by
    simp only [RepK] at h
    obtain ⟨v,r,rfl,h1,h3⟩:=h
    have:=RepK.mrg h3 (h2.put k h1)
    exact this
theorem JFb {ks : List (Option Expr)} {vs : List Expr} {ps : List (AE × AE)} (h : QPs X P pos ks vs ps) (h1 : ks.all (·.isSome) = true) (h2 : ks.length = vs.length) (h3 : ks ≠ []) (h4 : ks.length ≤ 15) : QE X P (.Dict ks vs pos) (L9 ps):=by
  obtain ⟨trs,pr,sr⟩:=h.ex
  refine ⟨_,pe_disp pr h1 h2 h3 h4,fun c EA ho hw τ S H σ ρ Q R st q k p hp=>?_⟩
  have s1:=st.alloc (x:=.dic []) (o:=.dK []) hp rfl (by
    simp only [RepA]
    exact ⟨p,[],rfl,upd_same,by simp only [RepK],rfl⟩)
  refine sr c EA ho hw _ S _ σ ρ _ _ s1 q fun ws H2 ⟨S2,ρ2,kvs,s2,rk,hl,q2⟩=>?_
  obtain ⟨g,f,a1,a2,a3,a4⟩:=s2.top rfl
  obtain ⟨p',w0,e1,hp2,r0,rfl⟩:=RepA.dic_inv a1
  cases e1
  have hw0 : w0 = []:=by simpa only [RepK] using r0
  subst hw0
  refine ⟨hp2,ws,rfl,by rw [rk.len]; exact hl,k _ _ ⟨S2,ρ2,.dic (Kc kvs),?_,q2⟩⟩
  have np : p ∉ f:=fun z=>(List.nodup_append.mp a3).2.2 p (List.mem_cons_self ..) p z rfl
  have hS : S2 p = none ∧ c.R p = none:=a4 p (by simp)
  refine Stt.push (g:=[p]) (h:=f) rfl ?_ (a2.keep (fun _ _ e=>e) fun a ha=>upd_ne fun e=>np (e ▸ ha)) a3 a4 s2.drop.env s2.drop.loc (s2.le.up hS.1) (fun a o e=>by
    have : a ≠ p:=fun z=>by rw [z,hS.2] at e; cases e
    rw [upd_ne this]
    exact s2.r a o e) s2.new s2.up s2.os (s2.tb.put hp2 rfl)
  simp only [RepA]
  exact ⟨p,_,rfl,upd_same,RepK.mrg rk (by simp only [RepK]),rfl⟩
end
end Vs
namespace Vs
open PySem PySem.Spec PyProof.Rows L2
variable [Tbs]
section
variable {aa ab ac ao ae av : AE} {at_ : AT} {a b : AS}
theorem JY4 (ho : CE ao) (hi : CE ab) (he : CE ae) : CE (G9 ao ab ae):=fun {ι} _ EA EA' ρ Q Q' h hx hq=>ho h hx fun o ρ1 h1=>V1 h1 fun h2=>hi h2 hx fun iv ρ2 h3=>he h3 hx fun x ρ3 h4=>Wp h4 fun d ρ4 h5=>by
  obtain ⟨i,_⟩:=i0 (ι:=ι)
  obtain ⟨j,xs,k,rfl,e1,e2,e3,e4,e5,_⟩:=h5 i
  refine ⟨j,xs,k,rfl,e1,e2,e3,e4,e5,hq _ _ fun i=>?_⟩
  obtain ⟨j',xs',k',f0,f1,f2,_,_,_,q⟩:=h5 i
  cases f0
  rw [e1] at f1; cases f1
  rw [e2] at f2; cases f2
  exact q
def CPs (ps : List (AE × AE)) : Prop:=∀ p ∈ ps,CE p.1 ∧ CE p.2
theorem JFy : CPs []:=fun _ h=>nomatch h
theorem O7 {ps : List (AE × AE)} (h1 : CE aa) (h2 : CE ab) (h : CPs ps) : CPs ((aa,ab) :: ps):=fun p hp=>by
  rcases List.mem_cons.mp hp with rfl | hp
  · exact ⟨h1,h2⟩
  · exact h p hp
theorem E6 {ι : Type} [Nonempty ι] : ∀ {ps : List (AE × AE)},CPs ps → ∀ {EA : ι → AX} {EA' : AX} {ρ : J0} {Q : ι → List (Key × D) → J0 → Prop} {Q' : List (Key × D) → J0 → Prop},(∀ i,Z8 ps (EA i) ρ (Q i)) → (∀ C fs ρ,(∀ i,EA i C fs ρ) → EA' C fs ρ) → (∀ x ρ,(∀ i,Q i x ρ) → Q' x ρ) → Z8 ps EA' ρ Q'
  | [],_,_,_,_,_,_,h,_,hq=>hq _ _ h
  | (ak,av) :: ps,hc,EA,EA',ρ,Q,Q',h,hx,hq=>(hc _ (List.mem_cons_self ..)).1 h hx fun x ρ1 h1=>by
    obtain ⟨i,_⟩:=i0 (ι:=ι)
    obtain ⟨kd,k,e1,e2,_⟩:=h1 i
    refine ⟨kd,k,e1,e2,(hc _ (List.mem_cons_self ..)).2 (EA:=EA) (Q:=fun i y ρ2=>Yl y ρ2 fun d ρ3=>Z8 ps (EA i) ρ3 fun kvs ρ4=>Q i ((k,d) :: kvs) ρ4) (fun i=>?_) hx fun y ρ2 h2=>Wp h2 fun d ρ3 h3=>E6 (fun p hp=>hc p (List.mem_cons_of_mem _ hp)) h3 hx fun kvs ρ4 h4=>hq _ _ h4⟩
    obtain ⟨kd',k',f1,f2,q⟩:=h1 i
    rw [e1] at f1; cases f1
    rw [e2] at f2; cases f2
    exact q
theorem JGf {ps : List (AE × AE)} (h : CPs ps) : CE (L9 ps):=fun h1 hx hq=>E6 h h1 hx fun kvs ρ1 h2=>V1 h2 fun h3=>hq _ _ h3
end
section
variable {X : Cx} {P : Pm} {k : Nat} {ps : List Str} {x : Str} {p pos : Pos}
theorem JN4 {sp : ASp} (F : Cal X.prog X.w X.K X.mg X.base x k ps sp) (hr : Room k X.A) (hg : Gl X x) (hx : ∀ σ,PassesAt (L2.CX X.prog X.w) X σ (fun cls d H=>P.W cls d σ H)) (hdb : (x == ("__debug__" : Str)) = false:=by decide) :
    QE X P (.Call (.Name x p) [] [] pos) (Y4 sp [] Ja):=by
  obtain ⟨f,fd,hm,hk,hb,F⟩:=F.ex
  refine ⟨tCallSD (lift X.K sp) [] (fun σ cls d H=>P.W cls d σ H) tNil,⟨fun pins s σ H Q I h=>wpAny_Call_Name_kw (ld_glob I hg hm ?_ hdb)⟩,JZg Kn JY6⟩
  exact PySem.W.callWith_K0 I.kIn hk (run_fnSD (E:=fun σ cls d H=>P.W cls d σ H) (us:=[]) F hr hb .nil (hx σ) I .nil h)
end
section
variable {EA : AX} {ρ : J0} {Q : AK} {DA : AEnds} {x y : A} {ae ao ai ak av : AE} {at_ : AT} {ab : AS} {j : Nat}
def Qb (j : Nat) (x : Int) (y : A) (ρ : J0) (nx : J0 → Prop) : Prop:=∃ k,dat y ρ = some (.int k) ∧ nx (ρ.set j (some (.v (.int (x + k)))))
theorem JVb {x : Int} (h : ρ[j]? = some (some (.v (.int x)))) (k : ae DA.ex ρ fun y ρ1=>Qb j x y ρ1 DA.nx) : JNf j ae DA ρ:=⟨x,h,k⟩
theorem JUj {x k : Int} {nx : J0 → Prop} (h : dat y ρ = some (.int k)) (q : nx (ρ.set j (some (.v (.int (x + k)))))) : Qb j x y ρ nx:=⟨k,h,q⟩
theorem JWg (k : ao EA ρ fun o ρ1=>isL o ρ1 (ai EA ρ1 fun iv ρ2=>ae EA ρ2 fun x ρ3=>Yl x ρ3 fun d ρ4=>P0 o iv d ρ4 Q)) : G9 ao ai ae EA ρ Q:=k
theorem Tq {xs : List D} {iv : A} {d : D} {k : Int} (h1 : ρ[j]? = some (some (.lst xs))) (h2 : dat iv ρ = some (.int k)) (h3 : 0 ≤ k ∧ k < 2 ^ 63 ∧ xs.length ≤ 100000) (q : Q (.v .non) (ρ.set j (some (.lst (xs.take k.toNat ++ [d] ++ xs.drop k.toNat))))) : P0 (.loc j) iv d ρ Q:=⟨j,xs,k,rfl,h1,h2,h3.1,h3.2.1,h3.2.2,q⟩
theorem JJh {xs : List D} {k : Int} (h2 : dat y ρ = some (.int k)) (h3 : 0 ≤ k ∧ xs.length * k.toNat ≤ 100000 ∧ k ≤ 100000) (q : Q (.lst (List.replicate k.toNat xs).flatten) ρ) : JH9 (.lst xs) y ρ Q:=⟨xs,k,rfl,h2,h3.1,h3.2.1,h3.2.2,q⟩
theorem JZl {xs : List D} {k : Int} (h1 : dat x ρ = some (.tup xs)) (h2 : dat y ρ = some (.int k)) (h3 : xs ≠ [] ∧ 1 ≤ k ∧ k ≤ 1000 ∧ xs.length ≤ 1000) (q : Q (.v (.tup (List.replicate k.toNat xs).flatten)) ρ) : JXr x y ρ Q:=⟨xs,k,h1,h2,h3.1,h3.2.1,h3.2.2.1,h3.2.2.2,q⟩
def JX4 (x : A) (ρ : J0) (Q : AK) : Prop:=∃ xs,dat x ρ = some (.tup xs) ∧ Q (.v (.tup xs.reverse)) ρ
theorem Cq (k : ae EA ρ fun x ρ1=>JX4 x ρ1 Q) : JF4 ae EA ρ Q:=k
theorem En {xs : List D} (h : dat x ρ = some (.tup xs)) (k : Q (.v (.tup xs.reverse)) ρ) : JX4 x ρ Q:=⟨xs,h,k⟩
def Fo (x : A) (k : Key → Prop) : Prop:=∃ kd ky,x = .v kd ∧ keyD kd = some ky ∧ k ky
theorem JWu {ps : List (AE × AE)} (k : Z8 ps EA ρ fun kvs ρ1=>kvs.length ≤ 15 ∧ Q (.dic (Kc kvs)) ρ1) : L9 ps EA ρ Q:=k
theorem JWr {q : List (Key × D) → J0 → Prop} (k : q [] ρ) : Z8 [] EA ρ q:=k
theorem Ej {ps : List (AE × AE)} {q : List (Key × D) → J0 → Prop} (k : ak EA ρ fun x ρ1=>Fo x fun ky=>av EA ρ1 fun y ρ2=>Yl y ρ2 fun d ρ3=>Z8 ps EA ρ3 fun kvs ρ4=>q ((ky,d) :: kvs) ρ4) : Z8 ((ak,av) :: ps) EA ρ q:=by
  simp only [Z8]
  unfold Fo at k
  simp only [← exists_and_left,← and_assoc] at k ⊢
  exact k
theorem Ds {kd : D} {ky : Key} {q : Key → Prop} (h : keyD kd = some ky) (k : q ky) : Fo (.v kd) q:=⟨kd,ky,rfl,h,k⟩
theorem evI {a : AS} {O : List Nat} {n m : Nat} {xs : List A} {R : A} (hl : xs.length = m) (h : ∀ DA : AEnds,(∀ r ρ,fin O 0 xs ρ = some xs → r = R → DA.rt r ρ) → (∀ ρ,fin O 0 xs ρ = some xs → R = .v .non → DA.nx ρ) → a DA (Yn n xs)) : Ev (spS a O n m) xs R :=
  Sat.mk' hl (h _ (fun r ρ h1 h2=>⟨_,h1,rfl,h2⟩) fun ρ h1 h2=>⟨_,h1,rfl,h2.symm⟩)
end
end Vs
namespace Vs
open PySem PySem.Spec PyProof.Rows L2
variable [Tbs]
section
variable {DA : AEnds} {ρ : J0} {G : J0 → Prop} {ag : AG} {ab : AS}
theorem JUz {k : Int} {xs : List D} (h : 0 ≤ k ∧ k < 2 ^ 63 ∧ xs.length ≤ 100000) : 0 ≤ k ∧ k < 2 ^ 63 ∧ xs.length ≤ 100000:=h
theorem JYa {kvs : List (Key × D)} {p : Prop} (h : kvs.length ≤ 15) (k : p) : kvs.length ≤ 15 ∧ p:=⟨h,k⟩
end
end Vs
namespace Vs
open PySem PySem.Spec PyProof.Rows L2
variable [Tbs]
mutual
theorem RepA.noX {K : Fg} {S H : Hp} {dd : Addr} {ws : List (Str × V)} (hd : H dd = some (.xd ws)) : ∀ (x : A) (v : V) (fp : List Addr),RepA K S H x v fp → dd ∉ fp
  | .v d,v,fp,h=>by
    simp only [RepA] at h
    rw [h.2]; simp
  | .lst xs,v,fp,h=>by
    simp only [RepA] at h
    obtain ⟨b,vs,_,h1,_,rfl⟩:=h
    intro m
    rw [List.mem_singleton] at m
    rw [m,h1] at hd; cases hd
  | .dic kvs,v,fp,h=>by
    simp only [RepA] at h
    obtain ⟨b,vs,_,h1,_,rfl⟩:=h
    intro m
    rw [List.mem_singleton] at m
    rw [m,h1] at hd; cases hd
  | .obj C fs,v,fp,h=>by
    simp only [RepA] at h
    obtain ⟨b,dx,vs,g,_,h1,h2,rfl⟩:=h
    intro m
    rcases List.mem_cons.mp m with m | m
    · rw [m,h1] at hd; cases hd
    · exact RepAF.noX hd fs vs g h2 m
  | .loc _,v,fp,h=>by simp only [RepA] at h
  | .nl xs,v,fp,h=>by
    simp only [RepA] at h
    obtain ⟨b,vs,g,_,h1,h2,rfl⟩:=h
    intro m
    rcases List.mem_cons.mp m with m | m
    · rw [m,h1] at hd; cases hd
    · exact RepAL.noX hd xs vs g h2 m
  | .nd xs,v,fp,h=>by
    simp only [RepA] at h
    obtain ⟨b,vs,g,_,h1,h2,rfl⟩:=h
    intro m
    rcases List.mem_cons.mp m with m | m
    · rw [m,h1] at hd; cases hd
    · exact RepAK.noX hd xs vs g h2 m
  | .nt xs,v,fp,h=>by
    simp only [RepA] at h
    obtain ⟨b,vs,g,_,h1,h2,rfl⟩:=h
    intro m
    rcases List.mem_cons.mp m with m | m
    · rw [m,h1] at hd; cases hd
    · exact RepAL.noX hd xs vs g h2 m
  | .cel w x,v,fp,h=>by
    simp only [RepA] at h
    exact RepA.noX hd x v fp h.2.2
  | .pth _ _ w,v,fp,h=>by
    simp only [RepA] at h
    rw [h.2.2]; simp
theorem RepAF.noX {K : Fg} {S H : Hp} {dd : Addr} {ws : List (Str × V)} (hd : H dd = some (.xd ws)) : ∀ (xs : List (Str × A)) (vs : List (Str × V)) (fp : List Addr),RepAF K S H xs vs fp → dd ∉ fp
  | [],vs,fp,h=>by
    simp only [RepAF] at h
    rw [h.2]; simp
  | (k,x) :: xs,vs,fp,h=>by
    simp only [RepAF] at h
    obtain ⟨v,r,g,g',_,h1,h2,rfl⟩:=h
    intro m
    rcases List.mem_append.mp m with m | m
    · exact RepA.noX hd x v g h1 m
    · exact RepAF.noX hd xs r g' h2 m
theorem RepAL.noX {K : Fg} {S H : Hp} {dd : Addr} {ws : List (Str × V)} (hd : H dd = some (.xd ws)) : ∀ (xs : List A) (vs : List V) (fp : List Addr),RepAL K S H xs vs fp → dd ∉ fp
  | [],vs,fp,h=>by
    simp only [RepAL] at h
    rw [h.2]; simp
  | x :: xs,vs,fp,h=>by
    simp only [RepAL] at h
    obtain ⟨v,r,g,g',_,h1,h2,rfl⟩:=h
    intro m
    rcases List.mem_append.mp m with m | m
    · exact RepA.noX hd x v g h1 m
    · exact RepAL.noX hd xs r g' h2 m
theorem RepAK.noX {K : Fg} {S H : Hp} {dd : Addr} {ws : List (Str × V)} (hd : H dd = some (.xd ws)) : ∀ (xs : List (Key × A)) (vs : List (Key × V)) (fp : List Addr),RepAK K S H xs vs fp → dd ∉ fp
  | [],vs,fp,h=>by
    simp only [RepAK] at h
    rw [h.2]; simp
  | (k,x) :: xs,vs,fp,h=>by
    simp only [RepAK] at h
    obtain ⟨v,r,g,g',_,h1,h2,rfl⟩:=h
    intro m
    rcases List.mem_append.mp m with m | m
    · exact RepA.noX hd x v g h1 m
    · exact RepAK.noX hd xs r g' h2 m
end
theorem RepP.noX {K : Fg} {S H : Hp} {dd : Addr} {ws : List (Str × V)} (hd : H dd = some (.xd ws)) : ∀ {ps : List (V × A)} {fp : List Addr},RepP K S H ps fp → dd ∉ fp:=by
  intro ps
  induction ps with
  | nil=>intro fp h; cases h; simp
  | cons x ps ih =>
    obtain ⟨v,x⟩:=x
    intro fp h m
    obtain ⟨g,h',h1,h2,h3⟩:=h
    subst h3
    rcases List.mem_append.mp m with q | q
    · exact RepA.noX hd x v g h1 q
    · exact ih h2 q
section
variable {X : Cx} {P : Pm} {K : Fg} {pos : Pos}
def OX (K : Fg) (O : OL) (i : Nat) (a dd : Addr) (ws : List (Str × V)) (fs : List (Str × D)) : OL:=⟨i :: O.l,fun S H σ=>O.J S H σ ∧ σ[i]? = some (some (.ref a)) ∧ H dd = some (.xd ws) ∧ RepF K S fs ws,fun S H σ d o ws' h1 ⟨h2,h3,h4,h5⟩=>⟨O.un S H σ d o ws' h1 h2,h3,by
  by_cases e : dd = d
  · rw [e,upd_same] at h4
    cases h4
  · rwa [upd_ne e] at h4,h5⟩⟩
def noW : WX:=fun _ _ _ _=>False
def aXf (fs : List (Str × D)) (f : Str) : AE:=fun _ ρ Q=>∃ d,fs.lookup f = some d ∧ Q (.v d) ρ
variable {i : Nat} {a dd C : Addr} {ws : List (Str × V)} {fs : List (Str × D)}
theorem JZx {W : WX} {O : OL} {f n : Str} {oe : Obj} {pn : List (Addr × Obj)} {np : Pos} (T : XfC X.K C) (hno : PySem.W.findIn X.K (.ref C) f = some none) (hz : Zc (.ref C) (some dd) oe) (hf : ∃ vs,oe.data = .fields vs) (hN : X.N[i]? = some n:=by rfl) (hv : Vis X.env.scope n:=by first | exact Or.inl rfl | exact Or.inr (Or.inl rfl) | exact Or.inr (Or.inr rfl)) (hd : (n == ("__debug__" : Str)) = false:=by decide) (hcd : (n == ("__classdict__" : Str)) = false:=by decide)
    (hb : attributeBase (.Name n np) f X.env (eval (.Name n np) X.env) = eval (.Name n np) X.env:=by rfl) : QE (X.suite a ((a,oe) :: pn)) ⟨W,OX X.K O i a dd ws fs⟩ (.Attribute (.Name n np) f pos) (aXf fs f):=by
  refine ⟨_,pe_xf T hno hz hf (pe_var hN hv hd hcd) hb,fun c EA ho hw τ S H σ ρ Q R s q k=>?_⟩
  obtain ⟨_,h1,h2,h3⟩:=ho.2.2 S H σ ρ τ s
  refine ⟨.ref a,h1,rfl,rfl,?_⟩
  obtain ⟨d,h4,q⟩:=q
  rcases Ho (m:=f) h3 with ⟨e1,_⟩ | ⟨d',u,e1,e2,e3⟩
  · rw [e1] at h4; cases h4
  · rw [h4] at e1
    cases e1
    exact ⟨dd,ws,u,rfl,h2,e2,k _ _ ⟨S,ρ,.v d,s.hold e3,q⟩⟩
theorem A1 {fs : List (Str × D)} {f : Str} : CE (aXf fs f):=fun {ι} _ EA EA' ρ Q Q' h ce cq=>by
  obtain ⟨i,_⟩:=i0 (ι:=ι)
  obtain ⟨d,e,_⟩:=h i
  refine ⟨d,e,cq _ _ fun i=>?_⟩
  obtain ⟨d',e',q⟩:=h i
  rw [e] at e'
  cases e'
  exact q
def Fy (i : Nat) (DA : AEnds) : AEnds:={ nx:=fun ρ=>DA.nx (ρ.set i none),rt:=DA.rt,bk:=fun ρ=>DA.bk (ρ.set i none),ct:=fun ρ=>DA.ct (ρ.set i none),ex:=fun _ _ _=>False }
def Nr (K : Fg) (C : Addr) (i : Nat) (su : List (Str × D) → AS) (DA : AEnds) : AEnds:={ DA with ex:=fun C' fs ρ'=>∃ b,PySem.W.exmOne K (.ref C') (.ref C) = some b ∧ (b = true → C' = C ∧ fs ≠ [] ∧ i < ρ'.length ∧ su fs (Fy i DA) (ρ'.set i none)) ∧ (b = false → DA.ex C' fs ρ') }
def JL2 (K : Fg) (C : Addr) (i : Nat) (ab : AS) (su : List (Str × D) → AS) : AS:=fun DA ρ=>ab (Nr K C i su DA) ρ
/-- the context of a suite -/
def cxS (c : Ctx) (S : Hp) (i : Nat) (a dd : Addr) (ws : List (Str × V)) : Ctx:=⟨upd c.R dd (.xd ws),S,(i,.ref a) :: c.os⟩
theorem Stt.suOff {c : Ctx} {S S' H H' : Hp} {σ σ' : L2.St} {ρ ρ' : J0} {τ τ' : List (V × A)} (s : Stt K c S H σ ρ τ) (hd : H dd = some (.xd ws)) (t : Stt K (cxS c S i a dd ws) S' H' σ' ρ' τ') : Stt K c S' H' σ' ρ' τ':=by
  have hR : ∀ b,c.R b ≠ none → upd c.R dd (.xd ws) b = c.R b:=fun b hb=>by
    by_cases e : b = dd
    · subst e
      rw [upd_same]
      cases h : c.R b with
      | none=>exact absurd h hb
      | some o =>
        have:=s.r b o h
        rw [hd] at this
        rw [this]
    · rw [upd_ne e]
  obtain ⟨fp,r,nd,h3⟩:=t.own
  refine ⟨⟨fp,r,nd,fun b hb=>⟨(h3 b hb).1,?_⟩⟩,t.env,t.loc,t.le,fun b o e=>?_,fun b hb=>?_,fun b o e=>t.up b o (s.up b o e),fun p m=>t.os p (List.mem_cons_of_mem _ m),Tb.bk t.tb⟩
  · cases h : c.R b with
    | none=>rfl
    | some o =>
      have h1:=(h3 b hb).2
      have h2:=hR b (by rw [h]; exact fun z=>nomatch z)
      have h1' : upd c.R dd (.xd ws) b = none:=h1
      rw [h2,h] at h1'
      cases h1'
  · refine t.r b o ?_
    show upd c.R dd (.xd ws) b = some o
    rw [hR b (by rw [e]; exact fun z=>nomatch z)]
    exact e
  · have h1 : S' b = S b:=t.new b (by
      show upd c.R dd (.xd ws) b ≠ none
      rw [hR b hb]
      exact hb)
    rw [h1]
    exact s.new b hb
theorem Stt.suOn {c : Ctx} {S H : Hp} {σ : L2.St} {ρ : J0} (s : Stt K c S H σ ρ []) (hd : H dd = some (.xd ws)) (hi : ρ[i]? = some none) (hs : ∀ p ∈ c.os,p.1 ≠ i) (hσ : σ[i]? = some (some (.ref a))) : Stt K (cxS c S i a dd ws) S H σ ρ []:=by
  obtain ⟨fp,r,nd,h3⟩:=s.own
  have nfp : ∀ b ∈ fp,b ≠ dd:=fun b hb z=>RepP.noX hd r (z ▸ hb)
  refine ⟨⟨fp,r,nd,fun b hb=>⟨(h3 b hb).1,?_⟩⟩,s.env,s.loc,s.le,fun b o e=>?_,fun b hb=>rfl,fun b o e=>e,fun p m=>?_,s.tb.lk hd rfl⟩
  · show upd c.R dd (.xd ws) b = none
    rw [upd_ne (nfp b hb)]
    exact (h3 b hb).2
  · have e' : upd c.R dd (.xd ws) b = some o:=e
    by_cases q : b = dd
    · rw [q,upd_same] at e'
      rw [q,hd]
      exact e'
    · rw [upd_ne q] at e'
      exact s.r b o e'
  · rcases List.mem_cons.mp m with e | m
    · rw [e]; exact hσ
    · exact s.os p m
theorem Stt.slotN {c : Ctx} {S H : Hp} {σ : L2.St} {ρ : J0} {i : Nat} {w : Option V} (s : Stt K c S H σ ρ []) (hs : ∀ p ∈ c.os,p.1 ≠ i) : Stt K c S H (σ.set i w) (ρ.set i none) []:=by
  have z:=s.clear i (by simp)
  have ev : EnvOk (ρ.set i none) (σ.set i w):=by
    have y:=z.env.store (i:=i) (o:=none) (w:=w) fun _ e=>(nomatch e)
    rwa [set_set] at y
  refine ⟨?_,ev,fun _ _ m=>by simp at m,z.le,z.r,z.new,z.up,fun p m=>?_,z.tb⟩
  · have e2:=Lz (ρ:=ρ) (σ:=σ) (i:=i) (w:=w)
    rw [e2]
    exact z.own
  · rw [List.getElem?_set_ne (Ne.symm (hs p m))]
    exact z.os p m
theorem JWh {DA : AEnds} {ρ : J0} {a : AS} {su : List (Str × D) → AS} {j : Nat} (h : a (Nr K C j su DA) ρ) : JL2 K C j a su DA ρ:=h
theorem JYu {EA : AX} {ρ : J0} {Q : AK} {fs : List (Str × D)} {f : Str} {d : D} (h : fs.lookup f = some d) (k : Q (.v d) ρ) : aXf fs f EA ρ Q:=⟨d,h,k⟩
end
end Vs
namespace Vs
open PySem PySem.Spec PyProof.Rows L2
variable [Tbs]
section
variable {X : Cx} {P : Pm} {K : Fg} {pos : Pos}
def JMg : AR2:=fun x y ρ Q=>∃ m n,dat x ρ = some (.bl m) ∧ dat y ρ = some (.bl n) ∧ Q (.v (.bl (decide (m = n)))) ρ
def JNj : AR2:=fun x y ρ Q=>∃ m n,dat x ρ = some (.bl m) ∧ dat y ρ = some (.bl n) ∧ Q (.v (.bl (!decide (m = n)))) ρ
theorem JJm {x y : A} {ρ : J0} {Q : AK} {m n : Bool} (h1 : dat x ρ = some (.bl m)) (h2 : dat y ρ = some (.bl n)) (k : Q (.v (.bl (decide (m = n)))) ρ) : JMg x y ρ Q:=⟨m,n,h1,h2,k⟩
theorem Rg {x y : A} {ρ : J0} {Q : AK} {m n : Bool} (h1 : dat x ρ = some (.bl m)) (h2 : dat y ρ = some (.bl n)) (k : Q (.v (.bl (!decide (m = n)))) ρ) : JNj x y ρ Q:=⟨m,n,h1,h2,k⟩
theorem Tz {K : Fg} {C : Addr} {j : Nat} {su : List (Str × D) → AS} {DA : AEnds} {ρ : J0} (k : DA.nx ρ) : (Nr K C j su DA).nx ρ:=k
theorem JUx {j : Nat} {DA : AEnds} {ρ : J0} (k : DA.nx (ρ.set j none)) : (Fy j DA).nx ρ:=k
end
end Vs
namespace Vs
open PySem PySem.Spec PyProof.Rows L2
variable [Tbs]
abbrev HdL:=List (Value × Option Nat × (Addr → Value → Option Addr → TS))
def JB0 : Option Nat → Ends → Ends
  | none,D=>D
  | some i,D=>{ nx:=fun σ H=>D.nx (σ.set i none) H,rt:=D.rt,bk:=fun σ H=>D.bk (σ.set i none) H,ct:=fun σ H=>D.ct (σ.set i none) H }
def dSt : Option Nat → Addr → L2.St → L2.St
  | none,_,σ=>σ
  | some i,a,σ=>σ.set i (some (.ref a))
def Gr (K : Fg) (Wout : WX) (D : Ends) : HdL → WX
  | []=>Wout
  | (c,o,ts) :: r=>fun cls d σ H=>∃ b,PySem.W.exmOne K cls c = some b ∧ (b = true → ∀ a,H a = none → ts a cls d (JB0 o D) (dSt o a σ) H) ∧ (b = false → Gr K Wout D r cls d σ H)
inductive Hds (X : Cx) : List ExceptHandler → HdL → Prop
  | nil : Hds X [] []
  | as {x n : Str} {c : Value} {i : Nat} {ts : Addr → Value → Option Addr → TS} {b₀ : Stmt} {suite : List Stmt} {np pos' : Pos} {hds : List ExceptHandler} {l : HdL} (hi : X.N[i]? = some n) (hln : X.env.kindOf n = some .local) (hc : Names X x c)
      (hsu : ∀ (a : Addr) (oe : Obj) (cls : Value) (d : Option Addr) (pn : List (Addr × Obj)),Zc cls d oe → (∃ vs,oe.data = .fields vs) → PSs (X.suite a ((a,oe) :: pn)) (b₀ :: suite) (ts a cls d)) (r : Hds X hds l) :
      Hds X (.ExceptHandler (some (.Name x np)) (some n) (b₀ :: suite) pos' :: hds) ((c,some i,ts) :: l)
  | only {x : Str} {c : Value} {ts : Addr → Value → Option Addr → TS} {b₀ : Stmt} {suite : List Stmt} {np pos' : Pos} {hds : List ExceptHandler} {l : HdL} (hc : Names X x c)
      (hsu : ∀ (a : Addr) (oe : Obj) (cls : Value) (d : Option Addr) (pn : List (Addr × Obj)),Zc cls d oe → (∃ vs,oe.data = .fields vs) → PSs (X.suite a ((a,oe) :: pn)) (b₀ :: suite) (ts a cls d)) (r : Hds X hds l) :
      Hds X (.ExceptHandler (some (.Name x np)) none (b₀ :: suite) pos' :: hds) ((c,none,ts) :: l)
section
variable {X : Cx} {pins : List (Addr × Obj)} {σ : L2.St} {H : Hp} {a : Addr} {cls : Value} {d : Option Addr} {D : Ends} {Wout : WX}
/-- a state in which the exception a is held -/
structure Lnd (X : Cx) (pins : List (Addr × Obj)) (σ : L2.St) (H : Hp) (a : Addr) (cls : Value) (d : Option Addr) (s : Shared) : Prop where
  inv : Inv X pins σ H s
  su : ∃ oe,Zc cls d oe ∧ (∃ vs,oe.data = .fields vs) ∧ Inv (X.suite a ((a,oe) :: (X.pn ++ pins))) [] σ H s
  ty : PySem.W.Looks (model X.prog X.w) s.heap (typeOf (.ref a)) cls
/-- it may be landed again,or passed on -/
structure Can (X : Cx) (pins : List (Addr × Obj)) (σ : L2.St) (H : Hp) (a : Addr) (cls : Value) (d : Option Addr) (Wout : WX) (s : Shared) : Prop where
  lnd : Lnd X pins σ H a cls d s
  ok : X.Ok
  new : H a = none
  again : ∀ {A : Around} {Q : Unit → Shared → Prop} {E : Value → Shared → Prop},(∀ s4,Lnd X pins σ H a cls d s4 → Q () s4) → wpAny (model X.prog X.w) A (setFlight (.ref a) none) Q E s
  pass : ∀ {Q : Flow → Shared → Prop},Wout cls d σ H → wpAny (model X.prog X.w) X.A (handleBy (.ref a) X.env []) Q X.xe s
theorem handled {s : Shared} (hN : X.N.Nodup) (L : Can X pins σ H a cls d Wout s) : ∀ {hds : List ExceptHandler} {l : HdL},Hds X hds l → Gr X.K Wout D l cls d σ H → wpAny (model X.prog X.w) X.A (handleBy (.ref a) X.env hds) (SP X pins D) X.xe s:=by
  intro hds l hk
  obtain ⟨oe3,hz3,hd3,S3⟩:=L.lnd.su
  have name : ∀ {x : Str} {c : Value} {np : Pos},Names X x c → ∀ {Q : Value → Shared → Prop} {E : Value → Shared → Prop},Q c s → wpAny (model X.prog X.w) (X.A.mark (some (.ref a))) (eval (.Name x np) X.env) Q E s:=fun {x c np} hc {Q E} q=>by
    obtain ⟨hg,hdbg,hm | ⟨hm,hv,hnn⟩⟩:=hc
    · exact ld_glob (X:=X.suite a ((a,oe3) :: (X.pn ++ pins))) S3 hg hm q hdbg
    · exact ld_blt (X:=X.suite a ((a,oe3) :: (X.pn ++ pins))) S3 hg hm hv q hnn hdbg
  induction hk with
  | nil=>exact fun w=>L.pass w
  | @as x n c i ts b₀ suite np pos' hds2 l2 hi hln hc hsu r ih =>
    rintro ⟨b,hb1,hyes,hno⟩
    refine wpAny_handleBy_cons (codeAny_handlers_test (name hc ((PySem.W.exm_one (M:=model X.prog X.w) L.lnd.inv.kIn L.lnd.ty hb1).here ?_))) (by intro q; cases q)
    cases b with
    | false=>exact ih (hno rfl)
    | true =>
      refine codeAny_handlers_suite_as (L.again fun s4 L4=>?_)
      obtain ⟨oe4,hz4,hd4,S4⟩:=L4.su
      refine store_ok (X:=X.suite a ((a,oe4) :: (X.pn ++ pins))) (v:=.ref a) S4 hN hi (.inl hln) rfl (fun s5 S5=>?_) (.inr hln)
      refine wpAny_mono ((hsu a oe4 cls d (X.pn ++ pins) hz4 hd4).run [] s5 _ H _ S5 (hyes rfl a L.new)) (fun f s6 hsp=>?_) (fun _ _ z=>False.elim z)
      have fin : ∀ {σ6 : L2.St} {H6 : Hp} {Q : Shared → Prop},Inv (X.suite a ((a,oe4) :: (X.pn ++ pins))) [] σ6 H6 s6 → (∀ s7,Inv X pins (σ6.set i none) H6 s7 → Q s7) →
          wpAny (model X.prog X.w) X.A (do bindName X.env n .none; unbindBehindTheSuite X.env n pos') (fun _ s7=>Q s7) X.xe s6:=fun {σ6 H6 Q} S6 hq=>gone_ok (S6.unsuite L.ok) hN hi hln hq
      cases f <;> first | (obtain ⟨σ6,H6,S6,q6⟩:=hsp; exact fin S6 fun s7 J7=>⟨_,_,J7,q6⟩) | (obtain ⟨v6,σ6,H6,S6,r6,q6⟩:=hsp; exact fin S6 fun s7 J7=>⟨_,_,_,J7,r6,q6⟩)
  | @only x c ts b₀ suite np pos' hds2 l2 hc hsu r ih =>
    rintro ⟨b,hb1,hyes,hno⟩
    refine wpAny_handleBy_cons (codeAny_handlers_test (name hc ((PySem.W.exm_one (M:=model X.prog X.w) L.lnd.inv.kIn L.lnd.ty hb1).here ?_))) (by intro q; cases q)
    cases b with
    | false=>exact ih (hno rfl)
    | true =>
      refine codeAny_handlers_suite (L.again fun s4 L4=>?_)
      obtain ⟨oe4,hz4,hd4,S4⟩:=L4.su
      refine wpAny_mono ((hsu a oe4 cls d (X.pn ++ pins) hz4 hd4).run [] s4 _ H _ S4 (hyes rfl a L.new)) (fun f s6 hsp=>?_) (fun _ _ z=>False.elim z)
      cases f <;> first | (obtain ⟨σ6,H6,S6,q6⟩:=hsp; exact ⟨_,_,S6.unsuite L.ok,q6⟩) | (obtain ⟨v6,σ6,H6,S6,r6,q6⟩:=hsp; exact ⟨_,_,_,S6.unsuite L.ok,r6,q6⟩)
theorem JLt {body : List Stmt} {h₀ : ExceptHandler} {hds : List ExceptHandler} {l : HdL} {pos : Pos} {tb : WX → TS} (hs : X.stack = X.env :: X.outer) (hf : X.env.frame = some X.env.locals) (hN : X.N.Nodup) (tk : Takes X Wout)
    (hb : ∀ (W : WX) (pn : List (Addr × Obj)) (xe : Value → Shared → Prop),Takes (X.tr pn xe) W → PassesOwn (model X.prog X.w) X.A X.env xe → PSs (X.tr pn xe) body (tb W))
    (hh : Hds X (h₀ :: hds) l) : PS X (.Try body (h₀ :: hds) [] [] pos) (fun D σ H=>tb (Gr X.K Wout D l) D σ H):=by
  refine ⟨fun pins s σ H D I h=>?_⟩
  have ok:=I.ok
  refine wpAny_Try_except ?_
  refine wpAny_mono ((hb (Gr X.K Wout D l) (X.pn ++ pins) (fun e s₁=>wpAny (model X.prog X.w) X.A (noteFrame e X.env) (fun _ s₂=>wpAny (model X.prog X.w) X.A (setFlight e none) (fun _ s₃ =>
    wpAny (model X.prog X.w) X.A (handleBy e X.env (h₀ :: hds)) (SP X pins D) X.xe s₃) X.xe s₂) X.xe s₁) (fun u s' xx=>?_) PassesOwn.looking).run [] s σ H D (I.toTry _) h) (fun f s1 hsp=>?_) (fun e s1 he=>he)
  · obtain ⟨a,B,sI,pins',σ',H',cls,d,rfl,J',nb,up,sky,na,os,ag,w⟩:=xx
    have J : Inv X pins σ' H' sI:=J'.ofTry ok
    refine Sky.land Zc.steady (by rw [ok.frames,hs]) hf (by rw [← hs]; exact sky) fun h3 fl3 up3=>?_
    have lnd : ∀ h4,HandSPX.FlyingZ B (X.env :: X.outer) a (Zc cls d) h4 → s'.heap.UpToSlots h4 → Lnd X pins σ' H' a cls d { s' with heap:=h4 }:=fun h4 fl4 up4=>by
      have J4 : Inv X pins σ' H' { s' with heap:=h4 }:=J.landed nb fl4.1 (up.trans up4) os ag
      obtain ⟨oe,vs,he,hz,hd⟩:=fl4.there
      have nfr : a ∉ frs (X.env :: X.outer):=fun hm=>by
        obtain ⟨_,o',e',hnf⟩:=fl4.2.2.1.mem hm
        rw [he] at e'
        cases e'
        exact hnf _ hd
      have nL : a ≠ X.env.locals:=fun z=>nfr (List.mem_filterMap.mpr ⟨X.env,List.mem_cons_self,by rw [hf,z]⟩)
      have nF : a ∉ X.fs:=fun hm=>by
        obtain ⟨e,he',q⟩:=List.mem_filterMap.mp hm
        exact nfr (List.mem_filterMap.mpr ⟨e,List.mem_cons_of_mem _ he',q⟩)
      exact ⟨J4,⟨oe,hz,⟨vs,hd⟩,J4.suite he hd na nL nF⟩,fun A Q E s k q=>wpAny_typeOf_ref (k _ _ he) (by rw [hz.1]; exact q)⟩
    refine handled hN ⟨lnd h3 fl3 up3,ok,na,fun {A Q E} hq=>HandSPX.lands_againZ fl3 fun h4 fl4 up4=>hq _ (lnd h4 fl4 (up3.trans up4)),fun {Q} hw=>?_⟩ hh w
    refine wpAny_handleBy_nil ?_
    obtain ⟨k1,k2,k3,oe,vs,T,oT,ts',he,hz,hd,h1,hr⟩:=id fl3
    unfold PySem.passOn
    refine wpAny_bind (wpAny_field he hd h1 ?_)
    rw [if_neg (show ¬ ((Value.ref T == Value.none) = true) from by simp)]
    have fin : wpAny (model X.prog X.w) X.A (setFlight (.ref a) X.env.frame) (fun _ s4=>wpAny (model X.prog X.w) X.A (throw (.ref a) : Sem Flow) Q X.xe s4) X.xe { s' with heap:=h3 }:=by
      rw [hf]
      refine HandSPX.setFlight_upZ fl3 fun h4 hh4 up4=>wpAny_throw (tk _ _ ?_)
      exact ⟨a,B,sI,pins,σ',H',cls,d,rfl,J,nb,(up.trans up3).trans up4,.inr (.inr (by rw [hs]; exact hh4)),na,os,ag,hw⟩
    first
      | exact wpAny_bind (wpAny_pure (wpAny_bind fin))
      | exact wpAny_bind fin
  · cases f <;> first | (obtain ⟨σ',H',J',q⟩:=hsp; exact wpAny_execs_nil ⟨σ',H',J'.ofTry ok,q⟩) | (obtain ⟨σ',H',J',q⟩:=hsp; exact ⟨σ',H',J'.ofTry ok,q⟩) | (obtain ⟨v,σ',H',J',r,q⟩:=hsp; exact ⟨v,σ',H',J'.ofTry ok,r,q⟩)
end
end Vs
namespace Vs
open PySem PySem.Spec PyProof.Rows L2
variable [Tbs]
abbrev HL:=List (Addr × Option Nat × (List (Str × D) → AS))
def G0 : Option Nat → AEnds → AEnds
  | none,DA=>{ DA with ex:=fun _ _ _=>False }
  | some i,DA=>Fy i DA
def hSt : Option Nat → J0 → J0
  | none,ρ=>ρ
  | some i,ρ=>ρ.set i none
def hOk : Option Nat → List (Str × D) → J0 → Prop
  | none,_,_=>True
  | some i,fs,ρ=>fs ≠ [] ∧ i < ρ.length
def hEx (K : Fg) (DA : AEnds) : HL → AX
  | []=>DA.ex
  | (C,o,su) :: r=>fun C' fs ρ=>∃ b,PySem.W.exmOne K (.ref C') (.ref C) = some b ∧ (b = true → C' = C ∧ hOk o fs ρ ∧ su fs (G0 o DA) (hSt o ρ)) ∧ (b = false → hEx K DA r C' fs ρ)
def F9 (K : Fg) (l : HL) (DA : AEnds) : AEnds:={ DA with ex:=hEx K DA l }
def K8 (K : Fg) (l : HL) (ab : AS) : AS:=fun DA ρ=>ab (F9 K l DA) ρ
section
variable {X : Cx} {P : Pm} {K : Fg} {pos : Pos}
inductive QHds (X : Cx) (P : Pm) : List ExceptHandler → HL → Prop
  | nil : QHds X P [] []
  | as {x n : Str} {C : Addr} {i : Nat} {su : List (Str × D) → AS} {b₀ : Stmt} {suite : List Stmt} {np pos' : Pos} {hds : List ExceptHandler} {l : HL} (hi : X.N[i]? = some n) (hln : X.env.kindOf n = some .local) (hO : i ∉ P.O) (hg : Gl X x) (hm : X.mg x = some (.ref C)) (hdb : (x == ("__debug__" : Str)) = false)
      (hsu : ∀ (a : Addr) (oe : Obj) (dd : Addr) (pn : List (Addr × Obj)) (ws : List (Str × V)) (fs : List (Str × D)),Zc (.ref C) (some dd) oe → (∃ vs,oe.data = .fields vs) → QSs (X.suite a ((a,oe) :: pn)) ⟨noW,OX X.K P.O i a dd ws fs⟩ (b₀ :: suite) (su fs)) (r : QHds X P hds l) :
      QHds X P (.ExceptHandler (some (.Name x np)) (some n) (b₀ :: suite) pos' :: hds) ((C,some i,su) :: l)
  | only {x : Str} {C : Addr} {su : List (Str × D) → AS} {b₀ : Stmt} {suite : List Stmt} {np pos' : Pos} {hds : List ExceptHandler} {l : HL} (hg : Gl X x) (hm : X.mg x = some (.ref C)) (hdb : (x == ("__debug__" : Str)) = false)
      (hsu : ∀ (a : Addr) (oe : Obj) (pn : List (Addr × Obj)) (fs : List (Str × D)),QSs (X.suite a ((a,oe) :: pn)) ⟨noW,P.O⟩ (b₀ :: suite) (su fs)) (r : QHds X P hds l) :
      QHds X P (.ExceptHandler (some (.Name x np)) none (b₀ :: suite) pos' :: hds) ((C,none,su) :: l)
theorem QHds.go {hds : List ExceptHandler} {l : HL} (h : QHds X P hds l) : ∃ l',Hds X hds l' ∧ ∀ c D DA,OsIn X.K c P.O → Link X.K c D DA → ∀ Wout,XOk X.K c Wout DA.ex → XOk X.K c (Gr X.K Wout D l') (hEx X.K DA l):=by
  induction h with
  | nil=>exact ⟨[],.nil,fun c D DA _ _ Wout hw=>hw⟩
  | @as x n C i su b₀ suite np pos' hds l hi hln hO hg hm hdb hsu r ih =>
    obtain ⟨l',h1,h2⟩:=ih
    refine ⟨_,.as (ts:=fun a cls d D σ H=>∃ c DA S ρ dd ws fs,cls = .ref C ∧ d = some dd ∧ OsIn X.K c (OX X.K P.O i a dd ws fs) ∧ Link X.K c D DA ∧ XOk X.K c noW DA.ex ∧ Stt X.K c S H σ ρ [] ∧ su fs DA ρ) hi hln ⟨hg,hdb,.inl hm⟩ (fun a oe cls d pn hz hfs=>⟨fun pins s σ H D I h=>?_⟩) h1,fun c D DA ho l Wout hw=>?_⟩
    · obtain ⟨c,DA,S,ρ,dd,ws,fs,rfl,rfl,g1,g2,g3,g4,g5⟩:=h
      obtain ⟨t,p,sm⟩:=(hsu a oe dd pn ws fs hz hfs).ex
      exact p.run pins s σ H D I (sm c D DA g1 g3 g2 S H σ ρ g4 g5)
    · rintro S' H' σ' ρ' C' fs dd st' xd ⟨b,hb1,hb2,hb3⟩
      refine ⟨b,hb1,fun e1 a ha=>?_,fun e1=>h2 c D DA ho l Wout hw S' H' σ' ρ' C' fs dd st' xd (hb3 e1)⟩
      obtain ⟨rfl,⟨hne,hil⟩,hq⟩:=hb2 e1
      rcases xd with ⟨rfl,rfl⟩ | ⟨d',ws,rfl,hw',rf⟩
      · exact absurd rfl hne
      · have st2 : Stt X.K c S' H' (σ'.set i (some (.ref a))) (ρ'.set i none) []:=st'.slotN (ho.ne hO)
        have hlt : i < σ'.length:=by rw [st'.env.len]; exact hil
        have hσ : (σ'.set i (some (.ref a)))[i]? = some (some (V.ref a)):=by rw [List.getElem?_set_self hlt]
        have st3:=st2.suOn (i:=i) (a:=a) hw' (by rw [List.getElem?_set_self hil]) (ho.ne hO) hσ
        refine ⟨cxS c S' i a d' ws,Fy i DA,S',_,d',ws,fs,rfl,rfl,⟨fun p m=>?_,fun j hj=>?_,fun S2 H2 σ2 ρ2 τ2 t=>⟨?_,?_,?_,?_⟩⟩,⟨fun S2 H2 σ2 ρ2 t e=>?_,fun S2 H2 σ2 ρ2 v2 x2 t e1 e2=>l.rt S2 H2 σ2 ρ2 v2 x2 (st2.suOff hw' t) e1 e2,fun S2 H2 σ2 ρ2 t e=>?_,fun S2 H2 σ2 ρ2 t e=>?_⟩,fun _ _ _ _ _ _ _ _ _ z=>z.elim,st3,hq⟩
        · rcases List.mem_cons.mp m with e | m
          · rw [e]; exact List.mem_cons_self
          · exact List.mem_cons_of_mem _ (ho.1 p m)
        · rcases List.mem_cons.mp hj with e | hj
          · rw [e]; exact ⟨_,List.mem_cons_self⟩
          · obtain ⟨v,hv⟩:=ho.2.1 j hj
            exact ⟨v,List.mem_cons_of_mem _ hv⟩
        · exact ho.2.2 S2 H2 σ2 ρ2 τ2 (st2.suOff hw' t)
        · exact t.os (i,.ref a) List.mem_cons_self
        · exact t.r d' _ (show upd c.R d' (.xd ws) d' = some (.xd ws) from upd_same)
        · exact RepF.le (Le.of_same t.up) _ _ rf
        · exact l.nx S2 H2 _ _ ((st2.suOff hw' t).slotN (ho.ne hO)) e
        · exact l.bk S2 H2 _ _ ((st2.suOff hw' t).slotN (ho.ne hO)) e
        · exact l.ct S2 H2 _ _ ((st2.suOff hw' t).slotN (ho.ne hO)) e
  | @only x C su b₀ suite np pos' hds l hg hm hdb hsu r ih =>
    obtain ⟨l',h1,h2⟩:=ih
    refine ⟨_,.only (ts:=fun a cls d D σ H=>∃ c DA S ρ fs,OsIn X.K c P.O ∧ Link X.K c D DA ∧ XOk X.K c noW DA.ex ∧ Stt X.K c S H σ ρ [] ∧ su fs DA ρ) ⟨hg,hdb,.inl hm⟩ (fun a oe cls d pn hz hfs=>⟨fun pins s σ H D I h=>?_⟩) h1,fun c D DA ho l Wout hw=>?_⟩
    · obtain ⟨c,DA,S,ρ,fs,g1,g2,g3,g4,g5⟩:=h
      obtain ⟨t,p,sm⟩:=(hsu a oe pn fs).ex
      exact p.run pins s σ H D I (sm c D DA g1 g3 g2 S H σ ρ g4 g5)
    · rintro S' H' σ' ρ' C' fs dd st' xd ⟨b,hb1,hb2,hb3⟩
      refine ⟨b,hb1,fun e1 a ha=>?_,fun e1=>h2 c D DA ho l Wout hw S' H' σ' ρ' C' fs dd st' xd (hb3 e1)⟩
      obtain ⟨rfl,_,hq⟩:=hb2 e1
      exact ⟨c,{ DA with ex:=fun _ _ _=>False },S',ρ',fs,ho,⟨l.nx,l.rt,l.bk,l.ct⟩,fun _ _ _ _ _ _ _ _ _ z=>z.elim,st',hq⟩
theorem JLd {body : List Stmt} {h₀ : ExceptHandler} {hds : List ExceptHandler} {l : HL} {ab : AS} (hs : X.stack = X.env :: X.outer) (hf : X.env.frame = some X.env.locals) (hN : X.N.Nodup) (tk : Takes X P.W)
    (hb : ∀ (W : WX) (pn : List (Addr × Obj)) (xe : Value → Shared → Prop),Takes (X.tr pn xe) W → PassesOwn (model X.prog X.w) X.A X.env xe → QSs (X.tr pn xe) ⟨W,P.O⟩ body ab)
    (hh : QHds X P (h₀ :: hds) l) : QS X P (.Try body (h₀ :: hds) [] [] pos) (K8 X.K l ab):=by
  obtain ⟨l',h1,h2⟩:=hh.go
  exact ⟨_,JLt (tb:=fun W=>Qe X.K ⟨W,P.O⟩ ab) hs hf hN tk (fun W pn xe a b=>JNc (hb W pn xe a b)) h1,fun c D DA ho hw lk S H σ ρ st q =>
    ⟨c,F9 X.K l DA,S,ρ,ho,h2 c D DA ho lk _ hw,⟨lk.nx,lk.rt,lk.bk,lk.ct⟩,st,q⟩⟩
inductive CHL : HL → Prop
  | nil : CHL []
  | cons {C : Addr} {o : Option Nat} {su : List (Str × D) → AS} {r : HL} (h : ∀ fs,CS (su fs)) (k : CHL r) : CHL ((C,o,su) :: r)
theorem CHL.ex {l : HL} (h : CHL l) {ι : Type} [Nonempty ι] {DA : ι → AEnds} {D' : AEnds} (c : Cov DA D') : ∀ C fs ρ,(∀ i,hEx K (DA i) l C fs ρ) → hEx K D' l C fs ρ:=by
  induction h with
  | nil=>exact c.ex
  | @cons C o su r hu k ih =>
    intro C' fs ρ z
    obtain ⟨i,_⟩:=i0 (ι:=ι)
    obtain ⟨b,e,h1,h2⟩:=z i
    have hz : ∀ i,(b = true → C' = C ∧ hOk o fs ρ ∧ su fs (G0 o (DA i)) (hSt o ρ)) ∧ (b = false → hEx K (DA i) r C' fs ρ):=fun i=>by
      obtain ⟨b',e',g⟩:=z i
      rw [e] at e'
      cases e'
      exact g
    refine ⟨b,e,fun hb=>?_,fun hb=>ih _ _ _ fun i=>(hz i).2 hb⟩
    obtain ⟨q1,q2,_⟩:=h1 hb
    refine ⟨q1,q2,hu fs (fun i=>((hz i).1 hb).2.2) ?_⟩
    cases o with
    | none=>exact ⟨c.nx,c.rt,c.bk,c.ct,fun _ _ _ h=>h i⟩
    | some j=>exact ⟨fun ρ h=>c.nx _ h,fun x ρ h=>c.rt x ρ h,fun ρ h=>c.bk _ h,fun ρ h=>c.ct _ h,fun _ _ _ h=>h i⟩
theorem JGp {l : HL} {a : AS} (hl : CHL l) (ha : CS a) : CS (K8 K l a):=fun {ι} _ DA D' ρ h c=>ha h ⟨c.nx,c.rt,c.bk,c.ct,hl.ex c⟩
variable {DA : AEnds} {ρ : J0} {C : Addr} {fs : List (Str × D)}
theorem R7 {l : HL} {a : AS} (h : a (F9 K l DA) ρ) : K8 K l a DA ρ:=h
theorem E8 {l : HL} (h : DA.nx ρ) : (F9 K l DA).nx ρ:=h
theorem JJ6 {l : HL} {x : A} (h : DA.rt x ρ) : (F9 K l DA).rt x ρ:=h
theorem JUn {l : HL} (h : hEx K DA l C fs ρ) : (F9 K l DA).ex C fs ρ:=h
theorem JW7 {o : Option Nat} {su : List (Str × D) → AS} {r : HL} (h : PySem.W.exmOne K (.ref C) (.ref C) = some true) (ho : hOk o fs ρ) (k : su fs (G0 o DA) (hSt o ρ)) : hEx K DA ((C,o,su) :: r) C fs ρ:=⟨true,h,fun _=>⟨rfl,ho,k⟩,fun z=>nomatch z⟩
theorem JGw {C' : Addr} {o : Option Nat} {su : List (Str × D) → AS} {r : HL} (h : PySem.W.exmOne K (.ref C) (.ref C') = some false) (k : hEx K DA r C fs ρ) : hEx K DA ((C',o,su) :: r) C fs ρ:=⟨false,h,(fun z=>nomatch z),fun _=>k⟩
end
end Vs
set_option maxHeartbeats 4000000
namespace Vs
open PySem PySem.Spec PySem.Calls PyProof.Rows L2 PySem.W
variable [Tbs]
section
variable {prog : Program} {w : World} {A : Around} {E : Value → Shared → Prop} {s : Shared} {K : Frag} {x D : Addr} {ox : Obj} {od : Obj}
/-- the class of such an error,asked for by its name -/
theorem JHk {Q : Option Value → Shared → Prop} (C : ExcC K D) (X : K.In s.heap) (I : W.InstAt s.heap x ox D (some od)) (h : Q (some (.ref D)) { s with toks:=s.toks + 1 }) : wpAny (model prog w) A (getAttr? (.ref x) "__class__") Q E s:=by
  have found : findObj K D (some od) "__class__" = some (.bind (.builtin "getset_descriptor.__get__") (.builtin "object.__class__")):=findObj_data (by obtain ⟨cd,hc,_⟩:=any_some C.hd; rw [hc]; rfl) C.ha C.hn C.ht
  obtain ⟨hp,g,d,t,os⟩:=s
  have ty:=I.type (M:=model prog w)
  have ga:=looks_findIn (M:=model prog w) X C.hg
  have gt:=looks_findIn (M:=model prog w) X C.hk
  have own:=looks_find (M:=model prog w) X I found
  have ne : (Value.builtin "BaseException.__getattribute__" == Value.builtin "object.__getattribute__") = false:=by decide +kernel
  unfold getAttr? getAttrBy? getAttrBy
  refine wpAny_bind (wpAny_mkText (wpAny_bind (wpAny_attempt (wpAny_holding (wpAny_bind (ty.at (wpAny_bind (ga.at ?_))))))))
  show wpAny _ _ (if (onTheHeap (Value.ref D) && Value.builtin "BaseException.__getattribute__" == Value.builtin "object.__getattribute__") = true then _ else _) _ _ _
  rw [if_neg (by rw [ne]; simp)]
  unfold getAttrByItsOwn hookBefore
  refine wpAny_bind ?_
  rw [if_pos (show onTheHeap (Value.ref D) = true from rfl)]
  refine gt.at (wpAny_bind (wpAny_attempt (wpAny_holding ?_)))
  unfold callGetattribute
  rw [if_neg (show ¬ (false && onTheHeap (Value.builtin "BaseException.__getattribute__")) = true from Bool.false_ne_true)]
  unfold boundAndCalled
  rw [PySem.F.excAttr_ValueError.ga.bind (.ref x)]
  refine wpAny_bind (wpAny_pure ?_)
  show wpAny _ _ (call (.builtin "BaseException.__getattribute__") [.ref x,.str "__class__" t]) _ _ _
  refine wpAny_call (codeAny_call_builtin PySem.F.excAttr_ValueError.ga.plain PySem.F.entry_bexc_ga ?_)
  refine @check_slot (model prog w) _ _ ⟨hp,g,d,t + 1,os⟩ "BaseException.__getattribute__" "BaseException" "__getattribute__" (.ref x) [.str "__class__" t] [] _ (by decide +kernel) (by decide +kernel) (ty.andThen (looks_subIn X C.hs)) (PySem.F.args_bexc_ga (.ref x) (.str "__class__" t)) ?_
  unfold Builtin.«object.__getattribute__»
  refine wpAny_bind (wpAny_of_eq (a:=((Value.ref x : Value),[Value.str "__class__" t])) (by first | rfl | (simp only [slotArgs]; rfl)) ?_)
  refine wpAny_bind (wpAny_pure (wpAny_bind (ty.at (wpAny_bind (own.at ?_)))))
  show wpAny _ _ (holding [Value.builtin "object.__class__"] (call (.builtin "getset_descriptor.__get__") [.builtin "object.__class__",.ref x,.ref D]) >>= ret) _ _ _
  refine wpAny_bind (wpAny_holding (wpAny_call (class_get (s:=⟨hp,g,d,t + 1,os⟩) (ox:=ox) (od:=some od) X I C.hm ?_)))
  refine wpAny_pure ?_
  show wpAny _ _ (handedOut (.ref D)) _ _ _
  rw [handedOut_of (v:=.ref D) rfl]
  first
    | exact wpAny_pure (wpAny_pure h)
    | exact wpAny_pure h
    | exact wpAny_pure (wpAny_bind (wpAny_pure (wpAny_pure h)))
/-- the type of the class's own object is no tuple,and it is a type -/
theorem Dw (C : ExcC K D) {h : Heap} (X : K.In h) : ∃ o cd,h.get? D = some o ∧ o.data = .cls cd:=by
  obtain ⟨cd,hc,_⟩:=any_some C.hd
  unfold clsIn at hc
  split at hc
  · rename_i c' d' cd' sl' ho
    exact ⟨_,_,X _ _ ho,rfl⟩
  · cases hc
theorem kitx_dict (C : ExcC K D) : KitX K (.ref x) (.ref D) (fun h=>W.InstAt h x ox D (some od)) where
  ty:=fun _ _ _ I=>I.type
  it:=fun _ _ X _=>by
    obtain ⟨o,cd,ho,hd⟩:=Dw C X
    intro A' Q' E' s' k q
    unfold isType loadHead
    refine wpAny_bind (wpAny_loadPart (k _ _ ho) ?_)
    rw [hd]
    exact wpAny_pure q
  ne:=fun h tp dd its n sl X htp=>by
    obtain ⟨o,cd,ho,hd⟩:=Dw C X
    refine Bool.eq_false_iff.mpr fun q=>?_
    have e : D = tp:=Value.ref.inj (beq_iff_eq.mp q)
    rw [e,htp] at ho
    cases ho
    cases hd
  ca:=fun X I k=>JHk C X I k
end
section
variable {X : Cx} {P : Pm} {pos : Pos}
def JL6 (K : Frag) (D a dd : Addr) : List V → Hp → VK → Prop:=fun xs H Q=>∃ (c : V) (cv : Value) (b : Bool) (ws : List (Str × V)),xs = [.ref a,c] ∧ (∀ u,RelV c u → u = cv) ∧ kitOne K (.ref D) cv = some b ∧ H dd = some (.xd ws) ∧ Q (.bl b) H
theorem JPr {a D dd : Addr} {oe : Obj} {pn : List (Addr × Obj)} (C : ExcC X.K D) (hz : Zc (.ref D) (some dd) oe) (hf : ∃ vs,oe.data = .fields vs) : CallR (X.suite a ((a,oe) :: pn)) (.builtin "isinstance") (JL6 X.K D a dd):=by
  intro pins s σ H xs us Q I r h
  obtain ⟨c,cv,b,ws,rfl,hcv,e,hx,q⟩:=h
  cases r with
  | cons rx rr =>
    cases rr with
    | cons rt rr =>
      cases rr
      cases rx
      have ec:=hcv _ rt
      subst ec
      obtain ⟨hget,_⟩:=I.pin (a,oe) (List.mem_append.mpr (.inl List.mem_cons_self))
      obtain ⟨vs,hv⟩:=hf
      have hk : ObjOk X.prog X.w H s.heap dd (.xd ws):=I.hok dd _ hx
      obtain ⟨mA,hns,_⟩:=hk
      obtain ⟨od,ho,_⟩:=lookIn_ns hns
      have J : W.InstAt s.heap a oe D (some od):=⟨hget,hz.1,by unfold W.notCls; rw [hv] <;> rfl,by rw [hz.2]; exact ho⟩
      exact kia_one (kitx_dict C) I.kIn J e (fun z=>nomatch z) fun tk=>⟨.bl b,H,I.kept (t':=tk) fun _ _ z=>z,rfl,q⟩
/-- isinstance(e,c) within the suite -/
def H8 (K : Frag) (D : Addr) (u : Value) : AE:=fun _ ρ Q=>∃ b,kitOne K (.ref D) u = some b ∧ Q (.v (.bl b)) ρ
theorem JN0 {v : V} {u : Value} (h : ClsV v u) : ∀ u',RelV v u' → u' = u:=by
  cases h <;> (intro u' h'; exact h')
theorem Ae {W : WX} {O : OL} {i : Nat} {a C dd : Addr} {ws : List (Str × V)} {fs : List (Str × Vs.D)} {n : Str} {c : Expr} {u : Value} {oe : Obj} {pn : List (Addr × Obj)} {np p : Pos} (T : ExcC X.K C) (hz : Zc (.ref C) (some dd) oe) (hf : ∃ vs,oe.data = .fields vs) (hg : Gl X "isinstance") (hm : X.mg "isinstance" = none) (hc : QC (X.suite a ((a,oe) :: pn)) c u)
    (hN : X.N[i]? = some n:=by rfl) (hv : Vis X.env.scope n:=by first | exact Or.inl rfl | exact Or.inr (Or.inl rfl) | exact Or.inr (Or.inr rfl)) (hd : (n == ("__debug__" : Str)) = false:=by decide) (hcd : (n == ("__classdict__" : Str)) = false:=by decide)
    (hs : starEach [.Name n np,c] X.env = (false,eval (.Name n np) X.env) :: starEach [c] X.env:=by rfl) (hs2 : starEach [c] X.env = (false,eval c X.env) :: starEach [] X.env:=by rfl) (hpl : (backTo pos (starEach [c] X.env)).any (·.1) = false:=by rfl) :
    QE (X.suite a ((a,oe) :: pn)) ⟨W,OX X.K O i a dd ws fs⟩ (.Call (.Name "isinstance" p) [.Name n np,c] [] pos) (H8 X.K C u):=by
  obtain ⟨v,pc,k⟩:=hc.ex
  refine ⟨_,pe_callB (JPr T hz hf) hg hm PyProof.Rows.boot_isinstance (pa_cons (pe_var hN hv hd hcd) (pa_cons pc pa_nil hs2) hs) (by decide) (by decide) hs hpl,fun c EA ho hw τ S H σ ρ Q R s q kk=>?_⟩
  obtain ⟨_,h1,h2,h3⟩:=ho.2.2 S H σ ρ τ s
  obtain ⟨b,h4,q⟩:=q
  exact ⟨.ref a,h1,⟨v,u,b,ws,rfl,JN0 k,h4,h2,kk _ _ (KE.sc s rfl q)⟩⟩
theorem JUg {K : Frag} {C : Addr} {u : Value} : CE (H8 K C u):=fun {ι} _ EA EA' ρ Q Q' h ce cq=>by
  obtain ⟨i,_⟩:=i0 (ι:=ι)
  obtain ⟨b,e,_⟩:=h i
  refine ⟨b,e,cq _ _ fun i=>?_⟩
  obtain ⟨b',e',q⟩:=h i
  rw [e] at e'
  cases e'
  exact q
theorem Lp {K : Frag} {C : Addr} {u : Value} {EA : AX} {ρ : J0} {Q : AK} {b : Bool} (h : kitOne K (.ref C) u = some b) (k : Q (.v (.bl b)) ρ) : H8 K C u EA ρ Q:=⟨b,h,k⟩
theorem exc_ok {K : Frag} {C : Addr} (x : XfC K C) (h : G7 K C = true) : ExcC K C:=by
  obtain ⟨h1,h⟩:=He.ba h
  obtain ⟨h2,h⟩:=He.ba h
  obtain ⟨h3,h4⟩:=He.ba h
  exact ⟨x.ga,x.gg,x.exC,x.hdC,He.eqO_ok h1,He.eqO_ok h2,of_decide_eq_true h3,of_decide_eq_true h4⟩
end
end Vs
set_option maxHeartbeats 1000000
namespace Vs
open PySem PySem.Spec PySem.Calls PyProof.Rows L2
variable [Tbs]
section
variable {X : Cx} {pins : List (Addr × Obj)} {σ : L2.St} {H : Hp} {s : Shared}
/-- the last item of a tuple,an int -/
def JP1 : D → Int
  | .tup xs=>(match xs.getLast? with
    | some (.int i)=>i
    | _=>0)
  | _=>0
def JJ4 (d : D) : Prop:=∃ xs i,d = .tup xs ∧ xs.getLast? = some (.int i)
def Cf (ds : List D) : List D:=ds.mergeSort (PySem.W.dataLe false fun d=>.int (JP1 d))
end
end Vs
namespace Vs
open PySem PySem.Spec PySem.Calls PyProof.Rows L2
variable [Tbs]
section
variable {K : Fg} {c : Ctx} {S H : Hp} {σ : L2.St} {ρ : J0} {τ : List (V × A)}
omit [Tbs] in
theorem SqL.but {H' : Hp} {a : Addr} {xs : List V} (h : SqL K H a xs) (k : ∀ b o,spc o = false → H b = some o → H' b = some o) : SqL K H' a xs:=by
  rcases h with (h | ⟨o,h⟩) | h
  · exact .inl (.inl (k _ _ rfl h))
  · exact .inl (.inr ⟨o,k _ _ rfl h⟩)
  · exact .inr h
omit [Tbs] in
theorem SqT.but {H' : Hp} {a : Addr} {xs : List V} (h : SqT K H a xs) (k : ∀ b o,spc o = false → H b = some o → H' b = some o) : SqT K H' a xs:=by
  rcases h with (h | ⟨o,h⟩) | h
  · exact .inl (.inl (k _ _ rfl h))
  · exact .inl (.inr ⟨o,k _ _ rfl h⟩)
  · exact .inr h
end
end Vs
namespace Vs
open PySem PySem.Spec PySem.Calls PyProof.Rows L2
variable [Tbs]
def JBy (aa : AA) : AE:=fun EA ρ Q=>aa EA ρ fun xs ρ1=>∃ x ds,xs = [x] ∧ dat x ρ1 = some (.lst ds) ∧ (∀ d ∈ ds,JJ4 d) ∧ Q (.lst (Cf ds)) ρ1
section
variable {X : Cx} {P : Pm} {K : Fg} {e : Expr} {pos p : Pos}
def JY9 : D → Option (List D)
  | .lst xs=>some xs
  | .tup xs=>some xs
  | _=>none
def JM4 (ae : AE) (aa : AA) : AA:=fun EA ρ Q=>ae EA ρ fun x ρ1=>∃ d ds,dat x ρ1 = some d ∧ JY9 d = some ds ∧ aa EA ρ1 fun ys ρ2=>Q (ds.map A.v ++ ys) ρ2
def JMo (C : Addr) (sp : ASp) (aa ab : AE) : AE:=fun EA ρ Q=>aa EA ρ fun x ρ1=>ab EA ρ1 fun y ρ2=>(∃ fs,dat x ρ2 = some (.obj C fs)) ∧ (∃ gs,dat y ρ2 = some (.obj C gs)) ∧ U1 sp [x,y] EA ρ2 Q
end
end Vs
namespace Vs
open PySem PySem.Spec PySem.Calls PyProof.Rows L2
variable [Tbs]
section
variable {EA : AX} {ρ : J0} {Q : AK} {x : A}
theorem JY8 {aa : AA} (k : aa EA ρ fun xs ρ1=>∃ x ds,xs = [x] ∧ dat x ρ1 = some (.lst ds) ∧ (∀ d ∈ ds,JJ4 d) ∧ Q (.lst (Cf ds)) ρ1) : JBy aa EA ρ Q:=k
theorem Qn {ae : AE} {aa : AA} {QA : List A → J0 → Prop} (k : ae EA ρ fun x ρ1=>∃ d ds,dat x ρ1 = some d ∧ JY9 d = some ds ∧ aa EA ρ1 fun ys ρ2=>QA (ds.map A.v ++ ys) ρ2) : JM4 ae aa EA ρ QA:=k
theorem Rr {C : Addr} {sp : ASp} {aa ab : AE} (k : aa EA ρ fun x ρ1=>ab EA ρ1 fun y ρ2=>(∃ fs,dat x ρ2 = some (.obj C fs)) ∧ (∃ gs,dat y ρ2 = some (.obj C gs)) ∧ U1 sp [x,y] EA ρ2 Q) : JMo C sp aa ab EA ρ Q:=k
end
def G5 (ag : AG) (ae : AE) : AS:=fun DA ρ=>ae DA.ex ρ fun x ρ1=>Yl x ρ1 fun d ρ2=>ag d ρ2 DA.nx
section
variable {X : Cx} {P : Pm} {tg e : Expr} {pos : Pos}
theorem Eu {ag : AG} {ae : AE} {ws : List Nat} (he : QE X P e ae) (hg : QG X P tg ag ws) (hs : swapsWithSole [tg] e pos.line X.env = pure false:=by rfl) (hw : swappedStores [tg] e X.env = pure none:=by rfl) (h1 : (assignEach [tg] X.env).map (·.2) = [assign tg X.env]:=by rfl) : QS X P (.Assign [tg] e pos) (G5 ag ae):=by
  obtain ⟨te,pe,se⟩:=he.ex
  obtain ⟨g,pg,sg⟩:=hg.ex
  refine ⟨_,ps_asg pe pg hs hw h1,fun c D DA ho hwx l S H σ ρ st q=>se c DA.ex ho hwx [] S H σ ρ _ _ st q fun v H1 ⟨S1,ρ1,x,s1,q1⟩=>?_⟩
  obtain ⟨S2,d,ρ2,sm,s2,q2⟩:=W9 s1 q1
  exact sg c ho [] S2 H1 σ ρ2 v d _ _ s2 (fun _ _ m=>by simp at m) q2 fun σ' ρ' s3 _ q3=>l.nx _ _ _ _ s3 q3
theorem JZz {ag : AG} {ae : AE} (h1 : CG ag) (h2 : CE ae) : CS (G5 ag ae):=fun h k=>h2 h k.ex fun x ρ1 h3=>Wp h3 fun d ρ2 h4=>h1 h4 fun ρ3 h5=>k.nx _ h5
theorem Qj {DA : AEnds} {ρ : J0} {ag : AG} {ae : AE} (k : ae DA.ex ρ fun x ρ1=>Yl x ρ1 fun d ρ2=>ag d ρ2 DA.nx) : G5 ag ae DA ρ:=k
end
end Vs
namespace Vs
open PySem PySem.Spec PySem.Calls PyProof.Rows L2
end Vs
namespace Vs
open PySem PySem.Spec PySem.Calls PyProof.Rows L2
variable [Tbs]
/-- data that are equal to themselves,an own class among them -/
def GkC (C : Addr) (sp : ASp) (d : D) : Prop:=PlD 20 d ∨ d = .dic [] ∨ ∃ fs,d = .obj C fs ∧ sp.pre [.v d,.v d] ∧ (∀ r xs',sp.post [.v d,.v d] r xs' → r = .v (.bl true)) ∧ ∀ Ce gs xs',¬ sp.exc [.v d,.v d] Ce gs xs'
omit [Tbs] in
theorem P9 {Pr : Program} {w : World} {K : Fg} {mg : Str → Option Value} {base : Heap} {C : Addr} {sp : ASp} {k n : Nat} (T : @EqC tbs0 Pr w K mg base C k sp) (hk : k ≤ n) : ∀ d,GkC C sp d → GOk Pr w K mg base n d:=fun d h=>by
  rcases h with h | h | ⟨fs,e,h1,h2,h3⟩
  · exact .inl h
  · exact .inr (.inl h)
  · exact .inr (.inr ⟨C,fs,sp,k,hk,T,e,h1,h2,h3⟩)
end Vs
namespace Vs
open PySem PySem.Spec PyProof.Rows L2
end Vs
set_option maxHeartbeats 2000000
namespace Vs
end Vs
namespace Vs
open PySem PySem.Spec PyProof.Rows L2
variable [Tbs]
section
variable {X : Cx} {P : Pm} {K : Fg} {n : Nat}
theorem JMp {ds : List D} (h : ∀ d ∈ ds,EqG X n (Vk X.K d)) : EqG X (n + 1) (Vk X.K (.tup ds)):=by
  have E : EqG X n (fun x y H=>∃ d ∈ ds,Vk X.K d x y H):=fun A pins s σ H x y u v sb I rx ry ⟨d,hm,z⟩=>h d hm A pins s σ H x y u v sb I rx ry z
  have M : Mon (fun x y H=>∃ d ∈ ds,Vk X.K d x y H):=fun x y H H' e ⟨d,hm,z⟩=>⟨d,hm,JJ9 x y H H' e z⟩
  refine (eqG_tup M E).imp fun x y H d=>?_
  obtain ⟨r1,r2⟩:=d
  simp only [Rep] at r1 r2
  obtain ⟨a,xs,rfl,a1,a2⟩:=r1
  obtain ⟨b,ys,rfl,b1,b2⟩:=r2
  exact ⟨a,b,xs,ys,rfl,rfl,a1,b1,Pp (K:=X.K) (ds:=ds) (fun _ h=>h) a2 b2⟩
theorem Ag {ks : List (Key × D)} (p1 : ∀ p ∈ ks,PlD 20 p.2) (nd : (ks.map (·.1)).Nodup) : EqG X n (Vk X.K (.dic ks)):=by
  intro A pins s σ H x y u v sb I rx ry dd
  obtain ⟨r1,r2⟩:=dd
  simp only [Rep] at r1 r2
  obtain ⟨a,ws,rfl,h1,k1⟩:=r1
  obtain ⟨b,us,rfl,h2,k2⟩:=r2
  cases rx
  cases ry
  have hu:=sb.room.units
  by_cases hab : a = b
  · subst hab
    exact SeqAt.EqAt.same (A:=A) (s:=s) (.ref a) X.prog X.w X.xe _ ⟨rfl,H,I,Ext.rfl'⟩
  · obtain ⟨_,ya,va,ra,da⟩:=h1.ok I.hok
    obtain ⟨_,yb,vb,rb,db⟩:=h2.ok I.hok
    have look : ∀ {l : List (Key × D)} {k : Key} {d : D},(l.map (·.1)).Nodup → (k,d) ∈ l → valD l k = some d:=by
      intro l
      induction l with
      | nil=>intro k d _ m; simp at m
      | cons p r ih =>
        intro k d hn m
        obtain ⟨k',d'⟩:=p
        simp only [List.map_cons,List.nodup_cons] at hn
        simp only [valD]
        rcases List.mem_cons.mp m with z | z
        · cases z
          simp
        · have ne : k' ≠ k:=fun e=>hn.1 (by rw [e]; exact List.mem_map.mpr ⟨_,z,rfl⟩)
          simp only [ne,if_false]
          exact ih hn.2 z
    have look2 : ∀ {l : List (Key × D)} {k : Key} {d : D},valD l k = some d → (k,d) ∈ l:=by
      intro l
      induction l with
      | nil=>intro k d h; cases h
      | cons p r ih =>
        intro k d h
        obtain ⟨k',d'⟩:=p
        simp only [valD] at h
        split at h
        · rename_i e
          cases h
          rw [e]
          exact List.mem_cons_self ..
        · exact List.mem_cons_of_mem _ (ih h)
    have hval : ∀ k d,valD ks k = some d → ∃ u v,valueAt vb k = some u ∧ RelV v u ∧ Rep X.K H d v:=fun k d hd=>by
      have rr:=rb.val k
      rcases k2.val (k:=k) with ⟨e1,e2⟩ | ⟨d',v,e1,e2,e3⟩
      · rw [hd] at e1; cases e1
      · rw [hd] at e1
        cases e1
        rw [e2] at rr
        obtain ⟨u,hu,ru⟩:=RelO.some_of rr
        exact ⟨u,v,hu,ru,e3⟩
    have hlen : va.length = ks.length:=by rw [← ra.length,k1.len]
    have hlen2 : vb.length = ks.length:=by rw [← rb.length,k2.len]
    have t : PySem.W.EqTree X.prog X.w s (21 + 1) (.ref a) (.ref b) _:=.dicts (e:=fun _=>true) hab ya yb da db (fun k z y hz hy=>by
      obtain ⟨d,v,m,rv,rd⟩:=kv_mem k1 ra hz
      obtain ⟨u',v',e1,e2,e3⟩:=hval k d (look nd m)
      rw [e1] at hy
      cases hy
      obtain ⟨as,q1⟩:=Dp.reads I _ v z (V5 20 d v (p1 _ m) rd) rv
      obtain ⟨bs,q2⟩:=Dp.reads I _ v' y (V5 20 d v' (p1 _ m) e3) e2
      obtain ⟨a1,a2⟩:=Vx 20 d (p1 _ m)
      refine .leaf fun A hA=>?_
      have q:=SeqAt.eqAt_plain _ _ A s z y as bs q1 q2 a1 a1 (by have:=Nat.min_le_left (pd d).depth (pd d).depth; omega)
      rw [← Zz 20 d d (p1 _ m) (p1 _ m),F6 20 d (p1 _ m)] at q
      exact q)
    have hb : (va.length == vb.length && va.all fun p=>(valueAt vb p.1).isSome && true) = true:=by
      rw [hlen,hlen2]
      simp only [BEq.rfl,Bool.true_and,Bool.and_true,List.all_eq_true]
      intro p hp
      obtain ⟨pk,pv⟩:=p
      obtain ⟨d,v,m,rv,rd⟩:=kv_mem k1 ra hp
      obtain ⟨u',v',e1,e2,e3⟩:=hval pk d (look nd m)
      simp only [e1,Option.isSome_some]
    rw [hb] at t
    exact t.at A (by omega) X.xe _ ⟨rfl,H,I,Ext.rfl'⟩
/-- data equal to themselves: plain,dicts of plain data,an own class,and tuples of these -/
def GkD (C : Addr) (sp : ASp) (d : D) : Prop:=GkC C sp d ∨ ∃ kvs,d = .dic kvs ∧ (∀ p ∈ kvs,PlD 20 p.2) ∧ (kvs.map (·.1)).Nodup
def GkY (C : Addr) (sp : ASp) (d : D) : Prop:=GkD C sp d ∨ ∃ ds,d = .tup ds ∧ ∀ x ∈ ds,GkD C sp x
def GOkY (Pr : Program) (w : World) (K : Fg) (mg : Str → Option Value) (base : Heap) (d : D) : Prop:=∃ C sp k,k ≤ 1 ∧ @EqC tbs0 Pr w K mg base C k sp ∧ GkY C sp d
theorem GOkY.eqG {d : D} (h : GOkY X.prog X.w X.K X.mg X.base d) : EqG X 2 (Vk X.K d):=by
  obtain ⟨C,sp,k,hk,T,h⟩:=h
  have one : ∀ d,GkD C sp d → EqG X 1 (Vk X.K d):=fun d h=>by
    rcases h with h | ⟨kvs,rfl,h1,h2⟩
    · exact (P9 T hk d h).eqG
    · exact Ag h1 h2
  rcases h with h | ⟨ds,rfl,h⟩
  · exact (one d h).mono (by omega)
  · exact JMp fun x hx=>one x (h x hx)
variable {C : Addr} {k : Nat} {sp : ASp}
end
end Vs
namespace PySem
open PySem.W PySem.SeqAt
open AutoSeq1 (wpAny_loadPart')
end PySem
namespace Vs
open PySem PySem.Spec PyProof.Rows L2
end Vs
set_option maxHeartbeats 1000000
namespace Vs
open PySem PySem.Spec PyProof.Rows L2
variable [Tbs]
/-- slot,path and thing that a held reference tells of -/
noncomputable def R1 (i : Nat) (p : List Stp) (o : Option A) (w : V) : Option (Nat × List Stp × A):=match o with
  | some (.cel w' n)=>@ite _ (w' = w) (Classical.propDecidable _) (some (i,p,n)) none
  | _=>none
noncomputable def Uk (x : A) (ρ : J0) : Option (Nat × List Stp × A):=match x with
  | .loc j=>(match ρ[j]? with
    | some (some t)=>some (j,[],t)
    | _=>none)
  | .pth i p w=>(match ρ[i]? with
    | some (some t)=>R1 i p (t.at p) w
    | _=>none)
  | _=>none
/-- a thing put back to where it stood -/
def W0 (x n : A) : A:=match x with
  | .pth _ _ w=>.cel w n
  | _=>n
end Vs
namespace Vs
open PySem PySem.Spec PyProof.Rows L2
variable [Tbs]
/-- an owned thing that is no datum,no reference -/
def Ba : A → Bool
  | .lst _=>true
  | .dic _=>true
  | .obj _ _=>true
  | .nl _=>true
  | .nd _=>true
  | .nt _=>true
  | _=>false
/-- what is in the hand behind an item was looked at -/
def outI (x : A) (i : Nat) (p : List Stp) (n : A) (st : Stp) (z : A) (ρ : J0) (Q : AK) : Prop:=match z with
  | .v d=>Q (.v d) ρ
  | .cel w _=>Q (.pth i (p ++ [st]) w) ρ
  | .pth j q w=>Q (.pth j q w) ρ
  | .loc _=>False
  | z=>∃ t,ρ[i]? = some (some t) ∧ ∀ w,Q (.pth i (p ++ [st]) w) (ρ.set i (some (t.upd p (W0 x (Zg n st (.cel w z))))))
/-- the step that an index says -/
def B5 (n : A) (d : D) : Option Stp:=match n with
  | .nl xs=>(match d with
    | .int k=>(ixN xs.length k).map .n
    | _=>none)
  | .nt xs=>(match d with
    | .int k=>(ixN xs.length k).map .n
    | _=>none)
  | .nd _=>(keyD d).map .k
  | _=>none
def JNk : AR2:=fun x y ρ Q=>∃ i p n d st z,Uk x ρ = some (i,p,n) ∧ dat y ρ = some d ∧ B5 n d = some st ∧ itN n st = some z ∧ outI x i p n st z ρ Q
section
variable {K : Fg}
/-- x[y],flat or not -/
def Xv : AR2:=fun x y ρ Q=>aIx x y ρ Q ∨ JNk x y ρ Q
end
section
variable {X : Cx} {P : Pm} {a b : Expr} {pos : Pos} {aa ab : AE}
/-- a name that holds a reference -/
def aAl (i : Nat) : AE:=fun _ ρ Q=>∃ j p w,ρ[i]? = some (some (.pth j p w)) ∧ Q (.pth j p w) ρ
end
end Vs
namespace Vs
open PySem PySem.Spec PyProof.Rows L2
variable [Tbs]
def mvQ : A → Bool
  | .v _=>true
  | y=>Ba y
def Qx : A → A
  | .v d=>.v d
  | _=>.v .any
def Wm (x : A) (ρ : J0) (k : A → J0 → Prop) : Prop:=match x with
  | .loc i=>∃ y,ρ[i]? = some (some y) ∧ mvQ y = true ∧ k y (ρ.set i (some (Qx y)))
  | y=>k y ρ
def Zy : List A → J0 → (List A → J0 → Prop) → Prop
  | [],ρ,k=>k [] ρ
  | x :: xs,ρ,k=>Wm x ρ fun y ρ'=>Zy xs ρ' fun ys ρ''=>k (y :: ys) ρ''
section
variable {X : Cx} {P : Pm} {K : Fg} {pos : Pos}
/-- [a,b,..] with owned items; (a,b,..) -/
def JK0 (aa : AA) : AE:=fun EA ρ Q=>aa EA ρ fun xs ρ1=>xs.length ≤ 1000 ∧ Zy xs ρ1 fun ys ρ2=>Q (.nl ys) ρ2
def JM0 (aa : AA) : AE:=fun EA ρ Q=>aa EA ρ fun xs ρ1=>xs.length ≤ 1000 ∧ Zy xs ρ1 fun ys ρ2=>Q (.nt ys) ρ2
/-- o.append(e),o a flat list at a path -/
def Fw (o : A) (d : D) (ρ : J0) (Q : AK) : Prop:=∃ i p xs t,Uk o ρ = some (i,p,.lst xs) ∧ xs.length ≤ 100000 ∧ ρ[i]? = some (some t) ∧ Q (.v .non) (ρ.set i (some (t.upd p (W0 o (.lst (xs ++ [d]))))))
def JXd (ao ae : AE) : AE:=fun EA ρ Q=>ao EA ρ fun o ρ1=>(∃ xs,dat o ρ1 = some (.lst xs)) ∧ ae EA ρ1 fun x ρ2=>Yl x ρ2 fun d ρ3=>Fw o d ρ3 Q
/-- o.insert(i,e) -/
def Pu (o iv : A) (d : D) (ρ : J0) (Q : AK) : Prop:=∃ i p xs k t,Uk o ρ = some (i,p,.lst xs) ∧ dat iv ρ = some (.int k) ∧ 0 ≤ k ∧ k < 2 ^ 63 ∧ xs.length ≤ 100000 ∧ ρ[i]? = some (some t) ∧ Q (.v .non) (ρ.set i (some (t.upd p (W0 o (.lst (xs.take k.toNat ++ [d] ++ xs.drop k.toNat))))))
def JL1 (ao ai ae : AE) : AE:=fun EA ρ Q=>ao EA ρ fun o ρ1=>(∃ xs,dat o ρ1 = some (.lst xs)) ∧ ai EA ρ1 fun iv ρ2=>ae EA ρ2 fun x ρ3=>Yl x ρ3 fun d ρ4=>Pu o iv d ρ4 Q
/-- o[i] += e,o a flat dict at a path -/
def Na (o iv : A) (ρ : J0) (k : Key → List (Key × D) → Int → Prop) : Prop:=∃ d kk kvs x,dat o ρ = some (.dic kvs) ∧ dat iv ρ = some d ∧ keyD d = some kk ∧ valD kvs kk = some (.int x) ∧ k kk kvs x
def Ka (o : A) (kk : Key) (x : Int) (y : A) (ρ : J0) (nx : J0 → Prop) : Prop:=∃ j i p kvs t,dat y ρ = some (.int j) ∧ Uk o ρ = some (i,p,.dic kvs) ∧ kvs.length ≤ 100000 ∧ ρ[i]? = some (some t) ∧ nx (ρ.set i (some (t.upd p (W0 o (.dic (putD kvs kk (.int (x + j))))))))
def JLf (ao ai ae : AE) : AS:=fun DA ρ=>ao DA.ex ρ fun o ρ1=>ai DA.ex ρ1 fun iv ρ2=>Na o iv ρ2 fun kk _ x=>ae DA.ex ρ2 fun y ρ3=>Ka o kk x y ρ3 DA.nx
end
end Vs
namespace Vs
open PySem PySem.Spec PyProof.Rows L2
variable [Tbs]
section
variable {K : Fg} {S H H' : Hp}
theorem RepAL.len : ∀ {xs : List A} {vs : List V} {g : List Addr},RepAL K S H xs vs g → vs.length = xs.length
  | [],vs,g,h=>by simp only [RepAL] at h; rw [h.1]; rfl
  | x :: xs,vs,g,h=>by
    simp only [RepAL] at h
    obtain ⟨_,r,_,_,rfl,_,h2,_⟩:=h
    simp [RepAL.len h2]
theorem RepAL.put {y : A} {v : V} {gy : List Addr} (hy : RepA K S H y v gy) : ∀ {xs : List A} {vs : List V} {fp : List Addr} {i : Nat},RepAL K S H xs vs fp → i < xs.length → ∃ fp' r,RepAL K S H (xs.set i y) (vs.set i v) fp' ∧ fp'.Perm (gy ++ r) ∧ r.Sublist fp
  | [],vs,fp,i,h,hi=>by simp at hi
  | x :: xs,vs,fp,0,h,hi=>by
    simp only [RepAL] at h
    obtain ⟨u,r,g,h',rfl,h1,h2,rfl⟩:=h
    refine ⟨gy ++ h',h',?_,.refl _,List.sublist_append_right _ _⟩
    simp only [List.set_cons_zero,RepAL]
    exact ⟨v,r,gy,h',rfl,hy,h2,rfl⟩
  | x :: xs,vs,fp,i + 1,h,hi=>by
    simp only [RepAL] at h
    obtain ⟨u,r,g,h',rfl,h1,h2,rfl⟩:=h
    obtain ⟨fp',r',a1,a2,a3⟩:=RepAL.put hy (i:=i) h2 (by simpa using hi)
    refine ⟨g ++ fp',g ++ r',?_,(List.Perm.append_left g a2).trans (by
      rw [← List.append_assoc,← List.append_assoc]
      exact List.Perm.append_right _ List.perm_append_comm),List.Sublist.append (.refl _) a3⟩
    simp only [List.set_cons_succ,RepAL]
    exact ⟨u,r.set i v,g,fp',rfl,h1,a1,rfl⟩
theorem RepAK.fst : ∀ {xs : List (Key × A)} {vs : List (Key × V)} {g : List Addr},RepAK K S H xs vs g → vs.map (·.1) = xs.map (·.1)
  | [],vs,g,h=>by simp only [RepAK] at h; rw [h.1]; rfl
  | (k,x) :: xs,vs,g,h=>by
    simp only [RepAK] at h
    obtain ⟨_,r,_,_,rfl,_,h2,_⟩:=h
    simp [RepAK.fst h2]
theorem RepAK.app {k : Key} {y : A} {v : V} {gy : List Addr} (hy : RepA K S H y v gy) : ∀ {xs : List (Key × A)} {vs : List (Key × V)} {fp : List Addr},RepAK K S H xs vs fp → RepAK K S H (xs ++ [(k,y)]) (vs ++ [(k,v)]) (fp ++ gy)
  | [],vs,fp,h=>by
    simp only [RepAK] at h
    obtain ⟨rfl,rfl⟩:=h
    simp only [List.nil_append,RepAK]
    exact ⟨v,[],gy,[],rfl,hy,⟨rfl,rfl⟩,by simp⟩
  | (k',x) :: xs,vs,fp,h=>by
    simp only [RepAK] at h
    obtain ⟨u,r,g,h',rfl,h1,h2,rfl⟩:=h
    simp only [List.cons_append,RepAK]
    exact ⟨u,r ++ [(k,v)],g,h' ++ gy,rfl,h1,RepAK.app hy h2,by rw [List.append_assoc]⟩
theorem JO6 {α : Type} {ws : List (Key × α)} {k : Key} {v : α} (h : k ∉ ws.map (·.1)) : ws.map (fun kv=>if kv.1 = k then (kv.1,v) else kv) = ws:=by
  induction ws with
  | nil=>rfl
  | cons w ws ih =>
    obtain ⟨k',u⟩:=w
    have h1 : k' ≠ k:=fun e=>h (by simp [e])
    simp only [List.map_cons,if_neg h1]
    rw [ih fun m=>h (by simp at m ⊢; exact .inr m)]
theorem RepAK.put {k : Key} {y : A} {v : V} {gy : List Addr} (hy : RepA K S H y v gy) : ∀ {xs : List (Key × A)} {vs : List (Key × V)} {fp : List Addr} {x0 : A},RepAK K S H xs vs fp → W8 xs k = some x0 → (xs.map (·.1)).Nodup →
    ∃ fp' r,RepAK K S H (Zu xs k y) (vs.map fun kv=>if kv.1 = k then (kv.1,v) else kv) fp' ∧ fp'.Perm (gy ++ r) ∧ r.Sublist fp
  | [],vs,fp,x0,h,hi,_=>by simp [W8] at hi
  | (k',x) :: xs,vs,fp,x0,h,hi,hn=>by
    have hf:=RepAK.fst h
    simp only [RepAK] at h
    obtain ⟨u,r,g,h',rfl,h1,h2,rfl⟩:=h
    simp only [W8] at hi
    simp only [List.map_cons,List.nodup_cons] at hn
    by_cases q : k' = k
    · subst q
      refine ⟨gy ++ h',h',?_,.refl _,List.sublist_append_right _ _⟩
      have hs : k' ∉ r.map (·.1):=by
        rw [RepAK.fst h2]
        exact hn.1
      simp only [Zu,↓reduceIte,List.map_cons,JO6 hs,RepAK]
      exact ⟨v,r,gy,h',rfl,hy,h2,rfl⟩
    · rw [if_neg q] at hi
      obtain ⟨fp',r',a1,a2,a3⟩:=RepAK.put hy h2 hi hn.2
      refine ⟨g ++ fp',g ++ r',?_,(List.Perm.append_left g a2).trans (by
        rw [← List.append_assoc,← List.append_assoc]
        exact List.Perm.append_right _ List.perm_append_comm),List.Sublist.append (.refl _) a3⟩
      simp only [Zu,if_neg q,List.map_cons,RepAK]
      exact ⟨u,_,g,fp',rfl,h1,a1,rfl⟩
/-- a dict of data as one whose items may be owned -/
def JLz (kvs : List (Key × D)) : List (Key × A):=kvs.map fun q=>(q.1,.v q.2)
end
def Dd (kvs : List (Key × A)) (k : Key) (y : A) : Option A:=match W8 kvs k with
  | none=>some (.nd (kvs ++ [(k,y)]))
  | some _=>if (kvs.map (·.1)).Nodup then some (.nd (Zu kvs k y)) else none
/-- what stands behind n[d] = y -/
def putN (n : A) (d : D) (y : A) : Option A:=match n with
  | .nl xs=>(match d with
    | .int k=>(ixN xs.length k).map fun j=>.nl (xs.set j y)
    | _=>none)
  | .nd kvs=>(keyD d).bind fun k=>Dd kvs k y
  | .dic kvs=>(keyD d).bind fun k=>Dd (JLz kvs) k y
  | _=>none
def Qh : A → Nat
  | .nd kvs=>kvs.length
  | .dic kvs=>kvs.length
  | _=>0
section
variable {X : Cx} {P : Pm} {K : Fg} {pos : Pos}
def Kx (o iv y : A) (ρ : J0) (nx : J0 → Prop) : Prop:=∃ i p n d n' t,Uk o ρ = some (i,p,n) ∧ dat iv ρ = some d ∧ putN n d y = some n' ∧ Qh n ≤ 100000 ∧ ρ[i]? = some (some t) ∧ nx (ρ.set i (some (t.upd p (W0 o n'))))
/-- o[i] = e,e kept as it is -/
def JPl (av ao ai : AE) : AS:=fun DA ρ=>av DA.ex ρ fun x ρ1=>Wm x ρ1 fun y ρ2=>ao DA.ex ρ2 fun o ρ3=>ai DA.ex ρ3 fun iv ρ4=>Kx o iv y ρ4 DA.nx
end
end Vs
namespace Vs
open PySem PySem.Spec PyProof.Rows L2
variable [Tbs]
mutual
/-- the datum that an owned thing is,to the ground -/
def Zf : A → Option D
  | .v d=>some d
  | .lst xs=>some (.lst xs)
  | .dic kvs=>some (.dic kvs)
  | .obj C fs=>(Tr fs).map (.obj C)
  | .nl xs=>(P4 xs).map .lst
  | .nt xs=>(P4 xs).map .tup
  | .nd kvs=>(JX0 kvs).map .dic
  | .cel _ x=>Zf x
  | .loc _=>none
  | .pth _ _ _=>none
def P4 : List A → Option (List D)
  | []=>some []
  | x :: r=>(Zf x).bind fun d=>(P4 r).map fun ds=>d :: ds
def JX0 : List (Key × A) → Option (List (Key × D))
  | []=>some []
  | (k,x) :: r=>(Zf x).bind fun d=>(JX0 r).map fun ds=>(k,d) :: ds
def Tr : List (Str × A) → Option (List (Str × D))
  | []=>some []
  | (k,x) :: r=>(Zf x).bind fun d=>(Tr r).map fun ds=>(k,d) :: ds
end
/-- .. ahead of a statement -/
def JN8 (i : Nat) (a : AS) : AS:=fun DA ρ=>∃ t d,ρ[i]? = some (some t) ∧ Zf t = some d ∧ a DA (ρ.set i (some (.v d)))
def Md : List A → J0 → (List A → J0 → Prop) → Prop
  | [],ρ,k=>k [] ρ
  | .pth i p w :: xs,ρ,k=>∃ n t,Uk (.pth i p w) ρ = some (i,p,n) ∧ ρ[i]? = some (some t) ∧ Ba n = true ∧ Md xs (ρ.set i (some (t.upd p (.pth i p w)))) fun ys ρ'=>k (n :: ys) ρ'
  | x :: xs,ρ,k=>Md xs ρ fun ys ρ'=>k (x :: ys) ρ'
def Ll : List A → List A → J0 → (J0 → Prop) → Prop
  | .pth i p w :: xs,z :: zs,ρ,k=>∃ t,ρ[i]? = some (some t) ∧ t.at p = some (.pth i p w) ∧ Ll xs zs (ρ.set i (some (t.upd p (.cel w z)))) k
  | _ :: xs,_ :: zs,ρ,k=>Ll xs zs ρ k
  | _,_,ρ,k=>k ρ
section
variable {K : Fg} {c : Ctx} {S H : Hp} {σ : L2.St} {ρ : J0} {τ : List (V × A)} {v : V} {x y n : A} {i : Nat} {p : List Stp} {d : D}
/-- a call with things at paths -/
def R8 (sp : ASp) (xs : List A) : AE:=fun EA ρ Q=>Md xs ρ fun ys ρ1=>∃ zs ρ2,pass ys ρ1 = some (zs,ρ2) ∧ sp.pre zs ∧ (∀ r zs',sp.post zs r zs' → zs'.length = zs.length → Ll xs zs' (give ys zs' ρ2) fun ρ3=>Q r ρ3) ∧ ∀ C fs zs',sp.exc zs C fs zs' → zs'.length = zs.length → Ll xs zs' (give ys zs' ρ2) fun ρ3=>EA C fs ρ3
end
def JBm (sp : ASp) (dd : List D) (aa : AA) : AE:=fun EA ρ Q=>aa EA ρ fun xs ρ1=>R8 sp (xs ++ dd.map A.v) EA ρ1 Q
end Vs
namespace Vs
open PySem PySem.Spec PyProof.Rows L2
variable [Tbs]
mutual
def Bb : A → A
  | .cel _ x=>Bb x
  | .nl xs=>.nl (Gv xs)
  | .nt xs=>.nt (Gv xs)
  | .nd kvs=>.nd (Lv kvs)
  | .obj C fs=>.obj C (Hs fs)
  | .v d=>.v d
  | .lst xs=>.lst xs
  | .dic kvs=>.dic kvs
  | .loc i=>.loc i
  | .pth i p w=>.pth i p w
def Gv : List A → List A
  | []=>[]
  | x :: r=>Bb x :: Gv r
def Lv : List (Key × A) → List (Key × A)
  | []=>[]
  | (k,x) :: r=>(k,Bb x) :: Lv r
def Hs : List (Str × A) → List (Str × A)
  | []=>[]
  | (k,x) :: r=>(k,Bb x) :: Hs r
end
/-- slots whose things are no longer told of -/
def Zt : List Nat → J0 → J0
  | [],ρ=>ρ
  | i :: is,ρ=>Zt is (match ρ[i]? with
    | some (some t)=>ρ.set i (some (Bb t))
    | _=>ρ)
section
variable {X : Cx} {P : Pm} {pos : Pos} {e : Expr} {aa : AE}
def JZi (is : List Nat) (a : AS) : AS:=fun DA ρ=>a DA (Zt is ρ)
/-- an owned thing made data to the ground -/
def JK2 (ae : AE) : AE:=fun EA ρ Q=>ae EA ρ fun x ρ1=>∃ d,Zf x = some d ∧ Q (.v d) ρ1
/-- a walk of a flat list at a path -/
def JNb (ae : AE) : AI:=fun EA ρ Q=>ae EA ρ fun x ρ1=>∃ i p w xs,x = .pth i p w ∧ dat x ρ1 = some (.lst xs) ∧ Q xs (fun ρ=>dat (.pth i p w) ρ = some (.lst xs)) ρ1
/-- len of what may be nested -/
def JNl : A → Option Nat
  | .nl xs=>some xs.length
  | .nt xs=>some xs.length
  | .nd xs=>some xs.length
  | _=>none
def JPt : ARs:=fun xs ρ Q=>∃ x i p n m,xs = [x] ∧ Uk x ρ = some (i,p,n) ∧ JNl n = some m ∧ Q (.v (.int m)) ρ
def JLc : ARs:=fun xs ρ Q=>Uo xs ρ Q ∨ JPt xs ρ Q
/-- isinstance of what may be nested -/
def tyA : A → Option Value
  | .nl _=>some (.type "list")
  | .nt _=>some (.type "tuple")
  | .nd _=>some (.type "dict")
  | _=>none
def JGi (K : Fg) (us : List Value) : AR1:=fun x ρ Q=>∃ i p n t b,Uk x ρ = some (i,p,n) ∧ tyA n = some t ∧ PySem.W.kitAny K t us = some b ∧ Q (.v (.bl b)) ρ
def JO0 (K : Fg) (us : List Value) : AR1:=fun x ρ Q=>Uv K us x ρ Q ∨ JGi K us x ρ Q
end
end Vs
namespace Vs
open PySem PySem.Spec PyProof.Rows L2
variable [Tbs]
section
variable {EA : AX} {ρ : J0} {Q : AK} {DA : AEnds} {QI : List D → (J0 → Prop) → J0 → Prop} {x y iv o n n' z t : A} {d e : D} {K : Fg} {j i : Nat} {p : List Stp} {w : V} {st : Stp} {ao ai ae av : AE} {al : AA} {sp : ASp} {a : AS}
theorem Wq (h : ρ[j]? = some (some t)) : Uk (.loc j) ρ = some (j,[],t):=by simp only [Uk,h]
theorem Oy (h : ρ[i]? = some (some t)) (h2 : t.at p = some (.cel w n)) : Uk (.pth i p w) ρ = some (i,p,n):=by
  simp only [Uk,h,h2,R1]
  simp
theorem JWc (h : ρ[i]? = some (some t)) (h2 : t.at p = some (.cel w n)) : dat (.pth i p w) ρ = some n.toD:=by
  simp only [dat,h,h2,Kk]
  simp
theorem Jk {xs : List D} (h : ρ[i]? = some (some t)) (h2 : t.at p = some (.cel w (.lst xs))) : dat (.pth i p w) ρ = some (.lst xs):=JWc h h2
theorem Jl {xs : List (Key × D)} (h : ρ[i]? = some (some t)) (h2 : t.at p = some (.cel w (.dic xs))) : dat (.pth i p w) ρ = some (.dic xs):=JWc h h2
theorem E2 (h : ρ[j]? = some (some (.pth i p w))) (k : Q (.pth i p w) ρ) : aAl j EA ρ Q:=⟨i,p,w,h,k⟩
theorem Sx (h1 : dat x ρ = some d) (h2 : dat y ρ = some e) {zz : D} (h3 : itD d e = some zz) (k : Q (.v zz) ρ) : Xv x y ρ Q:=.inl ⟨d,e,zz,h1,h2,h3,k⟩
theorem On (h1 : Uk x ρ = some (i,p,n)) (h2 : dat y ρ = some d) (h3 : B5 n d = some st) (h4 : itN n st = some z) (k : outI x i p n st z ρ Q) : Xv x y ρ Q:=.inr ⟨i,p,n,d,st,z,h1,h2,h3,h4,k⟩
theorem Cd {zz : D} (h1 : ρ[j]? = some (some t)) (h2 : dat y ρ = some d) (h3 : B5 t d = some st) (h4 : itN t st = some (.v zz)) (k : Q (.v zz) ρ) : Xv (.loc j) y ρ Q:=On (Wq h1) h2 h3 h4 k
theorem Ey (h1 : ρ[j]? = some (some t)) (h2 : dat y ρ = some d) (h3 : B5 t d = some st) (h4 : itN t st = some (.cel w z)) (k : Q (.pth j [st] w) ρ) : Xv (.loc j) y ρ Q:=On (Wq h1) h2 h3 h4 k
theorem Lk (h1 : ρ[j]? = some (some t)) (h2 : dat y ρ = some d) (h3 : B5 t d = some st) (h4 : itN t st = some z) (h5 : Ba z = true) (k : ∀ w,Q (.pth j [st] w) (ρ.set j (some (Zg t st (.cel w z))))) : Xv (.loc j) y ρ Q:=by
  refine On (Wq h1) h2 h3 h4 ?_
  cases z <;> first | exact ⟨t,h1,k⟩ | cases h5
theorem Ei (k : ao EA ρ fun o ρ1=>isL o ρ1 (ae EA ρ1 fun x ρ2=>Yl x ρ2 fun d ρ3=>Fw o d ρ3 Q)) : JXd ao ae EA ρ Q:=k
theorem K0 {xs : List D} (h : ρ[i]? = some (some t)) (h2 : t.at p = some (.cel w (.lst xs))) (h3 : xs.length ≤ 100000) (k : Q (.v .non) (ρ.set i (some (t.upd p (.cel w (.lst (xs ++ [d]))))))) : Fw (.pth i p w) d ρ Q:=⟨i,p,xs,t,Oy h h2,h3,h,k⟩
theorem JZd (k : ao EA ρ fun o ρ1=>isL o ρ1 (ai EA ρ1 fun iv ρ2=>ae EA ρ2 fun x ρ3=>Yl x ρ3 fun d ρ4=>Pu o iv d ρ4 Q)) : JL1 ao ai ae EA ρ Q:=k
theorem Tc {xs : List D} {k0 : Int} (h : ρ[i]? = some (some t)) (h2 : t.at p = some (.cel w (.lst xs))) (hi : dat iv ρ = some (.int k0)) (h3 : 0 ≤ k0 ∧ k0 < 2 ^ 63 ∧ xs.length ≤ 100000) (k : Q (.v .non) (ρ.set i (some (t.upd p (.cel w (.lst (xs.take k0.toNat ++ [d] ++ xs.drop k0.toNat))))))) : Pu (.pth i p w) iv d ρ Q:=⟨i,p,xs,k0,t,Oy h h2,hi,h3.1,h3.2.1,h3.2.2,h,k⟩
theorem JVl (k : av DA.ex ρ fun x ρ1=>Wm x ρ1 fun y ρ2=>ao DA.ex ρ2 fun o ρ3=>ai DA.ex ρ3 fun iv ρ4=>Kx o iv y ρ4 DA.nx) : JPl av ao ai DA ρ:=k
theorem Mm {nx : J0 → Prop} (h1 : ρ[j]? = some (some t)) (h2 : dat iv ρ = some d) (h3 : putN t d y = some n') (h4 : Qh t ≤ 100000) (k : nx (ρ.set j (some n'))) : Kx (.loc j) iv y ρ nx:=⟨j,[],t,d,n',t,Wq h1,h2,h3,h4,h1,k⟩
theorem JVz {k : A → J0 → Prop} (q : k (.v d) ρ) : Wm (.v d) ρ k:=q
theorem JZ8 {xs : List D} {k : A → J0 → Prop} (q : k (.lst xs) ρ) : Wm (.lst xs) ρ k:=q
theorem JY5 {xs : List (Key × D)} {k : A → J0 → Prop} (q : k (.dic xs) ρ) : Wm (.dic xs) ρ k:=q
theorem R6 {k : A → J0 → Prop} (h : ρ[j]? = some (some y)) (h2 : mvQ y = true) (q : k y (ρ.set j (some (Qx y)))) : Wm (.loc j) ρ k:=⟨y,h,h2,q⟩
theorem JZm {k : List A → J0 → Prop} (q : k [] ρ) : Zy [] ρ k:=q
theorem JUb {xs : List A} {k : List A → J0 → Prop} (q : Wm x ρ fun y ρ'=>Zy xs ρ' fun ys ρ''=>k (y :: ys) ρ'') : Zy (x :: xs) ρ k:=q
theorem Ck (k : al EA ρ fun xs ρ1=>xs.length ≤ 1000 ∧ Zy xs ρ1 fun ys ρ2=>Q (.nl ys) ρ2) : JK0 al EA ρ Q:=k
theorem JZe (k : al EA ρ fun xs ρ1=>xs.length ≤ 1000 ∧ Zy xs ρ1 fun ys ρ2=>Q (.nt ys) ρ2) : JM0 al EA ρ Q:=k
theorem JJx (k : ao DA.ex ρ fun o ρ1=>ai DA.ex ρ1 fun iv ρ2=>Na o iv ρ2 fun kk _ x=>ae DA.ex ρ2 fun y ρ3=>Ka o kk x y ρ3 DA.nx) : JLf ao ai ae DA ρ:=k
theorem JZ9 {kk : Key} {kvs : List (Key × D)} {x : Int} {k : Key → List (Key × D) → Int → Prop} (h1 : dat o ρ = some (.dic kvs)) (h2 : dat iv ρ = some d) (h3 : keyD d = some kk) (h4 : valD kvs kk = some (.int x)) (q : k kk kvs x) : Na o iv ρ k:=⟨d,kk,kvs,x,h1,h2,h3,h4,q⟩
theorem Oa {kk : Key} {kvs : List (Key × D)} {x m : Int} {nx : J0 → Prop} (h1 : dat y ρ = some (.int m)) (h : ρ[i]? = some (some t)) (h2 : t.at p = some (.cel w (.dic kvs))) (h3 : kvs.length ≤ 100000) (q : nx (ρ.set i (some (t.upd p (.cel w (.dic (putD kvs kk (.int (x + m)))))))) ) : Ka (.pth i p w) kk x y ρ nx:=⟨m,i,p,kvs,t,h1,Oy h h2,h3,h,q⟩
theorem JX7 (h : ρ[i]? = some (some t)) (h2 : Zf t = some d) (k : a DA (ρ.set i (some (.v d)))) : JN8 i a DA ρ:=⟨t,d,h,h2,k⟩
theorem Q3 (k : ae EA ρ fun x ρ1=>∃ d,Zf x = some d ∧ Q (.v d) ρ1) : JK2 ae EA ρ Q:=k
theorem JUy (k : ae EA ρ fun x ρ1=>∃ i p w xs,x = .pth i p w ∧ dat x ρ1 = some (.lst xs) ∧ QI xs (fun ρ=>dat (.pth i p w) ρ = some (.lst xs)) ρ1) : JNb ae EA ρ QI:=k
theorem T1 {dd : D} {m : Nat} (h1 : dat x ρ = some dd) (h2 : Ue dd = some m) (k : Q (.v (.int m)) ρ) : JLc [x] ρ Q:=.inl ⟨x,dd,m,rfl,h1,h2,k⟩
theorem Qw {us : List Value} {b : Bool} (h1 : dat x ρ = some d) (h2 : Wi K d us b) (k : Q (.v (.bl b)) ρ) : JO0 K us x ρ Q:=.inl ⟨d,b,h1,h2,k⟩
theorem JX2 {dd : List D} (k : al EA ρ fun xs ρ1=>R8 sp (xs ++ dd.map A.v) EA ρ1 Q) : JBm sp dd al EA ρ Q:=k
end
end Vs
set_option maxHeartbeats 3200000
namespace Vs
open PySem PySem.Spec PyProof.Rows L2 PpSet
end Vs
set_option maxHeartbeats 1000000
namespace Vs
open PySem PySem.Spec PyProof.Rows L2 PpSet
variable [Tbs]
def okU (ds : List D) : Prop:=(∃ l : List Str,ds = l.map D.str ∧ l.length < 64) ∨ ∃ l : List Int,ds = l.map D.int ∧ l.length < 64
def toU (ds ys : List D) : Prop:=(∃ l zs : List Str,ds = l.map D.str ∧ ys = zs.map D.str ∧ zs.Nodup ∧ (∀ k,k ∈ zs ↔ k ∈ l) ∧ sortedS zs = true) ∨ ∃ l zs : List Int,ds = l.map D.int ∧ ys = zs.map D.int ∧ zs.Pairwise (· < ·) ∧ ∀ k,k ∈ zs ↔ k ∈ l
def Q4 (x : A) (ρ : J0) (Q : AK) : Prop:=∃ ds,dat x ρ = some (.lst ds) ∧ okU ds ∧ ∀ ys,toU ds ys → Q (.lst ys) ρ
/-- sorted(set(e)) -/
def JLx (ae : AE) : AE:=fun EA ρ Q=>ae EA ρ fun x ρ1=>Q4 x ρ1 Q
theorem D3 {K : Fg} {S : Hp} : ∀ {l : List Str} {vs : List V},RepL K S (l.map D.str) vs → vs = l.map V.str
  | [],vs,h=>by simpa only [List.map_nil,RepL] using h
  | y :: l,vs,h=>by
    simp only [List.map_cons,RepL,Rep] at h
    obtain ⟨v,r,rfl,rfl,h2⟩:=h
    rw [D3 h2,List.map_cons]
section
variable {EA : AX} {ρ : J0} {Q : AK} {x : A} {ae : AE}
theorem JZh (k : ae EA ρ fun x ρ1=>Q4 x ρ1 Q) : JLx ae EA ρ Q:=k
end
end Vs
namespace Vs
open PySem PySem.Spec PyProof.Rows L2
variable [Tbs]
def JHy (is : List Nat) (a : AS) : AS:=fun DA ρ=>a { DA with nx:=fun ρ=>DA.nx (Zt is ρ),ct:=fun ρ=>DA.ct (Zt is ρ) } ρ
theorem JUm {is : List Nat} {a : AS} {DA : AEnds} {ρ : J0} (k : a { DA with nx:=fun ρ=>DA.nx (Zt is ρ),ct:=fun ρ=>DA.ct (Zt is ρ) } ρ) : JHy is a DA ρ:=k
theorem JU8 {is : List Nat} {a : AS} {DA : AEnds} {ρ ρ' : J0} (h : Zt is ρ = ρ') (k : a DA ρ') : JZi is a DA ρ:=by
  unfold JZi
  rw [h]
  exact k
end Vs
namespace Vs
open PySem PySem.Spec PyProof.Rows L2
variable [Tbs]
section
variable {EA : AX} {ρ : J0} {Q : AK} {DA : AEnds} {x y iv o n n' z t : A} {d e : D} {K : Fg} {j i m : Nat} {xs : List A} {w : V} {sp : ASp}
theorem Ab {k0 : Int} (h1 : ρ[j]? = some (some (.nl xs))) (h2 : dat y ρ = some (.int k0)) (h3 : ixN xs.length k0 = some m) (h4 : xs[m]? = some z) (h5 : Ba z = true) (k : ∀ w,Q (.pth j [.n m] w) (ρ.set j (some (.nl (xs.set m (.cel w z)))))) : Xv (.loc j) y ρ Q:=by
  refine Lk (st:=.n m) h1 h2 ?_ h4 h5 k
  simp only [B5,h3,Option.map]
theorem JJs {k0 : Int} (h1 : ρ[j]? = some (some (.nt xs))) (h2 : dat y ρ = some (.int k0)) (h3 : ixN xs.length k0 = some m) (h4 : xs[m]? = some z) (h5 : Ba z = true) (k : ∀ w,Q (.pth j [.n m] w) (ρ.set j (some (.nt (xs.set m (.cel w z)))))) : Xv (.loc j) y ρ Q:=by
  refine Lk (st:=.n m) h1 h2 ?_ h4 h5 k
  simp only [B5,h3,Option.map]
theorem L1 (h2 : xs[m]? = some z) : (A.nl xs).at [.n m] = some z:=by
  show (xs[m]?).bind _ = _
  rw [h2]
  rfl
theorem Ax (h2 : xs[m]? = some z) (y : A) : (A.nl xs).upd [.n m] y = .nl (xs.set m y):=by
  show (match xs[m]? with
    | some x=>stN (A.nl xs) (.n m) (A.upd x [] y)
    | none=>_) = _
  rw [h2]
  rfl
theorem JZc (h2 : xs[m]? = some z) : (A.nt xs).at [.n m] = some z:=by
  show (xs[m]?).bind _ = _
  rw [h2]
  rfl
theorem JBv (h2 : xs[m]? = some z) (y : A) : (A.nt xs).upd [.n m] y = .nt (xs.set m y):=by
  show (match xs[m]? with
    | some x=>stN (A.nt xs) (.n m) (A.upd x [] y)
    | none=>_) = _
  rw [h2]
  rfl
theorem JUc {ds : List D} (h : ρ[i]? = some (some (.nl xs))) (h2 : xs[m]? = some (.cel w (.lst ds))) (h3 : ds.length ≤ 100000) (k : Q (.v .non) (ρ.set i (some (.nl (xs.set m (.cel w (.lst (ds ++ [d])))))))) : Fw (.pth i [.n m] w) d ρ Q :=
  K0 h (L1 h2) h3 (by rw [Ax h2]; exact k)
theorem E1 {ds : List D} (h : ρ[i]? = some (some (.nt xs))) (h2 : xs[m]? = some (.cel w (.lst ds))) (h3 : ds.length ≤ 100000) (k : Q (.v .non) (ρ.set i (some (.nt (xs.set m (.cel w (.lst (ds ++ [d])))))))) : Fw (.pth i [.n m] w) d ρ Q :=
  K0 h (JZc h2) h3 (by rw [JBv h2]; exact k)
theorem Dm {kk : Key} {kvs : List (Key × D)} {x k0 : Int} {nx : J0 → Prop} (h1 : dat y ρ = some (.int k0)) (h : ρ[i]? = some (some (.nl xs))) (h2 : xs[m]? = some (.cel w (.dic kvs))) (h3 : kvs.length ≤ 100000) (q : nx (ρ.set i (some (.nl (xs.set m (.cel w (.dic (putD kvs kk (.int (x + k0))))))))) ) : Ka (.pth i [.n m] w) kk x y ρ nx :=
  Oa h1 h (L1 h2) h3 (by rw [Ax h2]; exact q)
theorem Jo {ds : List D} (h : ρ[i]? = some (some (.nl xs))) (h2 : xs[m]? = some (.cel w (.lst ds))) : dat (.pth i [.n m] w) ρ = some (.lst ds):=Jk h (L1 h2)
theorem Js {ds : List (Key × D)} (h : ρ[i]? = some (some (.nl xs))) (h2 : xs[m]? = some (.cel w (.dic ds))) : dat (.pth i [.n m] w) ρ = some (.dic ds):=Jl h (L1 h2)
theorem Jn {ds : List D} (h : ρ[i]? = some (some (.nt xs))) (h2 : xs[m]? = some (.cel w (.lst ds))) : dat (.pth i [.n m] w) ρ = some (.lst ds):=Jk h (JZc h2)
theorem JJk {k0 : Int} {nx : J0 → Prop} (h1 : ρ[j]? = some (some (.nl xs))) (h2 : dat iv ρ = some (.int k0)) (h3 : ixN xs.length k0 = some m) (k : nx (ρ.set j (some (.nl (xs.set m y))))) : Kx (.loc j) iv y ρ nx:=by
  refine Mm (n':=.nl (xs.set m y)) h1 h2 ?_ (Nat.zero_le _) k
  simp only [putN,h3,Option.map]
theorem JX3 {p : List Stp} {nx : J0 → Prop} (k : nx (ρ.set j (some (.pth i p w)))) : Ze (.pth i p w) ρ j nx:=k
end
end Vs
namespace Vs
open PySem PySem.Spec PyProof.Rows L2
variable [Tbs]
section
variable {K : Fg} {ρ : J0} {x : A} {Q : AK}
/-- ord(text of one sign) -/
def L0 : ARs:=fun xs ρ Q=>∃ (x : A) (z : Str),xs = [x] ∧ dat x ρ = some (.str z) ∧ z.length = 1 ∧ Q (.v (.int (z.cps.getD 0 0 : Nat))) ρ
theorem JFh : Vy K (fun xs H Q=>∃ x,xs = [.str x] ∧ x.length = 1 ∧ Q (.int (x.cps.getD 0 0 : Nat)) H) L0:=by
  intro c τ S H σ ρ vs xs Q R hl s q k
  obtain ⟨x,z,rfl,h1,h2,q⟩:=q
  obtain ⟨v,rfl,s⟩:=one_arg hl s
  have r:=s.dat (List.mem_cons_self ..) h1
  simp only [Rep] at r
  exact ⟨z,by rw [r],h2,k _ _ (KE.sc s.drop rfl q)⟩
theorem De {z : Str} (h1 : dat x ρ = some (.str z)) (h2 : z.length = 1) (k : Q (.v (.int (z.cps.getD 0 0 : Nat))) ρ) : L0 [x] ρ Q:=⟨x,z,rfl,h1,h2,k⟩
theorem JFx : Cs L0:=fun {ι} _ x ρ Q Q' h k=>by
  obtain ⟨i,_⟩:=i0 (ι:=ι)
  obtain ⟨a,z,rfl,h1,h2,_⟩:=h i
  refine ⟨a,z,rfl,h1,h2,k _ _ fun i=>?_⟩
  obtain ⟨b,w,g0,g1,_,q⟩:=h i
  cases g0
  rw [h1] at g1
  cases g1
  exact q
end
/-- a text's first place in a list of texts -/
def Gy (ao ae : AE) : AE:=fun EA ρ Q=>ao EA ρ fun o ρ1=>(∃ xs,dat o ρ1 = some (.lst xs)) ∧ ae EA ρ1 fun x ρ2=>∃ (zs : List Str) (k : Str),dat o ρ2 = some (.lst (zs.map D.str)) ∧ dat x ρ2 = some (.str k) ∧ k ∈ zs ∧ Q (.v (.int (zs.idxOf k : Nat))) ρ2
theorem Oe {k : Str} : ∀ {zs : List Str},k ∈ zs → zs[zs.idxOf k]? = some k ∧ ∀ (m : Nat) z',m < zs.idxOf k → zs[m]? = some z' → z' ≠ k
  | [],h=>nomatch h
  | z :: zs,h=>by
    rw [List.idxOf_cons]
    by_cases e : z = k
    · subst e
      simp
    · have hk : k ∈ zs:=by
        rcases List.mem_cons.mp h with q | q
        · exact absurd q.symm e
        · exact q
      obtain ⟨h1,h2⟩:=Oe hk
      have e2 : (z == k) = false:=by simpa using e
      rw [e2]
      refine ⟨by simpa using h1,fun m z' hm hz=>?_⟩
      cases m with
      | zero =>
        simp only [List.getElem?_cons_zero,Option.some.injEq] at hz
        exact hz ▸ e
      | succ m=>exact h2 m z' (by simpa using hm) (by simpa using hz)
section
variable {X : Cx} {P : Pm}
theorem JWz {o e : Expr} {ao ae : AE} {apos cpos : Pos} (ho' : QE X P o ao) (he : QE X P e ae) (hbase : attributeBase o "index" X.env (eval o X.env) = eval o X.env:=by rfl)
    (hfew : ((backTo cpos (starEach (e :: []) X.env)).all (fun x=>!x.1) && (backToKw cpos (keywordEach [] X.env)).all (fun x=>x.1.isSome)
      && decide ((e :: []).length + ([] : List Keyword).length + (if ([] : List Keyword).isEmpty then 0 else 1) < 30)) = true:=by rfl)
    (hline : (apos.endLine == cpos.line) = true:=by rfl) (hs : starEach [e] X.env = (false,eval e X.env) :: starEach [] X.env:=by rfl) (hplain : (backTo cpos (starEach [] X.env)).any (·.1) = false:=by rfl) :
    QE X P (.Call (.Attribute o "index" apos) [e] [] cpos) (Gy ao ae):=by
  obtain ⟨to,po,so⟩:=ho'.ex
  obtain ⟨te,pe,se⟩:=he.ex
  refine ⟨_,pe_bm PySem.F.plainAttrs_list PySem.F.slot_list_index PySem.F.type_list_index mt_index po (pa_cons pe pa_nil hs) hbase hfew hline hs hplain,fun c EA ho hw τ S H σ ρ Q R st q k=>so c EA ho hw τ S H σ ρ _ _ st q fun vo H1 ⟨S1,ρ1,xo,s1,⟨xs0,h0⟩,q1⟩=>?_⟩
  obtain ⟨y0,g0,r0,e0⟩:=s1.thing (List.mem_cons_self ..) h0
  obtain ⟨p,vs,rfl,h3,h4⟩:=Vw r0 e0 s1.le
  refine ⟨.inl ⟨rfl,vs,h3⟩,se c EA ho hw _ S1 H1 σ ρ1 _ _ s1 q1 fun v H2 ⟨S2,ρ2,x,s2,zs,kk,hz,hk,hm,q2⟩=>?_⟩
  obtain ⟨y1,g1,r1,e1⟩:=s2.thing (List.mem_cons_of_mem _ (List.mem_cons_self ..)) hz
  obtain ⟨p',ws,ep,h5,h6⟩:=Vw r1 e1 s2.le
  cases ep
  have ew:=D3 h6
  subst ew
  have rk:=s2.dat (List.mem_cons_self ..) hk
  simp only [Rep] at rk
  subst rk
  obtain ⟨i1,i2⟩:=Oe hm
  refine ⟨p,zs.map V.str,.str kk,zs.idxOf kk,.str kk,rfl,rfl,h5,rfl,by simp [flatV],by simp [i1],by simp [eqV],fun m z' h7 h8=>?_,k _ _ ⟨S2,_,.v (.int (zs.idxOf kk : Nat)),s2.drop.drop.hold (by simp only [Rep]),q2⟩⟩
  rw [List.getElem?_map] at h8
  cases q : zs[m]? with
  | none=>rw [q] at h8; cases h8
  | some z0 =>
    rw [q] at h8
    cases h8
    have:=i2 m z0 h7 q
    simp [eqV,this]
end
theorem JZy {ao ae : AE} (ha : CE ao) (hb : CE ae) : CE (Gy ao ae):=fun {ι} _ EA EA' ρ Q Q' h hx hq=>ha h hx fun o ρ1 h1=>V1 h1 fun h2=>hb h2 hx fun x ρ2 h3=>by
  obtain ⟨i,_⟩:=i0 (ι:=ι)
  obtain ⟨zs,k,e1,e2,e3,_⟩:=h3 i
  refine ⟨zs,k,e1,e2,e3,hq _ _ fun i=>?_⟩
  obtain ⟨zs',k',f1,f2,_,q⟩:=h3 i
  rw [e2] at f2
  cases f2
  rw [e1] at f1
  have : zs = zs':=(List.map_inj_right (f:=D.str) (fun a b h=>by cases h; rfl)).mp (by simpa using f1)
  subst this
  exact q
theorem Qp {ao ae : AE} {EA : AX} {ρ : J0} {Q : AK} (k : ao EA ρ fun o ρ1=>isL o ρ1 (ae EA ρ1 fun x ρ2=>∃ (zs : List Str) (k : Str),dat o ρ2 = some (.lst (zs.map D.str)) ∧ dat x ρ2 = some (.str k) ∧ k ∈ zs ∧ Q (.v (.int (zs.idxOf k : Nat))) ρ2)) : Gy ao ae EA ρ Q:=k
end Vs
namespace Vs
open PySem PySem.Spec PyProof.Rows L2
variable [Tbs]
/-- o.remove(k) -/
def JZ2 (o x : A) (ρ : J0) (Q : AK) : Prop:=∃ (i : Nat) (zs : List Str) (k : Str),o = .loc i ∧ ρ[i]? = some (some (.lst (zs.map D.str))) ∧ dat x ρ = some (.str k) ∧ k ∈ zs ∧ Q (.v .non) (ρ.set i (some (.lst ((zs.eraseIdx (zs.idxOf k)).map D.str))))
def JM3 (ao ae : AE) : AE:=fun EA ρ Q=>ao EA ρ fun o ρ1=>(∃ xs,dat o ρ1 = some (.lst xs)) ∧ ae EA ρ1 fun x ρ2=>JZ2 o x ρ2 Q
/-- o.reverse(),o a list that a name holds,or one at a path -/
def P5 (o : A) (ρ : J0) (Q : AK) : Prop:=∃ i p xs t,Uk o ρ = some (i,p,.lst xs) ∧ ρ[i]? = some (some t) ∧ Q (.v .non) (ρ.set i (some (t.upd p (W0 o (.lst xs.reverse)))))
def JOc (ao : AE) : AE:=fun EA ρ Q=>ao EA ρ fun o ρ1=>P5 o ρ1 Q
section
variable {EA : AX} {ρ : J0} {Q : AK} {i : Nat} {x : A}
theorem JJn {ao ae : AE} (k : ao EA ρ fun o ρ1=>isL o ρ1 (ae EA ρ1 fun x ρ2=>JZ2 o x ρ2 Q)) : JM3 ao ae EA ρ Q:=k
theorem Am {ao : AE} (k : ao EA ρ fun o ρ1=>P5 o ρ1 Q) : JOc ao EA ρ Q:=k
theorem JVd {xs : List D} (h : ρ[i]? = some (some (.lst xs))) (k : Q (.v .non) (ρ.set i (some (.lst xs.reverse)))) : P5 (.loc i) ρ Q:=⟨i,[],xs,_,Wq h,h,k⟩
end
end Vs
namespace Vs
open PySem PySem.Spec PyProof.Rows L2
variable [Tbs]
/-- the values of scalars -/
def scL : List D → Option (List V)
  | []=>some []
  | d :: ds=>match sc d,scL ds with
    | some v,some vs=>some (v :: vs)
    | _,_=>none
theorem Sj {K : Fg} {S : Hp} : ∀ {ds : List D} {vs : List V},scL ds = some vs → RepL K S ds vs
  | [],vs,h=>by
    simp only [scL,Option.some.injEq] at h
    subst h
    simp only [RepL]
  | d :: ds,vs,h=>by
    simp only [scL] at h
    cases h1 : sc d with
    | none=>rw [h1] at h; cases h
    | some v =>
      cases h2 : scL ds with
      | none=>rw [h1,h2] at h; cases h
      | some ws =>
        rw [h1,h2] at h
        simp only [Option.some.injEq] at h
        subst h
        simp only [RepL]
        exact ⟨v,ws,rfl,Zb h1,Sj h2⟩
/-- the object of a module's tuple -/
structure GTup (K : Fg) (a : Addr) (vs : List V) : Prop where
  ob : ∃ (o : Obj) (its : Array Value) (n : Nat),K.lookup a = some o ∧ o.cls = .type "tuple" ∧ o.data = .seq its n ∧ its.size ≤ sizeLine ∧ Vals vs its.toList
theorem Pw {K : Fg} {S : Hp} {a : Addr} {ds : List D} {vs : List V} (h : GTup K a vs) (hs : scL ds = some vs) : Rep K S (.tup ds) (.ref a):=by
  simp only [Rep]
  exact ⟨a,vs,rfl,.inr h.ob,Sj hs⟩
theorem JX9 {K : Fg} {P : Pm} {a : Addr} {ds : List D} {vs : List V} (h : GTup K a vs) (hs : scL ds = some vs) : U5 K P (tC (.ref a)) (aC (.tup ds)):=fun c EA _ _ τ S H σ ρ Q R s q k=>k _ _ ⟨S,ρ,.v (.tup ds),s.hold (Pw h hs),q⟩
theorem Nw {X : Cx} {P : Pm} {x : Str} {pos : Pos} {ds : List D} {vs : List V} {a : Addr} (hm : X.mg x = some (.ref a)) (h : GTup X.K a vs) (hs : scL ds = some vs) (hg : Gl X x) (hd : (x == ("__debug__" : Str)) = false:=by decide) : QE X P (.Name x pos) (aC (.tup ds)) :=
  ⟨_,pe_glob (v:=.ref a) hg hm rfl hd,JX9 h hs⟩
/-- a module's dict of such tuples,its keys texts -/
structure GTab (K : Fg) (w : World) (a : Addr) (tab : List (Str × List D)) : Prop where
  at_ : ∀ k ds,(k,ds) ∈ tab → ∃ b vs,KDct K w a k (.ref b) ∧ GTup K b vs ∧ scL ds = some vs
def H9 (tab : List (Str × List D)) (ae : AE) : AE:=fun EA ρ Q=>ae EA ρ fun x ρ1=>∃ k ds,dat x ρ1 = some (.str k) ∧ tab.lookup k = some ds ∧ Q (.v (.tup ds)) ρ1
theorem mem_of_lookup {k : Str} {ds : List D} : ∀ {tab : List (Str × List D)},tab.lookup k = some ds → (k,ds) ∈ tab
  | [],h=>nomatch h
  | (k',d') :: r,h=>by
    rw [List.lookup_cons] at h
    cases e : k == k' with
    | true =>
      rw [e] at h
      have : k = k':=by simpa using e
      simp only [Option.some.injEq] at h
      rw [this,← h]
      exact List.mem_cons_self ..
    | false =>
      rw [e] at h
      exact List.mem_cons_of_mem _ (mem_of_lookup h)
theorem T3 {X : Cx} {P : Pm} {x : Str} {e : Expr} {ae : AE} {pos pos2 : Pos} {tab : List (Str × List D)} {a : Addr} (hm : X.mg x = some (.ref a)) (T : GTab X.K X.w a tab) (hg : Gl X x) (he : QE X P e ae) (hs : PlainIx e) (hd : (x == ("__debug__" : Str)) = false:=by decide) : QE X P (.Subscript (.Name x pos2) e pos) (H9 tab ae):=by
  obtain ⟨te,pe,se⟩:=he.ex
  refine ⟨_,pe_ix ix_kdict (pe_glob (v:=.ref a) hg hm rfl hd) pe hs,fun c EA ho hw τ S H σ ρ Q R s q k=>?_⟩
  refine se c EA ho hw τ S H σ ρ _ _ s q fun v H1 ⟨S1,ρ1,y,s1,kk,ds,hk,hl,q1⟩=>?_
  have rk:=s1.dat (List.mem_cons_self ..) hk
  simp only [Rep] at rk
  subst rk
  obtain ⟨b,vs,h1,h2,h3⟩:=T.at_ kk ds (mem_of_lookup hl)
  exact ⟨a,kk,.ref b,rfl,rfl,h1,k _ _ ⟨S1,ρ1,.v (.tup ds),s1.drop.hold (Pw h2 h3),q1⟩⟩
theorem E3 {tab : List (Str × List D)} {ae : AE} (ha : CE ae) : CE (H9 tab ae):=fun {ι} _ EA EA' ρ Q Q' h hx hq=>ha h hx fun x ρ1 h1=>by
  obtain ⟨l,_⟩:=i0 (ι:=ι)
  obtain ⟨k,ds,e1,e2,_⟩:=h1 l
  refine ⟨k,ds,e1,e2,hq _ _ fun l=>?_⟩
  obtain ⟨k',ds',f1,f2,q⟩:=h1 l
  rw [e1] at f1; cases f1
  rw [e2] at f2; cases f2
  exact q
theorem JUo {tab : List (Str × List D)} {ae : AE} {EA : AX} {ρ : J0} {Q : AK} (k : ae EA ρ fun x ρ1=>∃ k ds,dat x ρ1 = some (.str k) ∧ tab.lookup k = some ds ∧ Q (.v (.tup ds)) ρ1) : H9 tab ae EA ρ Q:=k
end Vs
namespace Vs
open PySem PySem.Spec PyProof.Rows L2
variable [Tbs]
section
variable {K : Fg} {ρ : J0} {x y : A} {Q : AK}
/-- dict(x),x a dict -/
def JOu : ARs:=fun xs ρ Q=>∃ (x : A) (kvs : List (Key × D)),xs = [x] ∧ dat x ρ = some (.dic kvs) ∧ Q (.dic kvs) ρ
theorem Sb {kvs : List (Key × D)} (h1 : dat x ρ = some (.dic kvs)) (k : Q (.dic kvs) ρ) : JOu [x] ρ Q:=⟨x,kvs,rfl,h1,k⟩
/-- str(int) -/
def JFu : ARs:=fun xs ρ Q=>∃ (x : A) (i : Int),xs = [x] ∧ dat x ρ = some (.int i) ∧ i.natAbs.log2 < 1920 ∧ Q (.v (.str (toString i))) ρ
theorem Eg {i : Int} (h1 : dat x ρ = some (.int i)) (h2 : i.natAbs.log2 < 1920) (k : Q (.v (.str (toString i))) ρ) : JFu [x] ρ Q:=⟨x,i,rfl,h1,h2,k⟩
/-- text < text -/
def JK8 : AR2:=fun x y ρ Q=>∃ a b : Str,dat x ρ = some (.str a) ∧ dat y ρ = some (.str b) ∧ Q (.v (.bl (decide (a.cps.toList < b.cps.toList)))) ρ
theorem JJ3 {a b : Str} (h1 : dat x ρ = some (.str a)) (h2 : dat y ρ = some (.str b)) (k : Q (.v (.bl (decide (a.cps.toList < b.cps.toList)))) ρ) : JK8 x y ρ Q:=⟨a,b,h1,h2,k⟩
end
end Vs
namespace Vs
open PySem PySem.Spec PyProof.Rows L2
end Vs
namespace Vs
open PySem L2 PyProof.Rows
end Vs
namespace Vs
open PySem L2 PyProof.Rows
end Vs
namespace Vs
open PySem L2 PyProof.Rows NdefX
variable [Tbs]
/-- a def with a star parameter,called by positional values -/
abbrev Ed (K : Fg) (n : Nat) (sp : ASp) : Sp:=fun vs H Q E=>∃ ws rest,vs = ws ++ rest ∧ ws.length = n ∧ rest.length ≤ sizeLine ∧ ∀ p,H p = none → lift K sp (ws ++ [V.ref p]) (upd H p (.tup rest)) Q E
abbrev Tab : Type:=List (Addr × ASp)
end Vs
namespace Vs
open PySem PySem.Spec L2 PyProof.Rows
variable [Tbs]
structure SupT (Pr : Program) (w : World) (K : Fg) (mg : Str → Option Value) (base : Heap) (D : Addr) (m : Str) (k : Nat) (tab : Tab) : Prop where
  all : ∀ C sp,tab.lookup C = some sp → ∃ g,PySem.W.ks_superIn K C D m = some (some (.ref g)) ∧ PySem.W.typeIn K (.ref g) = some (.type "function") ∧ PySem.W.fnIn K g = true ∧ PySem.W.mroIn K C (.ref D) = some true ∧ FnR Pr w K mg base (L2.CX Pr w) k g (lift K sp)
structure SupTV (Pr : Program) (w : World) (K : Fg) (mg : Str → Option Value) (base : Heap) (D : Addr) (m : Str) (k : Nat) (tab : Tab) : Prop where
  all : ∀ C sp,tab.lookup C = some sp → ∃ g,PySem.W.ks_superIn K C D m = some (some (.ref g)) ∧ PySem.W.typeIn K (.ref g) = some (.type "function") ∧ PySem.W.fnIn K g = true ∧ PySem.W.mroIn K C (.ref D) = some true ∧ FnR Pr w K mg base (L2.CX Pr w) k g (Ed K 1 sp)
section
variable {Pr : Program} {w : World} {K : Fg} {mg : Str → Option Value} {base : Heap} {D : Addr} {m : Str} {k : Nat} {tab : Tab}
theorem F4 {α : Type} {C C' : Addr} {a b : α} {l : List (Addr × α)} (h : List.lookup C ((C',a) :: l) = some b) : (C = C' ∧ a = b) ∨ l.lookup C = some b:=by
  rw [List.lookup_cons] at h
  split at h
  · rename_i q
    exact .inl ⟨beq_iff_eq.mp q,Option.some.inj h⟩
  · exact .inr h
theorem SupT.nil : SupT Pr w K mg base D m k []:=⟨fun C sp h=>by simp at h⟩
theorem SupTV.nil : SupTV Pr w K mg base D m k []:=⟨fun C sp h=>by simp at h⟩
theorem SupT.cons {C g : Addr} {sp : ASp} (h : PySem.W.ks_superIn K C D m = some (some (.ref g)) ∧ PySem.W.typeIn K (.ref g) = some (.type "function") ∧ PySem.W.fnIn K g = true ∧ PySem.W.mroIn K C (.ref D) = some true) (F : FnR Pr w K mg base (L2.CX Pr w) k g (lift K sp)) (T : SupT Pr w K mg base D m k tab) :
    SupT Pr w K mg base D m k ((C,sp) :: tab):=⟨fun C' sp' e=>by
  rcases F4 e with ⟨rfl,rfl⟩ | e
  · exact ⟨g,h.1,h.2.1,h.2.2.1,h.2.2.2,F⟩
  · exact T.all C' sp' e⟩
theorem SupTV.cons {C g : Addr} {sp : ASp} (h : PySem.W.ks_superIn K C D m = some (some (.ref g)) ∧ PySem.W.typeIn K (.ref g) = some (.type "function") ∧ PySem.W.fnIn K g = true ∧ PySem.W.mroIn K C (.ref D) = some true) (F : FnR Pr w K mg base (L2.CX Pr w) k g (Ed K 1 sp)) (T : SupTV Pr w K mg base D m k tab) :
    SupTV Pr w K mg base D m k ((C,sp) :: tab):=⟨fun C' sp' e=>by
  rcases F4 e with ⟨rfl,rfl⟩ | e
  · exact ⟨g,h.1,h.2.1,h.2.2.1,h.2.2.2,F⟩
  · exact T.all C' sp' e⟩
end
structure CalT (Pr : Program) (w : World) (K : Fg) (mg : Str → Option Value) (base : Heap) (m : Str) (k : Nat) (tab : Tab) : Prop where
  all : ∀ C sp,tab.lookup C = some sp → ∃ f fd ps,Cls K C ∧ Meth K C m f ∧ Binds K fd ps [] ∧ Fok Pr w K mg base k f fd ps sp
theorem CalT.nil {Pr : Program} {w : World} {K : Fg} {mg : Str → Option Value} {base : Heap} {m : Str} {k : Nat} : CalT Pr w K mg base m k []:=⟨fun C sp h=>by simp at h⟩
theorem CalT.cons {Pr : Program} {w : World} {K : Fg} {mg : Str → Option Value} {base : Heap} {m : Str} {k j : Nat} {C : Addr} {sp : ASp} {ps : List Str} {tab : Tab} (c : Cls K C) (M : CalM Pr w K mg base C m j ps sp) (T : CalT Pr w K mg base m k tab) (hj : j ≤ k) : CalT Pr w K mg base m k ((C,sp) :: tab):=⟨fun C' sp' e=>by
  rcases F4 e with ⟨rfl,rfl⟩ | e
  · obtain ⟨f,fd,h1,h2,h3⟩:=M.ex
    exact ⟨f,fd,ps,c,h1,h2,h3.mono hj⟩
  · exact T.all C' sp' e⟩
theorem CalT.mono {Pr : Program} {w : World} {K : Fg} {mg : Str → Option Value} {base : Heap} {m : Str} {k j : Nat} {tab : Tab} (T : CalT Pr w K mg base m j tab) (h : j ≤ k) : CalT Pr w K mg base m k tab:=⟨fun C sp e=>by
  obtain ⟨f,fd,ps,h1,h2,h3,h4⟩:=T.all C sp e
  exact ⟨f,fd,ps,h1,h2,h3,h4.mono h⟩⟩
def JGx (tab : Tab) (m : Str) (ao : AE) (aa : AA) : AE:=fun EA ρ Q=>ao EA ρ fun o ρ1=>∃ C fs sp,dat o ρ1 = some (.obj C fs) ∧ fs.lookup m = none ∧ tab.lookup C = some sp ∧ aa EA ρ1 fun xs ρ2=>U1 sp (o :: xs) EA ρ2 Q
structure FldT (K : Fg) (f : Str) (Cs : List Addr) : Prop where
  all : ∀ C ∈ Cs,Cls K C ∧ NoAttr K C f
theorem FldT.nil {K : Fg} {f : Str} : FldT K f []:=⟨fun _ h=>by simp at h⟩
theorem FldT.cons {K : Fg} {f : Str} {C : Addr} {Cs : List Addr} (c : Cls K C) (n : NoAttr K C f) (T : FldT K f Cs) : FldT K f (C :: Cs):=⟨fun D h=>by
  rcases List.mem_cons.mp h with rfl | h
  · exact ⟨c,n⟩
  · exact T.all D h⟩
def JGn : A → Option Addr
  | .v (.obj C _)=>some C
  | .obj C _=>some C
  | _=>none
def Ql (Cs : List Addr) (f : Str) : AR1:=fun x ρ Q=>∃ y d C,lkA x ρ = some y ∧ JGn y = some C ∧ C ∈ Cs ∧ X3 y C f = some d ∧ Q (.v d) ρ
def JG6 (Cs : List Addr) (f : Str) (av ao : AE) : AS:=fun DA ρ=>av DA.ex ρ fun x ρ1=>Yl x ρ1 fun d ρ2=>ao DA.ex ρ2 fun o ρ3=>∃ j fs C,o = .loc j ∧ ρ3[j]? = some (some (.obj C fs)) ∧ C ∈ Cs ∧ (∀ p ∈ fs,∃ d,p.2 = .v d) ∧ fs.length ≤ 100 ∧ DA.nx (ρ3.set j (some (.obj C (Z1 f d fs))))
end Vs
namespace Vs
open PySem PySem.Spec L2 PyProof.Rows
variable [Tbs]
section
variable {X : Cx} {P : Pm} {K : Fg} {pos : Pos}
/-- pairs of numbers -/
def Kt (a b c d : Int) : Bool:=decide (a < c) || (decide (a = c) && decide (b < d))
def JMy : AR2:=fun x y ρ Q=>∃ a b c d,dat x ρ = some (.tup [.int a,.int b]) ∧ dat y ρ = some (.tup [.int c,.int d]) ∧ Q (.v (.bl (Kt a b c d))) ρ
def JHf : AR2:=fun x y ρ Q=>∃ a b c d,dat x ρ = some (.tup [.int a,.int b]) ∧ dat y ρ = some (.tup [.int c,.int d]) ∧ Q (.v (.bl (Kt c d a b))) ρ
structure BinT (Pr : Program) (w : World) (K : Fg) (mg : Str → Option Value) (base : Heap) (nm : String) (k : Nat) (tab : Tab) : Prop where
  all : ∀ C sp,tab.lookup C = some sp → PySem.W.selfFirst K C = true ∧ (∃ rc,PySem.W.findIn K (.ref C) (dunderR nm) = some rc ∧ (rc = none ∨ ∃ g : Addr,rc = some (.ref g))) ∧ (∃ fo,PySem.W.findIn K (.type "int") (PySem.dunder nm) = some fo) ∧ (∃ ro,PySem.W.findIn K (.type "int") (dunderR nm) = some ro) ∧
    PySem.W.subIn K (.type "int") (.ref C) = some false ∧ ∃ f fd ps,PySem.W.findIn K (.ref C) (PySem.dunder nm) = some (some (.ref f)) ∧ PySem.W.isFn K (.ref f) = true ∧ Binds K fd ps [] ∧ Fok Pr w K mg base k f fd ps sp
def JXs (tab : Tab) (aa ab : AE) : AE:=fun EA ρ Q=>aa EA ρ fun x ρ1=>ab EA ρ1 fun y ρ2=>∃ C fs sp n,dat x ρ2 = some (.obj C fs) ∧ dat y ρ2 = some (.int n) ∧ tab.lookup C = some sp ∧ U1 sp [x,y] EA ρ2 Q
def JN7 : ARs:=fun xs ρ Q=>∃ x,∃ ns : List Int,xs = [x] ∧ dat x ρ = some (.lst (ns.map D.int)) ∧ Q (.v (.int ns.sum)) ρ
def Nc (d : Int) : List Int → Int
  | []=>d
  | n :: r=>r.foldl max n
def JPm (ae ad : AE) : AE:=fun EA ρ Q=>ae EA ρ fun x ρ1=>ad EA ρ1 fun y ρ2=>∃ (ns : List Int) (k : Int),dat x ρ2 = some (.lst (ns.map D.int)) ∧ dat y ρ2 = some (.int k) ∧ Q (.v (.int (Nc k ns))) ρ2
def JKl (aa ab ac : AE) : AE:=fun EA ρ Q=>aa EA ρ fun x ρ1=>(∃ kvs,dat x ρ1 = some (.dic kvs)) ∧ ab EA ρ1 fun y ρ2=>ac EA ρ2 fun z ρ3=>Yl z ρ3 fun d ρ4=>∃ kvs i k,dat x ρ4 = some (.dic kvs) ∧ dat y ρ4 = some i ∧ keyD i = some k ∧ Q (.v ((valD kvs k).getD d)) ρ4
def Hr (ao ae : AE) : AE:=fun EA ρ Q=>ao EA ρ fun o ρ1=>(∃ a,dat o ρ1 = some (.str a)) ∧ ae EA ρ1 fun x ρ2=>∃ (a : Str) (ys : List Str),dat o ρ2 = some (.str a) ∧ dat x ρ2 = some (.lst (ys.map D.str)) ∧ (ys.map (·.length)).sum + ys.length * a.length ≤ 16777216 ∧ Q (.v (.str (Txt.join a ys))) ρ2
theorem Dy {S : Hp} : ∀ {ns : List Str} {vs : List V},RepL K S (ns.map D.str) vs → vs = ns.map V.str
  | [],vs,h=>by simpa only [List.map_nil,RepL] using h
  | n :: ns,vs,h=>by
    simp only [List.map_cons,RepL,Rep] at h
    obtain ⟨v,r,rfl,rfl,h2⟩:=h
    rw [Dy h2]
    rfl
theorem JFp {o e : Expr} {ao ae : AE} {apos : Pos} (ho' : QE X P o ao) (he : QE X P e ae) (hs : starEach [e] X.env = [(false,eval e X.env)]:=by rfl) (hbase : attributeBase o "join" X.env (eval o X.env) = eval o X.env:=by rfl) (hline : (apos.endLine == pos.line) = true:=by rfl) :
    QE X P (.Call (.Attribute o "join" apos) [e] [] pos) (Hr ao ae):=by
  obtain ⟨to,po,so⟩:=ho'.ex
  obtain ⟨te,pe,se⟩:=he.ex
  refine ⟨_,pe_join po pe hs hbase hline,fun c EA ho hw τ S H σ ρ Q R st q k=>so c EA ho hw τ S H σ ρ _ _ st q fun vo H1 ⟨S1,ρ1,xo,s1,⟨a0,h0⟩,q1⟩=>?_⟩
  have r0:=s1.dat (List.mem_cons_self ..) h0
  simp only [Rep] at r0
  refine ⟨⟨a0,r0⟩,se c EA ho hw _ S1 H1 σ ρ1 _ _ s1 q1 fun v H2 ⟨S2,ρ2,x,s2,a,ys,h1,h2,h3,q2⟩=>?_⟩
  have r1:=(Vj s2 h1 h2).1
  simp only [Rep] at r1
  obtain ⟨y0,g0,r2,e0⟩:=s2.thing (List.mem_cons_self ..) h2
  obtain ⟨p,vs,rfl,h4,h5⟩:=Vw r2 e0 s2.le
  rw [Dy h5] at h4
  exact ⟨a,p,ys,r1,rfl,.inl h4,h3,k _ _ (KE.sc s2.drop.drop rfl q2)⟩
theorem str_inj : ∀ {a b : List Str},a.map D.str = b.map D.str → a = b
  | [],[],_=>rfl
  | [],_ :: _,h=>by cases h
  | _ :: _,[],h=>by cases h
  | x :: xs,y :: ys,h=>by
    simp only [List.map_cons,List.cons.injEq,D.str.injEq] at h
    rw [h.1,str_inj h.2]
theorem JBg {ao ae : AE} (h1 : CE ao) (h2 : CE ae) : CE (Hr ao ae):=fun {ι} _ EA EA' ρ Q Q' h hx hq=>h1 h hx fun o ρ1 g1=>V1 g1 fun g1=>h2 g1 hx fun x ρ2 g2=>by
  obtain ⟨i,_⟩:=i0 (ι:=ι)
  obtain ⟨a,ys,e1,e2,e3,_⟩:=g2 i
  refine ⟨a,ys,e1,e2,e3,hq _ _ fun i=>?_⟩
  obtain ⟨a',ys',f1,f2,f3,q⟩:=g2 i
  rw [e1] at f1
  cases f1
  rw [e2] at f2
  simp only [Option.some.injEq,D.lst.injEq] at f2
  rw [str_inj f2]
  exact q
end
end Vs
namespace Vs
open PySem PySem.Spec L2 PyProof.Rows
end Vs
namespace Vs
open PySem PySem.Spec L2 PyProof.Rows
variable [Tbs]
theorem BinT.nil {Pr : Program} {w : World} {K : Fg} {mg : Str → Option Value} {base : Heap} {nm : String} {k : Nat} : BinT Pr w K mg base nm k []:=⟨fun C sp h=>by simp at h⟩
theorem BinT.cons {Pr : Program} {w : World} {K : Fg} {mg : Str → Option Value} {base : Heap} {nm : String} {k j : Nat} {C f : Addr} {fd : FuncData} {ps : List Str} {sp : ASp} {tab : Tab} (h1 : PySem.W.selfFirst K C = true) (h2 : PySem.W.findIn K (.ref C) (dunderR nm) = some none) (h3 : ∃ fo,PySem.W.findIn K (.type "int") (PySem.dunder nm) = some fo)
    (h4 : ∃ ro,PySem.W.findIn K (.type "int") (dunderR nm) = some ro) (h5 : PySem.W.subIn K (.type "int") (.ref C) = some false) (h6 : PySem.W.findIn K (.ref C) (PySem.dunder nm) = some (some (.ref f))) (h7 : PySem.W.isFn K (.ref f) = true) (hb : Binds K fd ps []) (F : Fok Pr w K mg base j f fd ps sp) (hj : j ≤ k) (T : BinT Pr w K mg base nm k tab) : BinT Pr w K mg base nm k ((C,sp) :: tab):=⟨fun C' sp' e=>by
  rcases F4 e with ⟨rfl,rfl⟩ | e
  · exact ⟨h1,⟨none,h2,.inl rfl⟩,h3,h4,h5,f,fd,ps,h6,h7,hb,F.mono hj⟩
  · exact T.all C' sp' e⟩
end Vs
namespace Vs
open PySem PySem.Spec L2 PyProof.Rows
variable [Tbs]
section
variable {EA : AX} {ρ ρ' : J0} {Q : AK} {DA : AEnds} {tab : Tab} {m f : Str} {ao ae ab ac : AE} {aa : AA} {x y z o : A} {C : Addr} {Cs : List Addr} {sp : ASp}
/-- a method by the class -/
def mtK (tab : Tab) (m : Str) (aa : AA) (EA : AX) (Q : AK) (o : A) (ρ1 : J0) : Prop:=∃ C fs sp,dat o ρ1 = some (.obj C fs) ∧ fs.lookup m = none ∧ tab.lookup C = some sp ∧ aa EA ρ1 fun xs ρ2=>U1 sp (o :: xs) EA ρ2 Q
theorem A7 (k : ao EA ρ fun o ρ1=>mtK tab m aa EA Q o ρ1) : JGx tab m ao aa EA ρ Q:=k
theorem Es {fs : List (Str × D)} (h1 : dat o ρ = some (.obj C fs)) (h2 : fs.lookup m = none) (h3 : tab.lookup C = some sp) (k : aa EA ρ fun xs ρ2=>U1 sp (o :: xs) EA ρ2 Q) : mtK tab m aa EA Q o ρ:=⟨C,fs,sp,h1,h2,h3,k⟩
/-- a field of one of several classes: shared,owned -/
theorem Ct {fs : List (Str × D)} {d : D} (h1 : lkA x ρ = some (.v (.obj C fs))) (h2 : C ∈ Cs) (h3 : fs.lookup f = some d) (k : Q (.v d) ρ) : Ql Cs f x ρ Q:=⟨_,d,C,h1,rfl,h2,by simp only [X3,if_pos,h3],k⟩
theorem A5 {fs : List (Str × A)} {d : D} (h1 : lkA x ρ = some (.obj C fs)) (h2 : C ∈ Cs) (h3 : fs.lookup f = some (.v d)) (k : Q (.v d) ρ) : Ql Cs f x ρ Q:=⟨_,d,C,h1,rfl,h2,by simp only [X3,if_pos,h3],k⟩
def JUf (Cs : List Addr) (f : Str) (o : A) (d : D) (ρ : J0) (nx : J0 → Prop) : Prop:=∃ j fs C,o = .loc j ∧ ρ[j]? = some (some (.obj C fs)) ∧ C ∈ Cs ∧ (∀ p ∈ fs,∃ d,p.2 = .v d) ∧ fs.length ≤ 100 ∧ nx (ρ.set j (some (.obj C (Z1 f d fs))))
theorem Rm {av : AE} (k : av DA.ex ρ fun x ρ1=>Yl x ρ1 fun d ρ2=>ao DA.ex ρ2 fun o ρ3=>JUf Cs f o d ρ3 DA.nx) : JG6 Cs f av ao DA ρ:=k
theorem JYn {j : Nat} {fs : List (Str × A)} {d : D} {nx : J0 → Prop} (h1 : ρ[j]? = some (some (.obj C fs))) (h2 : C ∈ Cs) (h3 : ∀ p ∈ fs,∃ d,p.2 = A.v d) (h4 : fs.length ≤ 100) (k : nx (ρ.set j (some (.obj C (Z1 f d fs))))) : JUf Cs f (.loc j) d ρ nx:=⟨j,fs,C,rfl,h1,h2,h3,h4,k⟩
/-- own + number -/
def bnK (tab : Tab) (EA : AX) (Q : AK) (x y : A) (ρ : J0) : Prop:=∃ C fs sp n,dat x ρ = some (.obj C fs) ∧ dat y ρ = some (.int n) ∧ tab.lookup C = some sp ∧ U1 sp [x,y] EA ρ Q
theorem R9 (k : ae EA ρ fun x ρ1=>ab EA ρ1 fun y ρ2=>bnK tab EA Q x y ρ2) : JXs tab ae ab EA ρ Q:=k
theorem JZ0 {fs : List (Str × D)} {n : Int} (h1 : dat x ρ = some (.obj C fs)) (h2 : dat y ρ = some (.int n)) (h3 : tab.lookup C = some sp) (k : U1 sp [x,y] EA ρ Q) : bnK tab EA Q x y ρ:=⟨C,fs,sp,n,h1,h2,h3,k⟩
/-- max with a default,sum,get,join,order -/
def mxK (Q : AK) (x y : A) (ρ : J0) : Prop:=∃ (ns : List Int) (k : Int),dat x ρ = some (.lst (ns.map D.int)) ∧ dat y ρ = some (.int k) ∧ Q (.v (.int (Nc k ns))) ρ
theorem Sm (k : ae EA ρ fun x ρ1=>ab EA ρ1 fun y ρ2=>mxK Q x y ρ2) : JPm ae ab EA ρ Q:=k
theorem JJq {ns : List Int} {n : Int} (h1 : dat x ρ = some (.lst (ns.map D.int))) (h2 : dat y ρ = some (.int n)) (k : Q (.v (.int (Nc n ns))) ρ) : mxK Q x y ρ:=⟨ns,n,h1,h2,k⟩
theorem Dx {ns : List Int} (h1 : dat x ρ = some (.lst (ns.map D.int))) (k : Q (.v (.int ns.sum)) ρ) : JN7 [x] ρ Q:=⟨x,ns,rfl,h1,k⟩
def JWe (x y : A) (d : D) (ρ : J0) (Q : AK) : Prop:=∃ kvs i k,dat x ρ = some (.dic kvs) ∧ dat y ρ = some i ∧ keyD i = some k ∧ Q (.v ((valD kvs k).getD d)) ρ
theorem JJv (k : ae EA ρ fun x ρ1=>Os x ρ1 (ab EA ρ1 fun y ρ2=>ac EA ρ2 fun z ρ3=>Yl z ρ3 fun d ρ4=>JWe x y d ρ4 Q)) : JKl ae ab ac EA ρ Q:=k
theorem Px {kvs : List (Key × D)} {i d e : D} {ky : Key} (h1 : dat x ρ = some (.dic kvs)) (h2 : dat y ρ = some i) (h3 : keyD i = some ky) (h4 : (valD kvs ky).getD d = e) (k : Q (.v e) ρ) : JWe x y d ρ Q:=⟨kvs,i,ky,h1,h2,h3,by rw [h4]; exact k⟩
def Yo (x : A) (ρ : J0) (p : Prop) : Prop:=(∃ a,dat x ρ = some (.str a)) ∧ p
theorem JUl {a : Str} {p : Prop} (h : dat x ρ = some (.str a)) (k : p) : Yo x ρ p:=⟨⟨a,h⟩,k⟩
def Di (o x : A) (ρ : J0) (Q : AK) : Prop:=∃ (a : Str) (ys : List Str),dat o ρ = some (.str a) ∧ dat x ρ = some (.lst (ys.map D.str)) ∧ (ys.map (·.length)).sum + ys.length * a.length ≤ 16777216 ∧ Q (.v (.str (Txt.join a ys))) ρ
theorem JWq (k : ao EA ρ fun o ρ1=>Yo o ρ1 (ae EA ρ1 fun x ρ2=>Di o x ρ2 Q)) : Hr ao ae EA ρ Q:=k
theorem Qc {a : Str} {ys : List Str} (h1 : dat o ρ = some (.str a)) (h2 : dat x ρ = some (.lst (ys.map D.str))) (h3 : (ys.map (·.length)).sum + ys.length * a.length ≤ 16777216) (k : Q (.v (.str (Txt.join a ys))) ρ) : Di o x ρ Q:=⟨a,ys,h1,h2,h3,k⟩
theorem Dt {a b c d : Int} (h1 : dat x ρ = some (.tup [.int a,.int b])) (h2 : dat y ρ = some (.tup [.int c,.int d])) (k : Q (.v (.bl (Kt a b c d))) ρ) : JMy x y ρ Q:=⟨a,b,c,d,h1,h2,k⟩
theorem JZr {a b c d : Int} (h1 : dat x ρ = some (.tup [.int a,.int b])) (h2 : dat y ρ = some (.tup [.int c,.int d])) (k : Q (.v (.bl (Kt c d a b))) ρ) : JHf x y ρ Q:=⟨a,b,c,d,h1,h2,k⟩
theorem kitAny_nil {K : Fg} {t : Value} : PySem.W.kitAny K t [] = some false:=by
  simp only [PySem.W.kitAny]
end
end Vs
namespace PySem.W
open PySem.Calls PyProof.Rows
end PySem.W
namespace Vs
open PySem PySem.Spec L2 PyProof.Rows
variable [Tbs]
section
variable {EA : AX} {ρ ρ' : J0} {Q : AK}
def JXu (tab : Tab) (aa ab : AE) : AE:=fun EA ρ Q=>aa EA ρ fun x ρ1=>ab EA ρ1 fun y ρ2=>∃ C D fs gs sp sp2,dat x ρ2 = some (.obj C fs) ∧ dat y ρ2 = some (.obj D gs) ∧ tab.lookup C = some sp ∧ tab.lookup D = some sp2 ∧ U1 sp [x,y] EA ρ2 Q
end
section
variable {EA : AX} {ρ ρ' : J0} {Q : AK} {tab : Tab} {ae ab : AE} {x y : A} {C C2 : Addr} {sp sp2 : ASp}
def bdK (tab : Tab) (EA : AX) (Q : AK) (x y : A) (ρ : J0) : Prop:=∃ C D fs gs sp sp2,dat x ρ = some (.obj C fs) ∧ dat y ρ = some (.obj D gs) ∧ tab.lookup C = some sp ∧ tab.lookup D = some sp2 ∧ U1 sp [x,y] EA ρ Q
theorem Qs (k : ae EA ρ fun x ρ1=>ab EA ρ1 fun y ρ2=>bdK tab EA Q x y ρ2) : JXu tab ae ab EA ρ Q:=k
theorem JZs {fs gs : List (Str × D)} (h1 : dat x ρ = some (.obj C fs)) (h2 : dat y ρ = some (.obj C2 gs)) (h3 : tab.lookup C = some sp) (h4 : tab.lookup C2 = some sp2) (k : U1 sp [x,y] EA ρ Q) : bdK tab EA Q x y ρ:=⟨C,C2,fs,gs,sp,sp2,h1,h2,h3,h4,k⟩
end
section
variable {Pr : Program} {w : World} {K : Fg} {mg : Str → Option Value} {base : Heap} {nm : String} {k j : Nat} {tab : Tab}
structure BinDs (Pr : Program) (w : World) (K : Fg) (mg : Str → Option Value) (base : Heap) (nm : String) (k : Nat) (tab : Tab) : Prop where
  all : ∀ C sp,tab.lookup C = some sp → PySem.W.selfFirst K C = true ∧ PySem.W.findIn K (.ref C) (dunderR nm) = some none ∧ ∃ f fd ps,PySem.W.findIn K (.ref C) (PySem.dunder nm) = some (some (.ref f)) ∧ PySem.W.isFn K (.ref f) = true ∧ Binds K fd ps [] ∧ Fok Pr w K mg base k f fd ps sp
theorem BinDs.nil : BinDs Pr w K mg base nm k []:=⟨fun C sp h=>by simp at h⟩
theorem BinDs.cons {C f : Addr} {fd : FuncData} {ps : List Str} {sp : ASp} (h1 : PySem.W.selfFirst K C = true) (h2 : PySem.W.findIn K (.ref C) (dunderR nm) = some none) (h6 : PySem.W.findIn K (.ref C) (PySem.dunder nm) = some (some (.ref f))) (h7 : PySem.W.isFn K (.ref f) = true) (hb : Binds K fd ps []) (F : Fok Pr w K mg base j f fd ps sp) (hj : j ≤ k) (T : BinDs Pr w K mg base nm k tab) : BinDs Pr w K mg base nm k ((C,sp) :: tab):=⟨fun C' sp' e=>by
  rcases F4 e with ⟨rfl,rfl⟩ | e
  · exact ⟨h1,h2,f,fd,ps,h6,h7,hb,F.mono hj⟩
  · exact T.all C' sp' e⟩
end
end Vs
namespace Vs
open PySem PySem.Spec L2 PyProof.Rows
end Vs
namespace Vs
open PySem PySem.Spec L2 PyProof.Rows
variable [Tbs]
def JP0 (ao ae : AE) : AE:=fun EA ρ Q=>ao EA ρ fun o ρ1=>(∃ xs,dat o ρ1 = some (.lst xs)) ∧ ae EA ρ1 fun x ρ2=>∃ j xs ds,o = .loc j ∧ x = .lst ds ∧ ρ2[j]? = some (some (.lst xs)) ∧ xs.length + ds.length ≤ 100000 ∧ Q (.v .non) (ρ2.set j (some (.lst (xs ++ ds))))
section
variable {EA : AX} {ρ ρ' : J0} {Q : AK} {ao ae : AE} {x o : A}
def Qg (o x : A) (ρ : J0) (Q : AK) : Prop:=∃ j xs ds,o = .loc j ∧ x = .lst ds ∧ ρ[j]? = some (some (.lst xs)) ∧ xs.length + ds.length ≤ 100000 ∧ Q (.v .non) (ρ.set j (some (.lst (xs ++ ds))))
theorem JJd (k : ao EA ρ fun o ρ1=>isL o ρ1 (ae EA ρ1 fun x ρ2=>Qg o x ρ2 Q)) : JP0 ao ae EA ρ Q:=k
theorem Tv {j : Nat} {xs ds : List D} (h1 : ρ[j]? = some (some (.lst xs))) (h2 : xs.length + ds.length ≤ 100000) (k : Q (.v .non) (ρ.set j (some (.lst (xs ++ ds))))) : Qg (.loc j) (.lst ds) ρ Q:=⟨j,xs,ds,rfl,rfl,h1,h2,k⟩
end
end Vs
namespace Vs
open PySem PySem.Spec L2 PyProof.Rows
variable [Tbs]
def JF8 (ae : AE) : AI:=fun EA ρ Q=>ae EA ρ fun x ρ1=>Yl x ρ1 fun d ρ2=>∃ xs,(d = .lst xs ∨ d = .tup xs) ∧ Q xs.reverse (fun _=>True) ρ2
section
variable {EA : AX} {ρ : J0} {ae : AE} {x : A}
theorem JJl {QI : List D → (J0 → Prop) → J0 → Prop} (k : ae EA ρ fun x ρ1=>Yl x ρ1 fun d ρ2=>∃ xs,(d = .lst xs ∨ d = .tup xs) ∧ QI xs.reverse (fun _=>True) ρ2) : JF8 ae EA ρ QI:=k
end
end Vs
namespace Vs
open PySem PySem.Spec L2 PyProof.Rows
variable [Tbs]
def Bh : AR2:=aI CMulW fun i j=>.int (i * j)
theorem M9 {K : Fg} : Yu K (rI CMulW fun i j=>.int (i * j)) Bh:=Fv fun _ _=>rfl
theorem Oq : C2 Bh:=Fb
section
variable {x y : A} {i j : Int} {ρ : J0} {Q : AK}
theorem Mp (h1 : dat x ρ = some (.int i)) (h2 : dat y ρ = some (.int j)) (hc : CMulW i j) (k : Q (.v (.int (i * j))) ρ) : Bh x y ρ Q:=⟨i,j,h1,h2,hc,k⟩
end
end Vs
namespace Vs
open PySem PySem.Spec L2 PyProof.Rows
variable [Tbs]
def JMq (ae : AE) : AE:=fun EA ρ Q=>ae EA ρ fun x ρ1=>∃ xs,dat x ρ1 = some (.lst xs) ∧ Q (.v (.tup xs.reverse)) ρ1
section
variable {ae : AE} {x : A} {ρ : J0} {EA : AX} {Q : AK}
def JWk (x : A) (ρ : J0) (Q : AK) : Prop:=∃ xs,dat x ρ = some (.lst xs) ∧ Q (.v (.tup xs.reverse)) ρ
theorem C9 (k : ae EA ρ fun x ρ1=>JWk x ρ1 Q) : JMq ae EA ρ Q:=k
theorem JJj {xs : List D} (h : dat x ρ = some (.lst xs)) (k : Q (.v (.tup xs.reverse)) ρ) : JWk x ρ Q:=⟨xs,h,k⟩
end
end Vs
namespace PySem.W
open PySem.Calls PyProof.Rows
section
variable {prog : Program} {w : World} {A : Around} {E : Value → Shared → Prop} {s : Shared}
/-- the items of a tuple,taken into a new list -/
theorem JH7 {t : Addr} {ys : List Value} {R : List Value → Shared → Prop} (ht : s.heap.IsTuple t ys.toArray) (hz : ys.length ≤ sizeLine)
    (k : R ys { s with heap:=(s.heap.push (seqObj "list" #[] 0)).update s.heap.objs.size (Obj.mapSeq (· ++ ys.toArray)) }) : wpAny (model prog w) A (collect (.ref t)) R E s:=by
  obtain ⟨ob,g1,g2,c,g3⟩:=id ht
  unfold collect
  refine wpAny_bind (wpAny_runValue ?_)
  refine codeAny_builtin entry_proto_collect' ?_
  show wpAny _ _ (do again (.builtin "list.__iadd__" ⟨[← newList [],.ref t],[]⟩)) _ _ s
  refine wpAny_bind (wpAny_newList ?_)
  refine wpAny_pure ⟨Code.quiet_builtin _ (by decide +kernel),?_⟩
  refine codeAny_builtin entry_list_iadd' ?_
  show wpAny _ _ (Builtin.List.listExtendWith (.ref s.heap.objs.size) (.ref t) (.ref s.heap.objs.size)) _ _ { s with heap:=s.heap.push (seqObj "list" #[] 0) }
  unfold Builtin.List.listExtendWith
  have g1' : (s.heap.push (seqObj "list" #[] 0)).get? t = some ob:=Heap.get?_push_of_some _ g1
  refine wpAny_bind (wpAny_typeOf (T:="tuple") ⟨ob,g1',g2⟩ ?_)
  have e1 : (Value.type "tuple" == Value.type "tuple") = true:=by rfl
  rw [if_pos (by rw [e1]; simp)]
  refine wpAny_bind (listItems_at g1' g3 ?_)
  refine wpAny_bind ?_
  refine listItems_at (xs:=#[]) (n:=0) (Heap.get?_push_size _ rfl) rfl ?_
  rw [if_neg (by simp)]
  refine wpAny_bind ?_
  refine listUpdate_at (xs:=#[]) (n:=0) (Heap.get?_push_size _ rfl) rfl ?_ (Nat.zero_le _) ?_
  · refine wpAny_pure ?_
    show wpAny (model prog w) A (do
      let o ← load s.heap.objs.size
      match o.data with
      | .seq zs _=>pure zs.toList
      | _=>unsupported "internal:collect") R E { s with heap:=(s.heap.push (seqObj "list" #[] 0)).update s.heap.objs.size (Obj.mapSeq (· ++ ys.toArray)) }
    refine wpAny_bind ?_
    refine wpAny_load (get?_update_seq (Heap.get?_push_size _ rfl) _) ?_
    show wpAny _ _ (pure ((#[] : Array Value) ++ ys.toArray).toList) R E _
    have e2 : ((#[] : Array Value) ++ ys.toArray).toList = ys:=by simp
    rw [e2]
    exact wpAny_pure k
  · show (#[] ++ ys.toArray).size ≤ sizeLine + 1
    simp only [Array.size_append,List.size_toArray,List.length_nil]
    omega
variable {β : Type} {R : Value → β → Prop} {enc : β → PyData} {bs : List β}
theorem srt_tup {t : Addr} {ys : List Value} {P : Value → Shared → Prop} (ht : s.heap.IsTuple t ys.toArray) (e : EachIs R ys bs) (er : EachIs (fun v b=>∃ as,Reads s.heap v (enc b) as) ys bs) (hal : AllAlike (bs.map enc)) (hk : Sortable (bs.map enc)) (hz : bs.length ≤ sizeLine)
    (hu : ∀ b,b ∈ bs → A.units + 2 + (enc b).depth < cLine) (h : ∀ out,out.length = bs.length → EachIs R out (bs.mergeSort (dataLe false enc)) → P (.ref (s.heap.objs.size + 1)) { s with heap:=sortedAll s.heap ys (List.toArray out) }) :
    wpAny (model prog w) A (call (.builtin "sorted") [.ref t]) P E s:=by
  have er' : EachIs (fun v b=>∃ as,Reads (sortingHeap (copyHeap s.heap ys) (s.heap.objs.size + 1) ys) v (enc b) as) ys bs:=er.mono fun _ _ ⟨as,r⟩=>⟨as,PyProof.Rows.Reads.keeps (fun _ _=>sorting_copy_old) r⟩
  have hy : ys.length ≤ sizeLine:=by rw [e.length]; exact hz
  refine call_function_entry_kw kind_sorted plain_sorted entry_sorted (args_sorted1 _) ?_
  unfold Builtin.«sorted»
  refine wpAny_bind (m:=checkCount "sorted" 1 1 _) ?_
  refine wpAny_pure (wpAny_bind (JH7 ht hy ?_))
  refine wpAny_bind (wpAny_newList ?_ hy)
  have sz : ((s.heap.push (seqObj "list" #[] 0)).update s.heap.objs.size (Obj.mapSeq (· ++ ys.toArray))).objs.size = s.heap.objs.size + 1:=by rw [Heap.size_update,size_push']
  show wpAny _ _ _ _ _ { s with heap:=copyHeap s.heap ys }
  rw [sz]
  refine wpAny_bind (wpAny_holding ?_)
  refine wpAny_call_entry_kw slot_list_sort ⟨_,copyHeap_at s.heap ys,rfl⟩ entry_list_sort ?bd (args_list_sort _)
  case bd =>
    show wpAny (model prog w) A.in1.in1 (Builtin.«list.sort» ⟨[.ref (s.heap.objs.size + 1)],[]⟩) _ _ _
    have S:=SortsAt.data (prog:=prog) (w:=w) (A:=A.in1.in1) (s:={ s with heap:=sortingHeap (copyHeap s.heap ys) (s.heap.objs.size + 1) ys }) (each_map (R:=fun v d=>∃ as,Reads (sortingHeap (copyHeap s.heap ys) (s.heap.objs.size + 1) ys) v d as) enc er') hal hk (bound_map hu)
    refine wpAny_mono (list_sort_vals (s:={ s with heap:=copyHeap s.heap ys }) (copyHeap_at s.heap ys) S hy (P:=fun f s'=>f = .done (.ret .none) ∧ P (.ref (s.heap.objs.size + 1)) s') ⟨rfl,h _ (by rw [sortVals_length false rfl]; exact e.length) (sortVals_data false e er' hal)⟩) (fun f s' hf=>?_) fun _ _ e=>e
    obtain ⟨rfl,q⟩:=hf
    exact ⟨_,rfl,wpAny_pure ⟨_,rfl,q⟩⟩
end
end PySem.W
namespace Vs
open PySem PySem.Spec L2 PyProof.Rows
variable [Tbs]
def Ot (K : Fg) : List V → Hp → VK → Prop:=fun xs H Q=>∃ (a : Addr) (vs : List V) (ds : List D) (T : D → V → Prop),xs = [.ref a] ∧ SqT K H a vs ∧ V9 T ds vs ∧ (∀ d v,T d v → Rep K H d v) ∧ (∀ d ∈ ds,PlD 20 d) ∧ PySem.W.AllAlike (ds.map pd) ∧ PySem.W.Sortable (ds.map pd) ∧
  ∀ vs' p,V9 T (X1 ds) vs' → H p = none → Q (.ref p) (upd H p (.lst vs'))
section
variable {X : Cx} {P : Pm} {K : Fg} {pos : Pos}
theorem JJf {T : D → V → Prop} : ∀ {ds : List D} {vs : List V} {its : List Value},V9 T ds vs → Vals vs its → PySem.W.EachIs (fun u d=>∃ v,RelV v u ∧ T d v) its ds
  | [],vs,its,h,r=>by
    simp only [V9] at h
    subst h
    cases r
    exact .nil
  | d :: ds,vs,its,h,r=>by
    simp only [V9] at h
    obtain ⟨v,rr,rfl,h1,h2⟩:=h
    cases r with
    | cons ra rb=>exact .cons ⟨v,ra,h1⟩ (JJf h2 rb)
theorem JUk {T : D → V → Prop} : ∀ {ds : List D} {out : List Value},PySem.W.EachIs (fun u d=>∃ v,RelV v u ∧ T d v) out ds → ∃ vs',Vals vs' out ∧ V9 T ds vs'
  | [],out,h=>by cases h; exact ⟨[],.nil,by simp only [V9]⟩
  | d :: ds,out,h=>by
    cases h with
    | cons h1 h2 =>
      obtain ⟨v,ra,rb⟩:=h1
      obtain ⟨vs',z1,z2⟩:=JUk h2
      exact ⟨v :: vs',.cons ra z1,by simp only [V9]; exact ⟨v,vs',rfl,rb,z2⟩⟩
theorem JGo (hu : X.A.units + 64 < cLine) : CallR X (.builtin "sorted") (Ot X.K):=by
  intro pins s σ H xs us Q I r h
  obtain ⟨a,vs,ds,T,rfl,hs,ht,hT,hp,hal,hk,q⟩:=h
  obtain ⟨its,rv,hl,hz⟩:=I.tuple hs
  obtain ⟨u,rfl,ru⟩:=vals1 r
  obtain rfl : u = Value.ref a:=ru
  have e2 : ∀ {ds : List D} {its : List Value},(∀ d ∈ ds,PlD 20 d) → PySem.W.EachIs (fun u d=>∃ v,RelV v u ∧ T d v) its ds → PySem.W.EachIs (fun u d=>∃ as,Reads s.heap u (pd d) as) its ds:=by
    intro ds
    induction ds with
    | nil=>intro its _ h; cases h; exact .nil
    | cons d ds ih =>
      intro its hp h
      cases h with
      | cons h1 h2 =>
        obtain ⟨v,ra,rb⟩:=h1
        exact .cons (Dp.reads I _ v _ (V5 20 d v (hp d (by simp)) (hT d v rb)) ra) (ih (fun x hx=>hp x (by simp [hx])) h2)
  have hE:=JJf ht rv
  have lds : ds.length = its.length:=hE.length.symm
  have lvs:=rv.length
  refine PySem.W.srt_tup (R:=fun u d=>∃ v,RelV v u ∧ T d v) (enc:=pd) hl hE (e2 hp hE) hal hk (by omega) (fun d hd=>?_) fun out hlen ho=>?_
  · have:=(Vx 20 d (hp d hd)).2
    omega
  · obtain ⟨vs',z1,z2⟩:=JUk ho
    obtain ⟨ep,he'⟩:=PyProof.Rows.sortedAll_at s.heap its out.toArray
    have hlo:=z1.length
    exact ⟨.ref _,upd H (s.heap.objs.size + 1) (.lst vs'),I.laid (t':=s.toks) (fun _ _=>PyProof.Rows.sortedAll_old) (Nat.le_succ _) ⟨by omega,out,ep,z1,he'⟩,rfl,q _ _ z2 (I.hok.fresh (Nat.le_succ _))⟩
theorem JBl (hu : X.A.units + 64 < cLine) : CallR X (.builtin "sorted") (fun xs H Q=>Kz X.K xs H Q ∨ Ot X.K xs H Q):=CallR.or (T2 hu) (JGo hu)
def Ki : ARs:=fun xs ρ Q=>∃ x d,xs = [x] ∧ dat x ρ = some d ∧ match d with
  | .lst ds=>(∀ d ∈ ds,PlD 20 d) ∧ PySem.W.AllAlike (ds.map pd) ∧ PySem.W.Sortable (ds.map pd) ∧ Q (.lst (X1 ds)) ρ
  | .tup ds=>(∀ d ∈ ds,PlD 20 d) ∧ PySem.W.AllAlike (ds.map pd) ∧ PySem.W.Sortable (ds.map pd) ∧ Q (.lst (X1 ds)) ρ
  | _=>False
theorem JMx : Vy K (fun xs H Q=>Kz K xs H Q ∨ Ot K xs H Q) Ki:=by
  intro c τ S H σ ρ vs xs Q R hl s q k
  obtain ⟨x,d,rfl,h1,q⟩:=q
  obtain ⟨v,rfl,s1⟩:=one_arg hl s
  obtain ⟨y0,g0,r0,e0⟩:=s1.thing (List.mem_cons_self ..) h1
  cases d with
  | lst ds =>
    obtain ⟨p,vs,rfl,h3,h4⟩:=Vw r0 e0 s1.le
    obtain ⟨q1,q2,q3,q4⟩:=q
    refine .inl ⟨p,vs,ds,Rep K S,rfl,h3,eachT_rep.mpr h4,fun d v r=>Rep.le s1.le d v r,q1,q2,q3,fun vs' p' hv hp=>?_⟩
    exact k _ _ ⟨S,ρ,_,s1.drop.newList hp (eachT_rep.mp hv),q4⟩
  | tup ds =>
    obtain ⟨p,vs,rfl,_,h3,h4⟩:=Xk r0 e0 s1.le
    obtain ⟨q1,q2,q3,q4⟩:=q
    refine .inr ⟨p,vs,ds,Rep K S,rfl,h3,eachT_rep.mpr h4,fun d v r=>Rep.le s1.le d v r,q1,q2,q3,fun vs' p' hv hp=>?_⟩
    exact k _ _ ⟨S,ρ,_,s1.drop.newList hp (eachT_rep.mp hv),q4⟩
  | _=>cases q
theorem JLq : Cs Ki:=fun {ι} _ x ρ Q Q' h k=>by
  obtain ⟨i,_⟩:=i0 (ι:=ι)
  obtain ⟨a,d,rfl,h1,h2⟩:=h i
  refine ⟨a,d,rfl,h1,?_⟩
  cases d with
  | lst ds =>
    refine ⟨h2.1,h2.2.1,h2.2.2.1,k _ _ fun i=>?_⟩
    obtain ⟨b,e,g0,g1,q⟩:=h i
    cases g0
    rw [h1] at g1
    cases g1
    exact q.2.2.2
  | tup ds =>
    refine ⟨h2.1,h2.2.1,h2.2.2.1,k _ _ fun i=>?_⟩
    obtain ⟨b,e,g0,g1,q⟩:=h i
    cases g0
    rw [h1] at g1
    cases g1
    exact q.2.2.2
  | _=>exact h2.elim
end
section
variable {ρ : J0} {Q : AK} {x : A} {ds : List D}
theorem JPg (h1 : dat x ρ = some (.tup ds)) (h2 : ∀ d ∈ ds,PlD 20 d) (h3 : PySem.W.AllAlike (ds.map pd)) (h4 : PySem.W.Sortable (ds.map pd)) (k : Q (.lst (X1 ds)) ρ) : Ki [x] ρ Q:=⟨x,_,rfl,h1,h2,h3,h4,k⟩
end
end Vs
namespace Vs
open PySem PySem.Spec L2 PyProof.Rows
variable [Tbs]
def plainT : List String:=["NoneType","str","int","bool","tuple"]
section
variable {Pr : Program} {w : World} {K : Fg} {mg : Str → Option Value} {base : Heap} {k j : Nat} {tab : Tab}
structure EqTs (Pr : Program) (w : World) (K : Fg) (mg : Str → Option Value) (base : Heap) (k : Nat) (tab : Tab) : Prop where
  all : ∀ C sp,tab.lookup C = some sp → (PySem.W.findIn K (.ref C) "__ne__" = some (some (.builtin "object.__ne__")) ∧ PySem.W.mroIn K C (.type "object") = some true) ∧ (∀ T ∈ plainT,PySem.W.notFirst K C (.type T) = true) ∧ ∃ f fd ps,PySem.W.findIn K (.ref C) "__eq__" = some (some (.ref f)) ∧ PySem.W.isFn K (.ref f) = true ∧ Binds K fd ps [] ∧ Fok Pr w K mg base k f fd ps sp
theorem EqTs.nil : EqTs Pr w K mg base k []:=⟨fun C sp h=>by simp at h⟩
theorem EqTs.cons {C f : Addr} {fd : FuncData} {ps : List Str} {sp : ASp} (h1 : PySem.W.findIn K (.ref C) "__ne__" = some (some (.builtin "object.__ne__")) ∧ PySem.W.mroIn K C (.type "object") = some true) (h2 : (plainT.all fun T=>PySem.W.notFirst K C (.type T)) = true) (h6 : PySem.W.findIn K (.ref C) "__eq__" = some (some (.ref f))) (h7 : PySem.W.isFn K (.ref f) = true) (hb : Binds K fd ps []) (F : Fok Pr w K mg base j f fd ps sp) (hj : j ≤ k) (T : EqTs Pr w K mg base k tab) : EqTs Pr w K mg base k ((C,sp) :: tab):=⟨fun C' sp' e=>by
  rcases F4 e with ⟨rfl,rfl⟩ | e
  · exact ⟨h1,fun T hT=>List.all_eq_true.mp h2 T hT,f,fd,ps,h6,h7,hb,F.mono hj⟩
  · exact T.all C' sp' e⟩
end
end Vs
namespace Vs
open PySem PySem.Spec L2 PyProof.Rows
variable [Tbs]
section
variable {X : Cx} {P : Pm} {pos : Pos}
def JKj (C : Addr) : AS:=fun DA ρ=>DA.ex C [] ρ
end
section
variable {DA : AEnds} {ρ : J0} {C : Addr}
theorem C8 (k : DA.ex C [] ρ) : JKj C DA ρ:=k
end
end Vs
set_option maxHeartbeats 4000000
namespace Vs
open PySem PySem.Spec PyProof.Rows L2
end Vs
namespace Vs
open PySem PySem.Spec PyProof.Rows L2
variable [Tbs]
/-- xs += e,a list of one's own and a new list -/
def JM6 (i : Nat) (ae : AE) : AS:=fun DA ρ=>(∃ xs,ρ[i]? = some (some (.lst xs))) ∧ ae DA.ex ρ fun y ρ1=>∃ xs ds,y = .lst ds ∧ ρ1[i]? = some (some (.lst xs)) ∧ xs.length + ds.length ≤ 100000 ∧ DA.nx (ρ1.set i (some (.lst (xs ++ ds))))
section
variable {EA : AX} {ρ ρ' : J0} {Q : AK} {ae : AE} {y : A} {j : Nat} {DA : AEnds}
def JYm (j : Nat) (y : A) (ρ : J0) (nx : J0 → Prop) : Prop:=∃ xs ds,y = .lst ds ∧ ρ[j]? = some (some (.lst xs)) ∧ xs.length + ds.length ≤ 100000 ∧ nx (ρ.set j (some (.lst (xs ++ ds))))
theorem JWi {xs : List D} (h : ρ[j]? = some (some (.lst xs))) (k : ae DA.ex ρ fun y ρ1=>JYm j y ρ1 DA.nx) : JM6 j ae DA ρ:=⟨⟨xs,h⟩,k⟩
theorem Rl {xs ds : List D} {nx : J0 → Prop} (h1 : ρ[j]? = some (some (.lst xs))) (h2 : xs.length + ds.length ≤ 100000) (k : nx (ρ.set j (some (.lst (xs ++ ds))))) : JYm j (.lst ds) ρ nx:=⟨xs,ds,rfl,h1,h2,k⟩
end
end Vs
set_option maxHeartbeats 1000000
namespace Vs
open PySem PySem.Spec PyProof.Rows L2
variable [Tbs]
def Hx (f : Str) (y : A) : List (Str × A) → List (Str × A)
  | []=>[(f,y)]
  | (g,x) :: r=>if g = f then (g,y) :: r else (g,x) :: Hx f y r
section
variable {K : Fg} {S H : Hp}
theorem RepAF.len : ∀ {xs : List (Str × A)} {vs : List (Str × V)} {g : List Addr},RepAF K S H xs vs g → vs.length = xs.length
  | [],vs,g,h=>by
    simp only [RepAF] at h
    rw [h.1]; rfl
  | (k,x) :: xs,vs,g,h=>by
    simp only [RepAF] at h
    obtain ⟨v,r,g1,g2,rfl,_,h2,_⟩:=h
    simp [h2.len]
end
section
variable {X : Cx} {P : Pm} {K : Fg} {pos : Pos}
/-- o.f = e,e kept as it is -/
def JOv (C : Addr) (f : Str) (av ao : AE) : AS:=fun DA ρ=>av DA.ex ρ fun x ρ1=>Wm x ρ1 fun y ρ2=>ao DA.ex ρ2 fun o ρ3=>∃ i p fs t,Uk o ρ3 = some (i,p,.obj C fs) ∧ fs.length ≤ 100 ∧ ρ3[i]? = some (some t) ∧ DA.nx (ρ3.set i (some (t.upd p (W0 o (.obj C (Hx f y fs))))))
def Oh (C : Addr) (f : Str) : AR1:=fun x ρ Q=>∃ i p fs z,Uk x ρ = some (i,p,.obj C fs) ∧ Zs fs f = some z ∧ outI x i p (.obj C fs) (.f f) z ρ Q
end
end Vs
namespace Vs
open PySem PySem.Spec PyProof.Rows L2
variable [Tbs]
section
variable {K : Fg} {S H : Hp}
def X0 (kvs : List (Key × A)) (k : Key) : List (Key × A):=kvs.filter fun q=>decide (q.1 ≠ k)
theorem RepAK.del {k : Key} : ∀ {kvs : List (Key × A)} {ws : List (Key × V)} {g : List Addr},RepAK K S H kvs ws g → ∃ fp',RepAK K S H (X0 kvs k) (dropK ws k) fp' ∧ fp'.Sublist g
  | [],ws,g,h=>by
    simp only [RepAK] at h
    obtain ⟨rfl,rfl⟩:=h
    refine ⟨[],?_,List.Sublist.refl _⟩
    show RepAK K S H [] [] []
    simp only [RepAK]
    exact ⟨trivial,trivial⟩
  | (k',x) :: r,ws,g,h=>by
    simp only [RepAK] at h
    obtain ⟨v,r',g1,g2,rfl,h1,h2,rfl⟩:=h
    obtain ⟨fp',b1,b2⟩:=RepAK.del (k:=k) h2
    unfold X0 dropK at b1 ⊢
    rw [List.filter_cons,List.filter_cons]
    by_cases e : k' = k
    · rw [if_neg (by simpa using e),if_neg (by simpa using e)]
      exact ⟨fp',b1,b2.trans (List.sublist_append_right ..)⟩
    · rw [if_pos (by simpa using e),if_pos (by simpa using e)]
      refine ⟨g1 ++ fp',?_,List.Sublist.append (List.Sublist.refl _) b2⟩
      simp only [RepAK]
      exact ⟨v,_,g1,fp',rfl,h1,b1,rfl⟩
end
section
variable {X : Cx} {P : Pm} {K : Fg} {pos : Pos}
def JMw (ao ai : AE) : AS:=fun DA ρ=>ao DA.ex ρ fun o ρ1=>ai DA.ex ρ1 fun iv ρ2=>∃ i p kvs d k t,Uk o ρ2 = some (i,p,.nd kvs) ∧ dat iv ρ2 = some d ∧ keyD d = some k ∧ (W8 kvs k).isSome = true ∧ ρ2[i]? = some (some t) ∧ DA.nx (ρ2.set i (some (t.upd p (W0 o (.nd (X0 kvs k))))))
def JBh : AE:=fun _ ρ Q=>Q (.nd []) ρ
end
end Vs
namespace Vs
open PySem PySem.Spec PyProof.Rows L2
variable [Tbs]
section
variable {EA : AX} {ρ : J0} {Q : AK} {DA : AEnds} {K : Fg} {i j : Nat} {p : List Stp} {x y t z n : A} {w w' : V} {C : Addr} {f : Str} {fs : List (Str × A)} {kvs : List (Key × A)} {d : D} {k0 : Key} {st : Stp}
theorem An (h1 : ρ[j]? = some (some (.obj C fs))) (h2 : Zs fs f = some (.v d)) (k : Q (.v d) ρ) : Oh C f (.loc j) ρ Q:=⟨j,[],fs,_,Wq h1,h2,k⟩
theorem JYf (h1 : ρ[j]? = some (some (.obj C fs))) (h2 : Zs fs f = some (.cel w z)) (k : Q (.pth j [.f f] w) ρ) : Oh C f (.loc j) ρ Q:=⟨j,[],fs,_,Wq h1,h2,k⟩
theorem JO3 (hz : Ba z = true) (k : ∃ t,ρ[i]? = some (some t) ∧ ∀ w,Q (.pth i (p ++ [st]) w) (ρ.set i (some (t.upd p (W0 x (Zg n st (.cel w z))))))) : outI x i p n st z ρ Q:=by
  cases z with
  | v _=>cases hz
  | loc _=>cases hz
  | cel _ _=>cases hz
  | pth _ _ _=>cases hz
  | lst _=>exact k
  | dic _=>exact k
  | obj _ _=>exact k
  | nl _=>exact k
  | nd _=>exact k
  | nt _=>exact k
theorem A3 (h1 : ρ[j]? = some (some (.obj C fs))) (h2 : Zs fs f = some z) (h3 : Ba z = true) (k : ∀ w,Q (.pth j [.f f] w) (ρ.set j (some (.obj C (Bu fs f (.cel w z)))))) : Oh C f (.loc j) ρ Q :=
  ⟨j,[],fs,z,Wq h1,h2,JO3 h3 ⟨_,h1,k⟩⟩
def JW0 (C : Addr) (f : Str) (o y : A) (ρ : J0) (nx : J0 → Prop) : Prop:=∃ i p fs t,Uk o ρ = some (i,p,.obj C fs) ∧ fs.length ≤ 100 ∧ ρ[i]? = some (some t) ∧ nx (ρ.set i (some (t.upd p (W0 o (.obj C (Hx f y fs))))))
theorem C3 {av ao : AE} (k : av DA.ex ρ fun x ρ1=>Wm x ρ1 fun y ρ2=>ao DA.ex ρ2 fun o ρ3=>JW0 C f o y ρ3 DA.nx) : JOv C f av ao DA ρ:=k
theorem Ra {nx : J0 → Prop} (h1 : ρ[j]? = some (some (.obj C fs))) (h2 : fs.length ≤ 100) (k : nx (ρ.set j (some (.obj C (Hx f y fs))))) : JW0 C f (.loc j) y ρ nx:=⟨j,[],fs,_,Wq h1,h2,h1,k⟩
theorem JX5 {k : A → J0 → Prop} (q : k (.obj C fs) ρ) : Wm (.obj C fs) ρ k:=q
theorem Ac {k : A → J0 → Prop} (q : k (.nd kvs) ρ) : Wm (.nd kvs) ρ k:=q
theorem Aw (k : Q (.nd []) ρ) : JBh EA ρ Q:=k
def JHb (o iv : A) (ρ : J0) (nx : J0 → Prop) : Prop:=∃ i p kvs d k t,Uk o ρ = some (i,p,.nd kvs) ∧ dat iv ρ = some d ∧ keyD d = some k ∧ (W8 kvs k).isSome = true ∧ ρ[i]? = some (some t) ∧ nx (ρ.set i (some (t.upd p (W0 o (.nd (X0 kvs k))))))
theorem JWj {ao ai : AE} (k : ao DA.ex ρ fun o ρ1=>ai DA.ex ρ1 fun iv ρ2=>JHb o iv ρ2 DA.nx) : JMw ao ai DA ρ:=k
end
end Vs
namespace L2
open PySem PySem.W PySem.Calls PyProof.Rows
section
variable {X : Cx}
theorem JMb {i : Nat} {y : Str} {py : Pos} {kx elt tg iter : Expr} {ifs : List Expr} {scope : Scope} {own : List (Str × Nat)} {pos spos : Pos} {wi : TI} {g : TG} {tt : TT} {tk te : TE} (hc : X.calm = true) (hN : X.N.Nodup) (hy : X.N[i]? = some y) (hyl : X.env.scope.names.lookup y = some .local)
    (hsw : swapsWith (.DictComp kx elt [⟨tg,iter,ifs,0⟩] scope pos) (some (.Name y py)) spos.line X.env = pure true) (hi : PI X tg iter wi) (ok : BlkOk X.N X.env.scope scope own)
    (hg : ∀ (s : Shared) (H : Hp) (C : Addr) (cl : List (Str × Addr)) (fp : List Addr),PG (X.blk s H scope (compEnvC scope cl C X.env) fp) tg g) (ht : ∀ (s : Shared) (H : Hp) (C : Addr) (cl : List (Str × Addr)) (fp : List Addr),PTs (X.blk s H scope (compEnvC scope cl C X.env) fp) ifs tt)
    (hk : ∀ (s : Shared) (H : Hp) (C : Addr) (cl : List (Str × Addr)) (fp : List Addr),PE (X.blk s H scope (compEnvC scope cl C X.env) fp) kx tk)
    (he : ∀ (s : Shared) (H : Hp) (C : Addr) (cl : List (Str × Addr)) (fp : List Addr),PE (X.blk s H scope (compEnvC scope cl C X.env) fp) elt te) (hs : ∀ x,foldedSetIterable iter X.env x = pure x:=by intro _; rfl) :
    PS X (.Assign [.Name y py] (.DictComp kx elt [⟨tg,iter,ifs,0⟩] scope pos) spos) (tAsg (tDc wi g tt tk te (own.map (·.2))) (gName i)):=by
  refine ⟨fun pins s σ H D I h=>?_⟩
  rw [exec_Assign_Name_used _ _ _ _ hsw]
  refine wpAny_bind (wpAny_standAt (wpAny_bind ?_))
  show wpAny _ X.A (do let _ ← comprehension (.DictComp kx elt [⟨tg,iter,ifs,0⟩] scope pos) scope X.env (firstIterPos [⟨tg,iter,ifs,0⟩] pos) newDict false (eval iter X.env) (some (assign (.Name y py) X.env))) _ _ s
  have h : tDc wi g tt tk te (own.map (·.2)) σ H (fun x H1=>gName i x σ H1 D.nx):=h
  refine wpAny_bind (thn (dc_core (Qf:=fun _ s'=>SP X pins D .next s') hc hN I hi ok hg ht hk he hs h fun L C s' m H' I' q hn f=>?_) fun _ s' hq=>wpAny_pure (wpAny_pure hq))
  show wpAny _ _ (assign (.Name y py) X.env (.ref L)) _ _ _
  refine wpAny_assign_Name (store_ok2 (v:=V.ref L) I' hN hy (.inl hyl) rfl (fun s2 I2 ⟨a,sb,ha⟩=>?_) (.inr hyl))
  obtain ⟨f0,f1,f2,f3,f4,f5⟩:=f
  have haC : C ≠ a:=by
    rcases ha with z | z
    · rw [z]; exact f1
    · exact fun e=>f4 y a z e.symm
  refine ⟨m,hn.sameBut sb haC,fun h3 sb3=>?_⟩
  exact ⟨_,H',I2.turned (t':=s2.toks) (fun b o hb e=>(sb3.2 b hb).trans e) f0 f1 f3 f4 f5,q⟩
theorem JMu {kx elt : Expr} {gs : List Comprehension} {scope : Scope} {pos py : Pos} {y : Str} {l : Nat} {env : Env} (hk : env.scope.kind = .function) (hy : env.scope.names.lookup y = some .local) (hl : (py.line == pos.line) = true)
    (ha : (scope.names.any fun (n,k)=>n == y && (k == .local || k == .cell)) = false) : swapsWith (.DictComp kx elt gs scope pos) (some (.Name y py)) l env = pure true:=by
  have ky : env.kindOf y = some .local:=hy
  have hb : env.blockKind = .function:=by unfold Env.blockKind; rw [hk]; rfl
  unfold swapsWith
  simp only [hb,ky,ha,Expr.pos,hl]
  rfl
end
end L2
namespace Vs
open PySem PySem.Spec PyProof.Rows L2
variable [Tbs]
section
variable {X : Cx} {P : Pm} {K : Fg} {pos : Pos}
theorem JHc {i : Nat} {y : Str} {py : Pos} {kx elt tg iter : Expr} {ifs : List Expr} {scope : Scope} {ai : AI} {ag : AG} {at_ : AT} {ak ae : AE} {ws : List Nat} {spos : Pos} (own : List (Str × Nat)) (hc : X.calm = true) (hN : X.N.Nodup) (hy : X.N[i]? = some y) (hyl : X.env.scope.names.lookup y = some .local) (hyO : i ∉ P.O)
    (hsw : swapsWith (.DictComp kx elt [⟨tg,iter,ifs,0⟩] scope pos) (some (.Name y py)) spos.line X.env = pure true) (ok : BlkOk X.N X.env.scope scope own) (hi : QI X P tg iter ai)
    (hg : ∀ (s : Shared) (H : Hp) (C : Addr) (cl : List (Str × Addr)) (fp : List Addr),QG (X.blk s H scope (compEnvC scope cl C X.env) fp) (Pn P) tg ag ws) (ht : ∀ (s : Shared) (H : Hp) (C : Addr) (cl : List (Str × Addr)) (fp : List Addr),QTs (X.blk s H scope (compEnvC scope cl C X.env) fp) (Pn P) ifs at_)
    (hk : ∀ (s : Shared) (H : Hp) (C : Addr) (cl : List (Str × Addr)) (fp : List Addr),QE (X.blk s H scope (compEnvC scope cl C X.env) fp) (Pn P) kx ak)
    (he : ∀ (s : Shared) (H : Hp) (C : Addr) (cl : List (Str × Addr)) (fp : List Addr),QE (X.blk s H scope (compEnvC scope cl C X.env) fp) (Pn P) elt ae) (hO : ∀ v ∈ own.map (·.2),v ∉ P.O) (hws : ∀ i ∈ ws,i ∈ own.map (·.2)) (hs : ∀ x,foldedSetIterable iter X.env x = pure x:=by intro _; rfl) :
    QS X P (.Assign [.Name y py] (.DictComp kx elt [⟨tg,iter,ifs,0⟩] scope pos) spos) (Ym i (Ud (aDc ai ag at_ ak ae (own.map (·.2))))):=by
  obtain ⟨wi,pi,si⟩:=hi.ex
  refine ⟨_,JMb hc hN hy hyl hsw pi ok (fun s H C cl fp=>Ni (hg s H C cl fp) rfl) (fun s H C cl fp=>Mz (ht s H C cl fp) rfl) (fun s H C cl fp=>Gx (hk s H C cl fp) rfl) (fun s H C cl fp=>Gx (he s H C cl fp) rfl) hs,fun c D DA ho hw l S H σ ρ st q=>?_⟩
  refine JYx hO hws si Me Mc Fh Fh c DA.ex ho hw [] S H σ ρ _ _ st q fun v H1 ⟨S1,ρ1,y,s1,q1⟩=>?_
  obtain ⟨S2,d,ρ2,sm,s2,q2⟩:=W9 s1 q1
  exact JUp s2 (ho.ne hyO) q2 fun S' ρ' s3 q3=>l.nx S' H1 _ ρ' s3 q3
end
end Vs
namespace Vs
open PySem PySem.Spec PyProof.Rows L2
end Vs
namespace Vs
open PySem PySem.Spec PyProof.Rows L2
variable [Tbs]
def Dr (o : A) (ρ : J0) (Q : AK) : Prop:=∃ i p xs z t,Uk o ρ = some (i,p,.lst xs) ∧ xs[xs.length - 1]? = some z ∧ ρ[i]? = some (some t) ∧ Q (.v z) (ρ.set i (some (t.upd p (W0 o (.lst xs.dropLast)))))
def JNe (ao : AE) : AE:=fun EA ρ Q=>ao EA ρ fun o ρ1=>Dr o ρ1 Q
section
variable {EA : AX} {ρ : J0} {Q : AK}
theorem D6 {ao : AE} (k : ao EA ρ fun o ρ1=>Dr o ρ1 Q) : JNe ao EA ρ Q:=k
end
end Vs
namespace Vs
open PySem PySem.Spec PyProof.Rows L2
variable [Tbs]
section
variable {K : Fg} {c : Ctx} {S H : Hp} {σ : L2.St} {ρ : J0} {τ : List (V × A)} {v : V} {x n : A} {i : Nat} {p : List Stp}
/-- an item is taken out of a dict -/
theorem RepAK.pick {k : Key} {z : A} : ∀ {kvs : List (Key × A)} {ws : List (Key × V)} {g : List Addr},RepAK K S H kvs ws g → W8 kvs k = some z → ∃ vz gz fp' r,valV ws k = some vz ∧ RepA K S H z vz gz ∧ RepAK K S H (X0 kvs k) (dropK ws k) fp' ∧ g.Perm (gz ++ r) ∧ fp'.Sublist r
  | [],ws,g,h,e=>by simp [W8] at e
  | (k',y) :: r0,ws,g,h,e=>by
    simp only [RepAK] at h
    obtain ⟨v,r',g1,g2,rfl,h1,h2,rfl⟩:=h
    simp only [W8] at e
    by_cases hk : k' = k
    · rw [if_pos hk] at e
      cases e
      obtain ⟨fp',b1,b2⟩:=RepAK.del (k:=k) h2
      refine ⟨v,g1,fp',g2,valV_pos hk,h1,?_,List.Perm.refl _,b2⟩
      unfold X0 dropK at b1 ⊢
      rw [List.filter_cons,List.filter_cons,if_neg (by simpa using hk),if_neg (by simpa using hk)]
      exact b1
    · rw [if_neg hk] at e
      obtain ⟨vz,gz,fp',r1,c1,c2,c3,c4,c5⟩:=RepAK.pick h2 e
      refine ⟨vz,gz,g1 ++ fp',g1 ++ r1,by rw [valV_neg hk]; exact c1,c2,?_,?_,List.Sublist.append (List.Sublist.refl _) c5⟩
      · unfold X0 dropK at c3 ⊢
        rw [List.filter_cons,List.filter_cons,if_pos (by simpa using hk),if_pos (by simpa using hk)]
        simp only [RepAK]
        exact ⟨v,_,g1,fp',rfl,h1,c3,rfl⟩
      · refine (List.Perm.append_left g1 c4).trans ?_
        rw [← List.append_assoc,← List.append_assoc]
        exact List.Perm.append_right r1 List.perm_append_comm
end
def Et (o iv : A) (ρ : J0) (Q : AK) : Prop:=∃ i p kvs d k z t,Uk o ρ = some (i,p,.nd kvs) ∧ dat iv ρ = some d ∧ keyD d = some k ∧ W8 kvs k = some z ∧ Yg z = false ∧ ρ[i]? = some (some t) ∧ Q z (ρ.set i (some (t.upd p (W0 o (.nd (X0 kvs k))))))
def M0 (o : A) (ρ : J0) : Prop:=∃ i p kvs,Uk o ρ = some (i,p,.nd kvs)
def JPd (ao ai : AE) : AE:=fun EA ρ Q=>ao EA ρ fun o ρ1=>M0 o ρ1 ∧ ai EA ρ1 fun iv ρ2=>Et o iv ρ2 Q
section
variable {EA : AX} {ρ : J0} {Q : AK}
theorem T8 {ao ai : AE} (k : ao EA ρ fun o ρ1=>M0 o ρ1 ∧ ai EA ρ1 fun iv ρ2=>Et o iv ρ2 Q) : JPd ao ai EA ρ Q:=k
theorem El {j : Nat} {kvs : List (Key × A)} {R : Prop} (h1 : ρ[j]? = some (some (.nd kvs))) (k : R) : M0 (.loc j) ρ ∧ R:=⟨⟨j,[],kvs,Wq h1⟩,k⟩
end
end Vs
namespace Vs
open PySem PySem.Spec PyProof.Rows L2
variable [Tbs]
section
variable {K : Fg} {X : Cx}
def mx3 (i j k : Int) : Int:=if j > i then (if k > j then k else j) else (if k > i then k else i)
def mn3 (i j k : Int) : Int:=if j < i then (if k < j then k else j) else (if k < i then k else i)
def JXy : ARs:=fun xs ρ Q=>∃ x y z i j k,xs = [x,y,z] ∧ dat x ρ = some (.int i) ∧ dat y ρ = some (.int j) ∧ dat z ρ = some (.int k) ∧ Q (.v (.int (mx3 i j k))) ρ
def JOs : ARs:=fun xs ρ Q=>∃ x y z i j k,xs = [x,y,z] ∧ dat x ρ = some (.int i) ∧ dat y ρ = some (.int j) ∧ dat z ρ = some (.int k) ∧ Q (.v (.int (mn3 i j k))) ρ
end
section
variable {ρ : J0} {Q : AK} {x y z : A} {i j k : Int}
theorem JJc (h1 : dat x ρ = some (.int i)) (h2 : dat y ρ = some (.int j)) (h3 : dat z ρ = some (.int k)) (q : Q (.v (.int (mx3 i j k))) ρ) : JXy [x,y,z] ρ Q:=⟨x,y,z,i,j,k,rfl,h1,h2,h3,q⟩
theorem Ts (h1 : dat x ρ = some (.int i)) (h2 : dat y ρ = some (.int j)) (h3 : dat z ρ = some (.int k)) (q : Q (.v (.int (mn3 i j k))) ρ) : JOs [x,y,z] ρ Q:=⟨x,y,z,i,j,k,rfl,h1,h2,h3,q⟩
end
end Vs
namespace Vs
open PySem PySem.Spec PyProof.Rows L2
variable [Tbs]
def JYd (p : Key × D) : D:=keyOf p.1
section
variable {X : Cx} {P : Pm} {K : Fg} {pos : Pos}
def JKp (i : Nat) (ag : AG) (ab : AS) : AS:=fun DA ρ=>∃ kvs,ρ[i]? = some (some (.v (.dic kvs))) ∧ forA (fun _=>True) ag ab { DA with ex:=noX } (kvs.map JYd) ρ
end
section
variable {b : AS} {ag : AG}
theorem JY3 {DA : AEnds} {ρ : J0} {i : Nat} {abd : AS} {kvs : List (Key × D)} (h : ρ[i]? = some (some (.v (.dic kvs)))) (k : forA (fun _=>True) ag abd { DA with ex:=noX } (kvs.map JYd) ρ) : JKp i ag abd DA ρ:=⟨kvs,h,k⟩
end
end Vs
namespace Vs
open PySem PySem.Spec PyProof.Rows L2
end Vs
namespace PySem
open PySem.W PySem.SeqAt
open AutoSeq1 (wpAny_loadPart')
end PySem
namespace Vs
open PySem PySem.Spec PyProof.Rows L2
variable [Tbs]
section
variable {K : Fg} {X : Cx} {n : Nat}
def GkZ (C : Addr) (sp : ASp) (C' : Addr) (sp' : ASp) (d : D) : Prop:=GkD C sp d ∨ GkC C' sp' d
def GOkZ (Pr : Program) (w : World) (K : Fg) (mg : Str → Option Value) (base : Heap) (d : D) : Prop:=∃ C sp k C' sp' k',k ≤ 1 ∧ k' ≤ 4 ∧ @EqC tbs0 Pr w K mg base C k sp ∧ @EqC tbs0 Pr w K mg base C' k' sp' ∧ GkZ C sp C' sp' d
theorem GOkZ.eqG {d : D} (h : GOkZ X.prog X.w X.K X.mg X.base d) : EqG X 4 (Vk X.K d):=by
  obtain ⟨C,sp,k,C',sp',k',hk,hk',T,T',h⟩:=h
  rcases h with (h | ⟨kvs,rfl,h1,h2⟩) | h
  · exact (P9 T (by omega) d h).eqG
  · exact (Ag h1 h2).mono (by omega)
  · exact (P9 T' hk' d h).eqG
end
end Vs
namespace Vs
open PySem PySem.Spec L2 PyProof.Rows
variable [Tbs]
def X5 (xs ys : List D) : List D:=(xs.zip ys).map fun p=>.tup [p.1,p.2]
theorem JMz {xs ys : List D} {i : Nat} {d : D} (h : (X5 xs ys)[i]? = some d) : ∃ x y,xs[i]? = some x ∧ ys[i]? = some y ∧ d = .tup [x,y]:=by
  unfold X5 at h
  rw [List.getElem?_map] at h
  cases e : (xs.zip ys)[i]? with
  | none=>rw [e] at h; cases h
  | some p =>
    rw [e] at h
    obtain ⟨h1,h2⟩:=List.getElem?_zip_eq_some.mp e
    exact ⟨p.1,p.2,h1,h2,(Option.some.inj h).symm⟩
end Vs
set_option maxHeartbeats 2000000
namespace Vs
open PySem PySem.Spec PyProof.Rows L2 PpSet
end Vs
namespace Vs
open PySem PySem.Spec PyProof.Rows L2 PpSet
end Vs
namespace Vs
open PySem PySem.Spec PyProof.Rows L2 PpSet
end Vs
namespace Vs
open PySem PySem.Spec PyProof.Rows L2 PpSet
end Vs
namespace Vs
open PySem PySem.Spec PyProof.Rows L2 PpSet
end Vs
namespace Vs
open PySem PySem.Spec PyProof.Rows L2 PpSet
end Vs
namespace Vs
open PySem PySem.Spec PyProof.Rows L2
end Vs
set_option maxHeartbeats 1000000
namespace Vs
open PySem PySem.Spec PyProof.Rows L2 PpSet
end Vs
namespace Vs
open PySem PySem.Spec PyProof.Rows L2
end Vs
namespace Vs
open PySem PySem.Spec PyProof.Rows L2
variable [Tbs]
/-- x -= e,numbers -/
def P7 (i : Nat) (x : Int) (y : A) (ρ1 : J0) (nx : J0 → Prop) : Prop:=∃ j,dat y ρ1 = some (.int j) ∧ nx (ρ1.set i (some (.v (.int (x - j)))))
def JOp (i : Nat) (ae : AE) : AS:=fun DA ρ=>∃ x,ρ[i]? = some (some (.v (.int x))) ∧ ae DA.ex ρ fun y ρ1=>P7 i x y ρ1 DA.nx
section
variable {EA : AX} {ρ : J0} {Q : AK} {ae : AE} {aa : AA} {al : AA} {j : Nat} {DA : AEnds} {y : A}
theorem JV5 {x : Int} (h : ρ[j]? = some (some (.v (.int x)))) (k : ae DA.ex ρ fun y ρ1=>P7 j x y ρ1 DA.nx) : JOp j ae DA ρ:=⟨x,h,k⟩
theorem JW1 {x k : Int} {nx : J0 → Prop} (h : dat y ρ = some (.int k)) (q : nx (ρ.set j (some (.v (.int (x - k)))))) : P7 j x y ρ nx:=⟨k,h,q⟩
end
end Vs
namespace Vs
open PySem PySem.Spec L2 PyProof.Rows
end Vs
namespace Vs
open PySem PySem.Spec PyProof.Rows L2
variable [Tbs]
/-- o.remove(k) -/
def Rw (o x : A) (ρ : J0) (Q : AK) : Prop:=∃ (i : Nat) (zs : List Int) (k : Int),o = .loc i ∧ ρ[i]? = some (some (.lst (zs.map D.int))) ∧ dat x ρ = some (.int k) ∧ k ∈ zs ∧ Q (.v .non) (ρ.set i (some (.lst ((zs.eraseIdx (zs.idxOf k)).map D.int))))
def JLw (ao ae : AE) : AE:=fun EA ρ Q=>ao EA ρ fun o ρ1=>(∃ xs,dat o ρ1 = some (.lst xs)) ∧ ae EA ρ1 fun x ρ2=>Rw o x ρ2 Q
/-- o.clear(),o a list that a name holds,or one at a path -/
def Mq (o : A) (ρ : J0) (Q : AK) : Prop:=∃ i p xs t,Uk o ρ = some (i,p,.lst xs) ∧ ρ[i]? = some (some t) ∧ Q (.v .non) (ρ.set i (some (t.upd p (W0 o (.lst [])))))
def JN1 (ao : AE) : AE:=fun EA ρ Q=>ao EA ρ fun o ρ1=>Mq o ρ1 Q
section
variable {EA : AX} {ρ : J0} {Q : AK} {i : Nat} {x : A}
theorem Ta {ao ae : AE} (k : ao EA ρ fun o ρ1=>isL o ρ1 (ae EA ρ1 fun x ρ2=>Rw o x ρ2 Q)) : JLw ao ae EA ρ Q:=k
theorem JYj {ao : AE} (k : ao EA ρ fun o ρ1=>Mq o ρ1 Q) : JN1 ao EA ρ Q:=k
theorem JYy {xs : List D} (h : ρ[i]? = some (some (.lst xs))) (k : Q (.v .non) (ρ.set i (some (.lst [])))) : Mq (.loc i) ρ Q:=⟨i,[],xs,_,Wq h,h,k⟩
end
def JLu (ao ae : AE) : AE:=fun EA ρ Q=>ao EA ρ fun o ρ1=>(∃ xs,dat o ρ1 = some (.lst xs)) ∧ ae EA ρ1 fun x ρ2=>∃ j i xs ds,o = .loc j ∧ x = .loc i ∧ ρ2[i]? = some (some (.lst ds)) ∧ ρ2[j]? = some (some (.lst xs)) ∧ xs.length + ds.length ≤ 100000 ∧ Q (.v .non) (ρ2.set j (some (.lst (xs ++ ds))))
section
variable {EA : AX} {ρ : J0} {Q : AK}
theorem Rc {ao ae : AE} (k : ao EA ρ fun o ρ1=>isL o ρ1 (ae EA ρ1 fun x ρ2=>∃ j i xs ds,o = .loc j ∧ x = .loc i ∧ ρ2[i]? = some (some (.lst ds)) ∧ ρ2[j]? = some (some (.lst xs)) ∧ xs.length + ds.length ≤ 100000 ∧ Q (.v .non) (ρ2.set j (some (.lst (xs ++ ds)))))) : JLu ao ae EA ρ Q:=k
end
end Vs
namespace Vs
open PySem PySem.Spec PyProof.Rows L2
end Vs
namespace Vs
open PySem PySem.Spec PyProof.Rows L2
end Vs
namespace Vs
open PySem PySem.Spec PyProof.Rows L2
variable [Tbs]
def JHm : D → Bool
  | .non=>true
  | .bl _=>true
  | .int _=>true
  | .str _=>true
  | .ty _=>true
  | _=>false
end Vs
namespace Vs
open PySem PySem.Spec PyProof.Rows L2
end Vs
namespace Vs
open PySem PySem.Spec PyProof.Rows L2
end Vs
namespace Vs
open PySem PySem.Spec PyProof.Rows L2
variable [Tbs]
mutual
/-- no list,nothing unknown -/
def nlD : D → Bool
  | .lst _=>false
  | .any=>false
  | .tup xs=>Oc xs
  | .dic kvs=>Ms kvs
  | .obj _ fs=>JWm fs
  | _=>true
def Oc : List D → Bool
  | []=>true
  | x :: xs=>nlD x && Oc xs
def Ms : List (Key × D) → Bool
  | []=>true
  | (_,x) :: xs=>nlD x && Ms xs
def JWm : List (Str × D) → Bool
  | []=>true
  | (_,x) :: xs=>nlD x && JWm xs
end
mutual
def nlA : A → Bool
  | .v d=>nlD d
  | .dic kvs=>Ms kvs
  | .lst xs=>Oc xs
  | .obj _ fs=>Cn fs
  | _=>false
def Cn : List (Str × A) → Bool
  | []=>true
  | (_,x) :: xs=>nlA x && Cn xs
end
def Cj : A → Bool
  | .v _=>true
  | .lst _=>true
  | _=>false
/-- what an argument is as data,where it is data or an own list -/
noncomputable def JN2 (x : A) (ρ : J0) : Option D:=match x with
  | .v d=>some d
  | .lst xs=>some (.lst xs)
  | .loc _=>(Uk x ρ).bind fun q=>if Cj q.2.2 then Zf q.2.2 else none
  | .pth _ _ _=>(Uk x ρ).bind fun q=>if Cj q.2.2 then Zf q.2.2 else none
  | _=>none
noncomputable def Cm : List A → J0 → Option (List D)
  | [],_=>some []
  | x :: xs,ρ=>(JN2 x ρ).bind fun d=>(Cm xs ρ).map fun ds=>d :: ds
section
variable {K : Fg} {c : Ctx} {S S' H H' : Hp} {σ : L2.St} {ρ ρ' : J0} {τ : List (V × A)} {v : V}
/-- C(..) with all arguments lent as data -/
def mkL (C : Addr) (sp : ASp) (xs : List A) : AE:=fun EA ρ Q=>∃ ds,Cm xs ρ = some ds ∧ sp.pre (.obj C [] :: ds.map A.v) ∧ (∀ r y zs,sp.post (.obj C [] :: ds.map A.v) r (y :: zs) → zs.length = ds.length → r = .v .non ∧ zs = ds.map A.v ∧ nlA y = true ∧ Q y ρ) ∧ ∀ Ce fs y zs,sp.exc (.obj C [] :: ds.map A.v) Ce fs (y :: zs) → zs.length = ds.length → zs = ds.map A.v ∧ (fs.all fun p=>JHm p.2) = true ∧ nlA y = true ∧ EA Ce fs ρ
def JLj (C : Addr) (sp : ASp) (dd : List D) (aa : AA) : AE:=fun EA ρ Q=>aa EA ρ fun xs ρ1=>mkL C sp (xs ++ dd.map A.v) EA ρ1 Q
end
section
variable {EA : AX} {ρ : J0} {Q : AK} {S : ASp} {sp : ASp} {C : Addr} {dd : List D} {aa : AA} {xs : List A} {ds : List D}
theorem Df (k : aa EA ρ fun xs ρ1=>mkL C sp (xs ++ dd.map A.v) EA ρ1 Q) : JLj C sp dd aa EA ρ Q:=k
end
end Vs
namespace Vs
open PySem PySem.Spec PyProof.Rows L2
variable [Tbs]
section
variable {K : Fg} {x y : A} {ρ : J0} {Q : AK}
/-- text > text -/
def JP3 : AR2:=fun x y ρ Q=>∃ a b : Str,dat x ρ = some (.str a) ∧ dat y ρ = some (.str b) ∧ Q (.v (.bl (decide (b.cps.toList < a.cps.toList)))) ρ
theorem Ew {a b : Str} (h1 : dat x ρ = some (.str a)) (h2 : dat y ρ = some (.str b)) (k : Q (.v (.bl (decide (b.cps.toList < a.cps.toList)))) ρ) : JP3 x y ρ Q:=⟨a,b,h1,h2,k⟩
end
end Vs
namespace Vs
open PySem PySem.Spec PyProof.Rows L2
end Vs
namespace Vs
open PySem PySem.Spec PyProof.Rows L2
section
variable {X : Cx} {P : Pm} {K : Fg} {pos : Pos} [Tbs]
/-- {**m,k: v} -/
def JV4 (am ak av : AE) : AE:=fun EA ρ Q=>am EA ρ fun x ρ1=>∃ more,x = .v (.dic more) ∧ more.length ≤ 1000 ∧ ak EA ρ1 fun y ρ2=>∃ kd k,y = .v kd ∧ keyD kd = some k ∧
  av EA ρ2 fun z ρ3=>Yl z ρ3 fun d ρ4=>Q (.dic (putD more k d)) ρ4
end
section
variable [Tbs] {am ak av : AE} {EA : AX} {ρ : J0} {Q : AK}
def Ox (x : A) (q : List (Key × D) → Prop) : Prop:=∃ more,x = .v (.dic more) ∧ more.length ≤ 1000 ∧ q more
theorem JWf (k : am EA ρ fun x ρ1=>Ox x fun more=>ak EA ρ1 fun y ρ2=>Fo y fun ky=>av EA ρ2 fun z ρ3=>Yl z ρ3 fun d ρ4=>Q (.dic (putD more ky d)) ρ4) : JV4 am ak av EA ρ Q:=by
  unfold JV4
  unfold Ox Fo at k
  simp only [← exists_and_left,← and_assoc] at k ⊢
  exact k
theorem Qm {more : List (Key × D)} {q : List (Key × D) → Prop} (hl : more.length ≤ 1000) (k : q more) : Ox (.v (.dic more)) q:=⟨more,rfl,hl,k⟩
end
end Vs
namespace Vs
open PySem PySem.Spec PyProof.Rows L2
variable [Tbs]
section
variable {X : Cx} {P : Pm} {K : Fg} {pos : Pos}
/-- xs[::-1] -/
def JB2 (ae : AE) : AE:=fun EA ρ Q=>ae EA ρ fun x ρ1=>∃ xs,dat x ρ1 = some (.lst xs) ∧ Q (.lst xs.reverse) ρ1
end
section
variable {ae : AE} {EA : AX} {ρ : J0} {Q : AK}
def Ak (x : A) (ρ : J0) (Q : AK) : Prop:=∃ xs,dat x ρ = some (.lst xs) ∧ Q (.lst xs.reverse) ρ
theorem Qv (k : ae EA ρ fun x ρ1=>Ak x ρ1 Q) : JB2 ae EA ρ Q:=k
theorem Tt {x : A} {xs : List D} (h : dat x ρ = some (.lst xs)) (k : Q (.lst xs.reverse) ρ) : Ak x ρ Q:=⟨xs,h,k⟩
end
end Vs
namespace Vs
open PySem PySem.Spec PyProof.Rows L2
variable [Tbs]
section
variable {X : Cx} {P : Pm} {K : Fg} {pos : Pos}
def Ko (DA : AEnds) : AEnds:={ DA with ex:=fun _ _ _=>False }
def JLh (a : AS) : AS:=fun DA ρ=>a (Ko DA) ρ
def JNr (a : AT) : AT:=fun EA ρ Q=>a (fun _ _ _=>False) ρ Q
end
section
variable {X : Cx} {P : Pm} {K : Fg} {pos : Pos}
/-- try: .. except C: raise D(e) from None -/
def Si (K : Fg) (C D : Addr) (f : Str) (ae : AE) (EA : AX) : AX:=fun C' fs ρ=>∃ b,PySem.W.exmOne K (.ref C') (.ref C) = some b ∧ (b = true → ae (fun _ _ _=>False) ρ fun x ρ1=>Yl x ρ1 fun d ρ2=>EA D [(f,d)] ρ2) ∧ (b = false → EA C' fs ρ)
def JGm (K : Fg) (C D : Addr) (f : Str) (ab : AS) (ae : AE) : AS:=fun DA ρ=>ab { DA with ex:=Si K C D f ae DA.ex } ρ
end
section
variable {DA : AEnds} {ρ : J0} {K : Fg} {C C1 C' : Addr} {f : Str} {fs : List (Str × D)} {ab : AS} {ae : AE} {EA : AX}
def My (K : Fg) (C C1 : Addr) (f : Str) (ae : AE) (DA : AEnds) : AEnds:={ DA with ex:=Si K C C1 f ae DA.ex }
theorem Rk (h : ab (My K C C1 f ae DA) ρ) : JGm K C C1 f ab ae DA ρ:=h
theorem JZp (h : DA.nx ρ) : (My K C C1 f ae DA).nx ρ:=h
theorem Re {x : A} (h : DA.rt x ρ) : (My K C C1 f ae DA).rt x ρ:=h
theorem JV9 (h : ab (Ko DA) ρ) : JLh ab DA ρ:=h
theorem JVm (h : DA.nx ρ) : (Ko DA).nx ρ:=h
theorem JWd {x : A} (h : DA.rt x ρ) : (Ko DA).rt x ρ:=h
theorem C6 {at_ : AT} {Q : Bool → J0 → Prop} (h : at_ (fun _ _ _=>False) ρ Q) : JNr at_ EA ρ Q:=h
end
end Vs
namespace Vs
open PySem PySem.Spec L2 PyProof.Rows
variable [Tbs]
section
variable {X : Cx} {P : Pm} {K : Fg} {a : Expr} {aa : AE} {pos : Pos}
def JB6 (aa : AE) (al ah : AO) : AE:=fun EA ρ Q=>aa EA ρ fun x ρ1=>al EA ρ1 fun lo ρ2=>ah EA ρ2 fun hi ρ3=>∃ z,dat x ρ3 = some (.str z) ∧ z.length ≤ 100000 ∧ Q (.v (.str (cutS z lo hi))) ρ3
def Q7 (x : A) (lo hi : Option Int) (ρ : J0) (Q : AK) : Prop:=∃ z,dat x ρ = some (.str z) ∧ z.length ≤ 100000 ∧ Q (.v (.str (cutS z lo hi))) ρ
theorem Aj {EA : AX} {ρ : J0} {Q : AK} {al ah : AO} (k : aa EA ρ fun x ρ1=>al EA ρ1 fun lo ρ2=>ah EA ρ2 fun hi ρ3=>Q7 x lo hi ρ3 Q) : JB6 aa al ah EA ρ Q:=k
theorem JUa {ρ : J0} {Q : AK} {x : A} {lo hi : Option Int} {z : Str} (h : dat x ρ = some (.str z)) (hz : z.length ≤ 100000) (k : Q (.v (.str (cutS z lo hi))) ρ) : Q7 x lo hi ρ Q:=⟨z,h,hz,k⟩
def JGs : ARs:=fun xs ρ Q=>∃ (x : A) (a : Str) (n : Int),xs = [x] ∧ dat x ρ = some (.str a) ∧ PySem.intText? a = some n ∧ a.length ≤ 640 ∧ Q (.v (.int n)) ρ
theorem Ea {ρ : J0} {Q : AK} {x : A} {a : Str} {n : Int} (h1 : dat x ρ = some (.str a)) (h2 : PySem.intText? a = some n) (h3 : a.length ≤ 640) (k : Q (.v (.int n)) ρ) : JGs [x] ρ Q:=⟨x,a,n,rfl,h1,h2,h3,k⟩
def Kq (aa : AA) : AI:=fun EA ρ Q=>aa EA ρ fun xs ρ1=>∃ l1 l2,xs = [.v (.tup l1),.v (.tup l2)] ∧ Q (X5 l1 l2) (fun _=>True) ρ1
theorem JBe {a b : Expr} {aa : AA} {p pos tpos : Pos} {elts : List Expr} {kk : Nat} (hg : Gl X "zip") (hm : X.mg "zip" = none) (ha : QA X P [a,b] aa) (hs : starEach [a,b] X.env = (false,eval a X.env) :: starEach [b] X.env:=by rfl) (hpl : (backTo pos (starEach [b] X.env)).any (·.1) = false:=by rfl) :
    QI X P (.Tuple elts kk tpos) (.Call (.Name "zip" p) [a,b] [] pos) (Kq aa):=by
  obtain ⟨t,pa,s⟩:=ha.ex
  refine ⟨_,RZ.pi_zipA hg hm pa hs hpl,fun c EA ho hw τ S H σ ρ Q R st q k=>s c EA ho hw τ S H σ ρ _ _ st q fun vs H1 ⟨S1,ρ1,xs,hl,s1,l1,l2,e,q1⟩=>?_⟩
  subst e
  cases vs with
  | nil=>simp at hl
  | cons v vs =>
    cases vs with
    | nil=>simp at hl
    | cons v2 vs =>
      cases vs with
      | cons _ _=>simp at hl
      | nil =>
        have s1' : Stt X.K c S1 H1 σ ρ1 ((v,.v (.tup l1)) :: (v2,.v (.tup l2)) :: τ):=s1
        have ra:=s1'.data
        have rb:=s1'.drop.data
        simp only [Rep] at ra rb
        obtain ⟨a,us,rfl,a1,a2⟩:=ra
        obtain ⟨b,ws,rfl,b1,b2⟩:=rb
        refine ⟨a,b,us,ws,rfl,.inr ⟨SqT.le s1'.le a1,SqT.le s1'.le b1,k _ _ _ S1 ρ1 _ _ (Reb.rest s1') s1'.drop.drop.rest (fun S H σ ρ τ s _=>⟨fun i d hd=>?_,fun i hi=>?_⟩) q1⟩⟩
        · obtain ⟨x,y,hx,hy,rfl⟩:=JMz hd
          obtain ⟨u,hu,ru⟩:=a2.at0 hx
          obtain ⟨w,hw,rw_⟩:=b2.at0 hy
          have g1:=SqT.le (Le.trans s.up s.le) a1
          have g2:=SqT.le (Le.trans s.up s.le) b1
          refine ⟨⟨us,ws,u,w,g1,g2,hu,hw⟩,fun v H' ⟨T,x',y',c1,c2,c3,c4,c5⟩=>?_⟩
          have e1:=c4 us g1
          have e2:=c5 ws g2
          rw [hu] at e1
          rw [hw] at e2
          cases e1
          cases e2
          subst c1 c3
          have f1:=(s.fresh c2).1
          refine ⟨_,s.share (o:=.tup [u,w]) (d:=.tup [x,y]) c2 ?_⟩
          simp only [Rep]
          refine ⟨T,_,rfl,SqT.of upd_same,?_⟩
          simp only [RepL]
          refine ⟨_,_,rfl,Rep.le (Le.of_same (Same.trans s.up (Same.up f1))) x u ru,_,_,rfl,Rep.le (Le.of_same (Same.trans s.up (Same.up f1))) y w rw_,rfl⟩
        · refine ⟨us,ws,SqT.le (Le.trans s.up s.le) a1,SqT.le (Le.trans s.up s.le) b1,?_⟩
          rw [a2.len,b2.len]
          have : (X5 l1 l2).length = min l1.length l2.length:=by simp [X5]
          omega
end
section
variable {EA : AX} {ρ : J0} {aa : AA} {ae : AE}
theorem JPa {QI : List D → (J0 → Prop) → J0 → Prop} (k : aa EA ρ fun xs ρ1=>∃ l1 l2,xs = [.v (.tup l1),.v (.tup l2)] ∧ QI (X5 l1 l2) (fun _=>True) ρ1) : Kq aa EA ρ QI:=k
theorem JOh {aa : AA} (hl : CA aa) : CI (Kq aa):=fun {ι} _ EA EA' ρ Q Q' h hx hq=>hl h hx fun xs ρ1 h1=>by
  obtain ⟨i,_⟩:=i0 (ι:=ι)
  obtain ⟨l1,l2,rfl,_⟩:=h1 i
  refine ⟨l1,l2,rfl,hq _ _ _ fun i=>?_⟩
  obtain ⟨l1',l2',f0,q⟩:=h1 i
  cases f0
  exact q
end
end Vs
namespace Vs
open PySem PySem.Spec L2 PyProof.Rows
variable [Tbs]
/-- values into slots -/
def Ma {α : Type} : List (Option α) → List Nat → List α → List (Option α)
  | σ,i :: is,v :: vs=>Ma (σ.set i (some v)) is vs
  | σ,_,_=>σ
section
variable {X : Cx} {P : Pm} {K : Fg} {pos : Pos}
def unpOk : A → Prop
  | .loc _=>False
  | _=>True
theorem unpOk.loc {x : A} (h : unpOk x) : Yg x = false:=by
  cases x <;> first | rfl | exact h.elim
/-- a,b,.. = a tuple with owned items -/
def JO1 (is : List Nat) (ae : AE) : AS:=fun DA ρ=>ae DA.ex ρ fun x ρ1=>∃ xs,x = .nt xs ∧ xs.length = is.length ∧ (∀ x ∈ xs,unpOk x) ∧ DA.nx (Ma ρ1 is xs)
theorem JU1 {DA : AEnds} {ρ : J0} {is : List Nat} {ae : AE} (k : ae DA.ex ρ fun x ρ1=>∃ xs,x = .nt xs ∧ xs.length = is.length ∧ (∀ x ∈ xs,unpOk x) ∧ DA.nx (Ma ρ1 is xs)) : JO1 is ae DA ρ:=k
end
end Vs
namespace Vs
open PySem PySem.Spec PyProof.Rows L2
variable [Tbs]
section
variable {X : Cx} {P : Pm} {K : Fg} {pos : Pos} {i : Nat} {a C : Addr}
def K7 (K : Fg) (C : Addr) (i : Nat) (su : AS) (DA : AEnds) : AEnds:={ DA with ex:=fun C' fs ρ'=>∃ b,PySem.W.exmOne K (.ref C') (.ref C) = some b ∧ (b = true → C' = C ∧ fs = [] ∧ i < ρ'.length ∧ su (Fy i DA) (ρ'.set i none)) ∧ (b = false → DA.ex C' fs ρ') }
def JF6 (K : Fg) (C : Addr) (i : Nat) (ab : AS) (su : AS) : AS:=fun DA ρ=>ab (K7 K C i su DA) ρ
theorem R0 {DA : AEnds} {ρ : J0} {a : AS} {su : AS} {j : Nat} (h : a (K7 K C j su DA) ρ) : JF6 K C j a su DA ρ:=h
theorem Q5 {DA : AEnds} {ρ : J0} {su : AS} {j : Nat} (h : DA.nx ρ) : (K7 K C j su DA).nx ρ:=h
theorem Ex {DA : AEnds} {ρ : J0} {su : AS} {j : Nat} {x : A} (h : DA.rt x ρ) : (K7 K C j su DA).rt x ρ:=h
end
end Vs
namespace Vs
open PySem PySem.Spec L2 PyProof.Rows
end Vs
namespace Vs
open PySem PySem.Spec PyProof.Rows L2
variable [Tbs]
section
variable {X : Cx} {P : Pm} {K : Fg} {pos : Pos}
/-- text.split(sep) -/
def JOj (ao ae : AE) : AE:=fun EA ρ Q=>ao EA ρ fun o ρ1=>(∃ a,dat o ρ1 = some (.str a)) ∧ ae EA ρ1 fun x ρ2=>∃ a b : Str,dat o ρ2 = some (.str a) ∧ dat x ρ2 = some (.str b) ∧ (b.length == 0) = false ∧ a.length ≤ 100000 ∧ Q (.lst ((Txt.split a b).map D.str)) ρ2
/-- text * number -/
theorem JXn : OpR X (binaryOp .Mult) (fun x y H Q=>∃ a i,x = .str a ∧ y = .int i ∧ a.length ≤ 16 ∧ 0 ≤ i ∧ i ≤ 100000 ∧ Q (.str (Txt.mul a i)) H):=by
  intro pins s σ H x y v u Q I r1 r2 h
  obtain ⟨a,i,rfl,rfl,h1,h2,h3,q⟩:=h
  obtain ⟨t,rfl⟩:=(show ∃ t,v = Value.str a t from r1)
  obtain ⟨w,rfl⟩:=(show ∃ t,u = Value.int i t from r2)
  exact SB.mul (mulOk_of 16 100000 h1 (by omega) (by omega) (by decide) (by decide)) fun t' k=>⟨.str _,H,I.tok _,⟨_,rfl⟩,q⟩
def Hm : AR2:=fun x y ρ Q=>∃ a i,dat x ρ = some (.str a) ∧ dat y ρ = some (.int i) ∧ a.length ≤ 16 ∧ 0 ≤ i ∧ i ≤ 100000 ∧ Q (.v (.str (Txt.mul a i))) ρ
theorem JB1 : Yu K (fun x y H Q=>∃ a i,x = .str a ∧ y = .int i ∧ a.length ≤ 16 ∧ 0 ≤ i ∧ i ≤ 100000 ∧ Q (.str (Txt.mul a i)) H) Hm:=by
  intro c τ S H σ ρ vx vy x y Q R s q k
  obtain ⟨i,j,h1,h2,hc,hd,he,q⟩:=q
  obtain ⟨r1,r2⟩:=Vj s h1 h2
  simp only [Rep] at r1 r2
  exact ⟨i,j,r1,r2,hc,hd,he,k _ _ (KE.sc s.drop.drop rfl q)⟩
theorem JH2 : C2 Hm:=fun {ι} _ x y ρ Q Q' h k=>by
  obtain ⟨i,_⟩:=i0 (ι:=ι)
  obtain ⟨a,z,e1,e2,e3,e4,e5,_⟩:=h i
  refine ⟨a,z,e1,e2,e3,e4,e5,k _ _ fun i=>?_⟩
  obtain ⟨a',z',f1,f2,_,_,_,q⟩:=h i
  rw [e1] at f1
  cases f1
  rw [e2] at f2
  cases f2
  exact q
end
section
variable {ae ao : AE} {EA : AX} {ρ : J0} {Q : AK} {o x : A} {a b : Str}
def JJ0 (o x : A) (ρ : J0) (Q : AK) : Prop:=∃ a b : Str,dat o ρ = some (.str a) ∧ dat x ρ = some (.str b) ∧ (b.length == 0) = false ∧ a.length ≤ 100000 ∧ Q (.lst ((Txt.split a b).map D.str)) ρ
theorem JV7 (k : ao EA ρ fun o ρ1=>Yo o ρ1 (ae EA ρ1 fun x ρ2=>JJ0 o x ρ2 Q)) : JOj ao ae EA ρ Q:=k
theorem JVe (h1 : dat o ρ = some (.str a)) (h2 : dat x ρ = some (.str b)) (h3 : (b.length == 0) = false) (h4 : a.length ≤ 100000) (k : Q (.lst ((Txt.split a b).map D.str)) ρ) : JJ0 o x ρ Q:=⟨a,b,h1,h2,h3,h4,k⟩
theorem O5 {y : A} {i : Int} (h1 : dat x ρ = some (.str a)) (h2 : dat y ρ = some (.int i)) (h3 : a.length ≤ 16) (h4 : 0 ≤ i) (h5 : i ≤ 100000) (k : Q (.v (.str (Txt.mul a i))) ρ) : Hm x y ρ Q:=⟨a,i,h1,h2,h3,h4,h5,k⟩
end
end Vs
set_option maxHeartbeats 4000000
namespace Vs
open PySem PySem.Spec PyProof.Rows L2 L2H
variable [Tbs]
section
variable {X : Cx} {P : Pm} {K : Fg} {pos : Pos}
def Du (K : Fg) (C : Addr) (EA : AX) : AX:=fun C' fs ρ=>PySem.W.exmOne K (.ref C') (.ref C) = some false ∧ EA C' fs ρ
def JGg (K : Fg) (C : Addr) (ab : AS) : AS:=fun DA ρ=>ab { DA with ex:=Du K C DA.ex } ρ
end
section
variable {DA : AEnds} {ρ : J0} {K : Fg} {C C' : Addr} {fs : List (Str × D)} {ab : AS} {x : A}
def Mf (K : Fg) (C : Addr) (DA : AEnds) : AEnds:={ DA with ex:=Du K C DA.ex }
theorem JYk (h : ab (Mf K C DA) ρ) : JGg K C ab DA ρ:=h
theorem JYe (h : DA.nx ρ) : (Mf K C DA).nx ρ:=h
theorem Qr (h : DA.rt x ρ) : (Mf K C DA).rt x ρ:=h
end
end Vs
set_option maxHeartbeats 1000000
namespace Vs
open PySem PySem.Spec PyProof.Rows L2
variable [Tbs]
def Lu (kvs : List (Key × D)) (k : Key) : List (Key × D):=kvs.filter fun q=>decide (q.1 ≠ k)
section
variable {X : Cx} {P : Pm} {K : Fg} {S : Hp}
theorem RepK.del {k : Key} : ∀ {kvs : List (Key × D)} {ws : List (Key × V)},RepK K S kvs ws → RepK K S (Lu kvs k) (dropK ws k)
  | [],ws,h=>by
    simp only [RepK] at h
    subst h
    simp [Lu,dropK,RepK]
  | (k',x) :: r,ws,h=>by
    simp only [RepK] at h
    obtain ⟨v,r',rfl,h1,h2⟩:=h
    have ih:=RepK.del (k:=k) h2
    unfold Lu dropK at ih ⊢
    by_cases e : k' = k
    · rw [List.filter_cons,List.filter_cons,if_neg (by simpa using e),if_neg (by simpa using e)]
      exact ih
    · rw [List.filter_cons,List.filter_cons,if_pos (by simpa using e),if_pos (by simpa using e)]
      simp only [RepK]
      exact ⟨v,_,rfl,h1,ih⟩
def JWp (o iv : A) (ρ : J0) (Q : AK) : Prop:=∃ i p kvs d k z t,Uk o ρ = some (i,p,.dic kvs) ∧ dat iv ρ = some d ∧ keyD d = some k ∧ valD kvs k = some z ∧ ρ[i]? = some (some t) ∧ Q (.v z) (ρ.set i (some (t.upd p (W0 o (.dic (Lu kvs k))))))
def Pg (o : A) (ρ : J0) : Prop:=∃ i p kvs,Uk o ρ = some (i,p,.dic kvs)
def JG4 (ao ai : AE) : AE:=fun EA ρ Q=>ao EA ρ fun o ρ1=>Pg o ρ1 ∧ ai EA ρ1 fun iv ρ2=>JWp o iv ρ2 Q
end
section
variable {EA : AX} {ρ : J0} {Q : AK}
theorem Tn {ao ai : AE} (k : ao EA ρ fun o ρ1=>Pg o ρ1 ∧ ai EA ρ1 fun iv ρ2=>JWp o iv ρ2 Q) : JG4 ao ai EA ρ Q:=k
theorem Sa {j : Nat} {kvs : List (Key × D)} {R : Prop} (h1 : ρ[j]? = some (some (.dic kvs))) (k : R) : Pg (.loc j) ρ ∧ R:=⟨⟨j,[],kvs,Wq h1⟩,k⟩
end
end Vs
namespace Vs
open PySem PySem.Spec PyProof.Rows L2
end Vs
set_option maxHeartbeats 4000000
namespace PySem.W.KIN
open PySem PySem.Calls PySem.NumText PyProof.Rows
theorem JBs {M : Model} {A : Around} {E : Value → Shared → Prop} {s : Shared} {Q : Value → Shared → Prop} {v : Value} {text : List Nat} {n : Int} (hnd : s.heap.NoDigits)
    (hs : ¬ (text.takeWhile (· != 0)).length ≤ 640) (hr : (int_private% "readNumeral") 4300 10 (text.takeWhile (· != 0)) = (int_private% "Numeral.value") n)
    (ha : ((text.takeWhile (· != 0)).length == text.length) = true) (h : Q (.int n s.toks) { s with toks:=s.toks + 1 }) :
    wpAny M A ((int_private% "intFromText") v text 10) Q E s:=by
  obtain ⟨mc,hns,hnone⟩:=hnd
  have key : ∀ (Q' : Nat → Shared → Prop),Q' 4300 s → wpAny M A Builtin.intMaxStrDigits Q' E s:=fun Q' q=>by
    unfold Builtin.intMaxStrDigits
    refine wpAny_bind (wpAny_nsGet hns ?_)
    rw [hnone]
    exact wpAny_pure q
  obtain ⟨hp,g,d,tk,os⟩:=s
  repeat (any_goals (first
    | assumption
    | (with_reducible refine wpAny_ite_false (decide_eq_false hs) ?_)
    | (with_reducible refine wpAny_ite_true (decide_eq_true ha) ?_)
    | (with_reducible refine key _ ?_)
    | wp_step))
  all_goals (try rw [hr])
  all_goals (try dsimp only)
  repeat (any_goals (first
    | assumption
    | (with_reducible refine wpAny_ite_true (decide_eq_true ha) ?_)
    | wp_step))
end PySem.W.KIN
namespace PySem.W.KIN
open PySem PySem.Calls PySem.NumText PyProof.Rows
/-- a text of more than 640 signs that int reads -/
structure LongT (x : PySem.Str) (n : Int) : Prop where
  s : ¬ (numSeenOf x).length ≤ 640
  r : (int_private% "readNumeral") 4300 10 (numSeenOf x) = (int_private% "Numeral.value") n
  a : ((numSeenOf x).length == (numTextOf x).length) = true
theorem JMl {x : PySem.Str} {u : Tok} {n : Int} (hk : LongT x n) : Meets (Builtin.«int.__new__» ⟨[.type "int",.str x u],[]⟩) (fun _ R s=>s.heap.NoDigits ∧ R (.ok (.ret (.int n s.toks))) { s with toks:=s.toks + 1 }) :=
  .of_wp fun prog w A R s h=>by
    obtain ⟨hnd,h⟩:=h
    have hn : ∃ t,t = s ∧ t.heap.NoDigits:=⟨s,rfl,hnd⟩
    obtain ⟨hp,g,d,tk,os⟩:=s
    have f1:=F.conv_sub_int
    have f2:=F.madeHere_int
    have f3:=str_int
    have f4:=str_idx
    have f5:=str_trunc
    have f6 : typeOf (.str x u) = pure (.type "str"):=rfl
    repeat (any_goals (first
      | assumption
      | ((with_reducible show wpAny _ _ ((int_private% "intFromText") _ _ _) _ _ _); refine JBs hnd hk.s hk.r hk.a ?_)
      | wp_step))
    all_goals first | exact ⟨_,rfl,h⟩ | skip
section
open PySem.Builtin PySem.Builtin.Str PySem.Builtin.Int
variable {prog : Program} {w : World} {A : Around} {E : Value → Shared → Prop} {s : Shared} {Q : Value → Shared → Prop} {x : PySem.Str} {t : Tok} {n a : Int}
theorem call_textL (hk : LongT x n) (hn : s.heap.NoDigits) (h : Q (.int n s.toks) { s with toks:=s.toks + 1 }) : wpAny (model prog w) A (call (.type "int") [.str x t]) Q E s :=
  call_int_1 (JMl hk) ⟨hn,typeIs_int _ _ _,h⟩
theorem JXf (hn : s.heap.NoDigits) (hlt : a.natAbs < 10 ^ 4300) (h : Q (.str (toString a) s.toks) { s with toks:=s.toks + 1 }) : wpAny (model prog w) A (call (.builtin "int.__repr__") [.int a t]) Q E s:=by
  refine wpAny_call_entry F.slot_int_repr (typeIs_int s a t) F.entry_int_repr ?_ (F.args_int_repr_1 _)
  unfold Builtin.«int.__repr__»
  show wpAny _ _ (do let r ← Builtin.overDigitLimit? a; _) _ _ s
  refine wpAny_bind (overDigitLimit_any hn (fun _=>?_) (fun hge=>absurd hlt (Nat.not_lt.mpr hge)))
  exact wpAny_bind (wpAny_mkStr (wpAny_pure ⟨_,rfl,h⟩) (int_text_fits10 hlt))
theorem JKq (hn : s.heap.NoDigits) (hlt : a.natAbs < 10 ^ 4300) (h : Q (.str (toString a) s.toks) { s with toks:=s.toks + 1 }) : wpAny (model prog w) A (PySem.Builtin.Str.strOf (.int a t)) Q E s:=by
  unfold PySem.Builtin.Str.strOf
  rw [show isExactStr (.int a t) = false from rfl]
  try (have hv : [Value.int a t].any Value.onHeap = false:=rfl; simp only [cRoomFor,hv,Bool.false_eq_true,if_false,pure_bind])
  refine wpAny_bind (m:=callSpecial? (.int a t) (Str.ofString "__str__")) (wpAny_callSpecial?_slot (name:=Str.ofString "__str__") (typeIs_int s a t) F.slot_int_str ?_)
  refine wpAny_call_entry F.slot_int_str (typeIs_int s a t) entry_object_str ?_ (args_object_str _)
  unfold Builtin.«object.__str__»
  refine wpAny_bind (m:=slotArgs "__str__" 0 _) (wpAny_pure ?_)
  try (have hv : [Value.int a t].any Value.onHeap = false:=rfl; simp only [cRoomFor,hv,Bool.false_eq_true,if_false,pure_bind])
  refine wpAny_bind (m:=callSpecialIfBound? (.int a t) (Str.ofString "__repr__")) (wpAny_callSpecialIfBound?_slot (name:=Str.ofString "__repr__") (typeIs_int s a t) F.slot_int_repr
    (JXf hn hlt ?_))
  exact wpAny_pure ⟨_,rfl,wpAny_pure h⟩
theorem str_w (hn : s.heap.NoDigits) (hlt : a.natAbs < 10 ^ 4300) (h : Q (.str (toString a) s.toks) { s with toks:=s.toks + 1 }) : wpAny (model prog w) A (call (.type "str") [.int a t]) Q E s :=
  callType_new F.called_str (by decide) (F.typeCall_str_1 _) (F.newCall_str_1 _) (fun obj=>F.args_object_init_2 obj _) F.entry_str_new
    (meets_str_new (S:=fun A R s=>s.heap.NoDigits ∧ R (.ok (.ret (.str (toString a) s.toks))) { s with toks:=s.toks + 1 })
      fun _ _ _ _ _ hq=>JKq hq.1 hlt hq.2)
    ⟨hn,typeIs_str _ _ _,h⟩
end
end PySem.W.KIN
namespace Vs
open PySem PySem.Spec L2 PyProof.Rows
variable [Tbs]
section
variable {X : Cx} {K : Fg}
theorem JZ7 {pins : List (Addr × Obj)} {σ : L2.St} {H : Hp} {s : Shared} (dg : PySem.W.nsIn X.K cStatics "sys.int_max_str_digits" = some none) (I : Inv X pins σ H s) : s.heap.NoDigits:=by
  obtain ⟨mc,h1,_⟩:=I.ok.mod.nolimit
  exact PySem.Heap.NoDigits.keeps ⟨mc,h1,PySem.W.ns_none_of I.ok.mod.kin h1 dg⟩ I.bk
theorem S9 (dg : PySem.W.nsIn X.K cStatics "sys.int_max_str_digits" = some none) : CallR X (.type "str") (fun xs H Q=>(∃ i,xs = [.int i] ∧ i.natAbs < 10 ^ 4300 ∧ Q (.str (toString i)) H) ∨ ∃ a,xs = [.str a] ∧ Q (.str a) H):=by
  intro pins s σ H xs us Q I r h
  rcases h with h | h
  · obtain ⟨i,rfl,hz,q⟩:=h
    obtain ⟨u,rfl,t,rfl⟩:=vals1 r
    exact PySem.W.KIN.str_w (JZ7 dg I) hz ⟨.str _,H,I.tok _,⟨_,rfl⟩,q⟩
  · exact SkE.call_str_str pins s σ H xs us Q I r h
theorem JXm (dg : PySem.W.nsIn X.K cStatics "sys.int_max_str_digits" = some none) : CallR X (.type "int") (fun xs H Q=>∃ a n,xs = [.str a] ∧ PySem.W.KIN.LongT a n ∧ Q (.int n) H):=by
  intro pins s σ H xs us Q I rs h
  obtain ⟨a,n,rfl,hk,h⟩:=h
  cases rs with
  | cons r1 rs =>
    cases rs
    obtain ⟨t,rfl⟩:=r1
    exact PySem.W.KIN.call_textL hk (JZ7 dg I) ⟨.int n,H,I.tok _,⟨_,rfl⟩,h⟩
def Bi : ARs:=fun xs ρ Q=>(∃ (x : A) (i : Int),xs = [x] ∧ dat x ρ = some (.int i) ∧ i.natAbs < 10 ^ 4300 ∧ Q (.v (.str (toString i))) ρ) ∨ ∃ (x : A) (a : Str),xs = [x] ∧ dat x ρ = some (.str a) ∧ Q (.v (.str a)) ρ
theorem JZ4 : Vy K (fun xs H Q=>(∃ i,xs = [.int i] ∧ i.natAbs < 10 ^ 4300 ∧ Q (.str (toString i)) H) ∨ ∃ a,xs = [.str a] ∧ Q (.str a) H) Bi:=by
  intro c τ S H σ ρ vs xs Q R hl s q k
  rcases q with q | q
  · obtain ⟨x,i,rfl,h1,h2,q⟩:=q
    obtain ⟨v,rfl,s⟩:=one_arg hl s
    have r:=s.dat (List.mem_cons_self ..) h1
    simp only [Rep] at r
    exact .inl ⟨i,by rw [r],h2,k _ _ (KE.sc s.drop rfl q)⟩
  · obtain ⟨x,a,rfl,h1,q⟩:=q
    obtain ⟨v,rfl,s⟩:=one_arg hl s
    have r:=s.dat (List.mem_cons_self ..) h1
    simp only [Rep] at r
    exact .inr ⟨a,by rw [r],k _ _ (KE.sc s.drop rfl q)⟩
def Hz : ARs:=fun xs ρ Q=>∃ (x : A) (a : Str) (n : Int),xs = [x] ∧ dat x ρ = some (.str a) ∧ PySem.W.KIN.LongT a n ∧ Q (.v (.int n)) ρ
theorem JKt : Vy K (fun xs H Q=>∃ a n,xs = [.str a] ∧ PySem.W.KIN.LongT a n ∧ Q (.int n) H) Hz:=by
  intro c τ S H σ ρ vs xs Q R hl s q k
  obtain ⟨x,a,n,rfl,h1,h2,q⟩:=q
  obtain ⟨v,rfl,s⟩:=one_arg hl s
  have r:=s.dat (List.mem_cons_self ..) h1
  simp only [Rep] at r
  exact ⟨a,n,by rw [r],h2,k _ _ (KE.sc s.drop rfl q)⟩
variable {ρ : J0} {Q : AK} {x : A}
theorem JJe {i : Int} (h1 : dat x ρ = some (.int i)) (h2 : i.natAbs < 10 ^ 4300) (k : Q (.v (.str (toString i))) ρ) : Bi [x] ρ Q:=.inl ⟨x,i,rfl,h1,h2,k⟩
theorem JZf {a : Str} (h1 : dat x ρ = some (.str a)) (k : Q (.v (.str a)) ρ) : Bi [x] ρ Q:=.inr ⟨x,a,rfl,h1,k⟩
theorem JPx {a : Str} {n : Int} (h1 : dat x ρ = some (.str a)) (h2 : PySem.W.KIN.LongT a n) (k : Q (.v (.int n)) ρ) : Hz [x] ρ Q:=⟨x,a,n,rfl,h1,h2,k⟩
theorem JWo : Cs Bi:=fun {ι} _ x ρ Q Q' h k=>by
  obtain ⟨i,_⟩:=i0 (ι:=ι)
  rcases h i with ⟨a,z,rfl,h1,h2,_⟩ | ⟨a,z,rfl,h1,_⟩
  · refine .inl ⟨a,z,rfl,h1,h2,k _ _ fun i=>?_⟩
    rcases h i with ⟨b,w,g0,g1,_,q⟩ | ⟨b,w,g0,g1,q⟩
    · cases g0
      rw [h1] at g1
      cases g1
      exact q
    · cases g0
      rw [h1] at g1
      cases g1
  · refine .inr ⟨a,z,rfl,h1,k _ _ fun i=>?_⟩
    rcases h i with ⟨b,w,g0,g1,_,q⟩ | ⟨b,w,g0,g1,q⟩
    · cases g0
      rw [h1] at g1
      cases g1
    · cases g0
      rw [h1] at g1
      cases g1
      exact q
theorem JOq : Cs Hz:=fun {ι} _ x ρ Q Q' h k=>by
  obtain ⟨i,_⟩:=i0 (ι:=ι)
  obtain ⟨a,z,n,rfl,h1,h2,_⟩:=h i
  refine ⟨a,z,n,rfl,h1,h2,k _ _ fun i=>?_⟩
  obtain ⟨b,w,m,g0,g1,g2,q⟩:=h i
  cases g0
  rw [h1] at g1
  cases g1
  have e:=g2.r
  rw [h2.r] at e
  injection e with e
  subst e
  exact q
end
end Vs
namespace PySem.W
open PySem
variable {prog : Program} {w : World} {A : Around} {E : Value → Shared → Prop} {s : Shared}
theorem JOl {K : Type} [DecidableEq K] {knd : KeyKind prog w K} {a b : Addr} {ka kb : List (K × Value)} {r : Bool} {Q : Value → Shared → Prop} (ha : (a == sysModules) = false) (hb : (b == sysModules) = false)
    (da : s.heap.DictOf knd a ka) (db : s.heap.DictOf knd b kb) (hu : A.units < cLine) (hits : ka.length = kb.length → KeqHitsIn prog w A.in1 s kb ka r) (h : Q (.bool (!(ka.length == kb.length && r))) s) :
    wpAny (model prog w) A (compareOp .NotEq (.ref a) (.ref b)) Q E s:=by
  refine wpAny_richCompare_same_room (op:=.NotEq) da.typeIs db.typeIs PySem.F.slot_dict_ne (wpAny_call_entry PySem.F.slot_dict_ne da.typeIs PySem.F.entry_dict_ne ?_ (PySem.F.args_dict_ne_2 _ _)) hu
  show wpAny _ _ (Builtin.Dict.dictSlotArgs "__ne__" ⟨[.ref a,.ref b],[]⟩ >>= _) _ _ s
  refine wpAny_bind ?_
  unfold Builtin.Dict.dictSlotArgs
  refine wpAny_bind (wpAny_notOrdered_dict da.typeIs ?_)
  refine wpAny_pure ?_
  refine wpAny_bind (wpAny_isInstance (T:="dict") db.typeIs PySem.F.sub_dict_dict ?_)
  simp only [Bool.not_true,Bool.false_eq_true,if_false]
  refine wpAny_bind (wpAny_pure (wpAny_bind (wpAny_pure ?_)))
  refine wpAny_bind (keq_samePairsIn ha hb da db hits ?_)
  refine wpAny_pure ⟨_,rfl,?_,?_⟩
  · exact fun x=>nomatch x
  · simpa using h
theorem ne_dictsT {K : Type} [DecidableEq K] {knd : KeyKind prog w K} {n : Nat} {a b : Addr} {ka kb : List (K × Value)} {e : K → Bool} {Q : Value → Shared → Prop} (ha : (a == sysModules) = false) (hb : (b == sysModules) = false)
    (da : s.heap.DictOf knd a ka) (db : s.heap.DictOf knd b kb) (t : ∀ k v y,(k,v) ∈ ka → valueAt kb k = some y → EqTree prog w s n v y (e k)) (hu : A.units + (n + 1) < cLine)
    (h : Q (.bool (!(ka.length == kb.length && ka.all fun p=>(valueAt kb p.1).isSome && e p.1))) s) : wpAny (model prog w) A (compareOp .NotEq (.ref a) (.ref b)) Q E s :=
  JOl ha hb da db (by omega) (fun _=>KeqHitsIn.of _ fun k v y hm hv=>(t k v y hm hv).at A.in1 (by show A.units + 1 + _ < cLine; omega)) h
end PySem.W
namespace Vs
open PySem PySem.Spec PyProof.Rows L2
variable [Tbs]
section
variable {X : Cx} {P : Pm} {K : Fg}
def A2 (K : Fg) : R2:=fun x y H Q=>∃ a b ks ls,x = .ref a ∧ y = .ref b ∧ Rep K H (.dic ks) x ∧ Rep K H (.dic ls) y ∧ (∀ p ∈ ks,PlD 20 p.2) ∧ (∀ p ∈ ls,PlD 20 p.2) ∧ (ks.map (·.1)).Nodup ∧ Q (.bl (!Hq ks ls)) H
theorem JM1 (hu : X.A.units + 64 < cLine) : OpR X (compareOp .NotEq) (A2 X.K):=by
  intro pins s σ H x y v u Q I rx ry h
  obtain ⟨a,b,ks,ls,rfl,rfl,r1,r2,p1,p2,nd,q⟩:=h
  cases rx
  cases ry
  simp only [Rep] at r1 r2
  obtain ⟨a',ws,e1,h1,k1⟩:=r1
  obtain ⟨b',us,e2,h2,k2⟩:=r2
  cases e1
  cases e2
  obtain ⟨_,ya,va,ra,da⟩:=h1.ok I.hok
  obtain ⟨_,yb,vb,rb,db⟩:=h2.ok I.hok
  -- the values side by side
  have hval : ∀ k,(valD ls k = none ∧ valueAt vb k = none) ∨ ∃ d v u,valD ls k = some d ∧ valueAt vb k = some u ∧ RelV v u ∧ Rep X.K H d v ∧ PlD 20 d:=fun k=>by
    have rr:=rb.val k
    rcases k2.val (k:=k) with ⟨e1,e2⟩ | ⟨d,v,e1,e2,e3⟩
    · rw [e2] at rr
      left
      refine ⟨e1,?_⟩
      cases hv : valueAt vb k with
      | none=>rfl
      | some z=>rw [hv] at rr; exact (rr : False).elim
    · rw [e2] at rr
      right
      obtain ⟨u,hu,ru⟩:=RelO.some_of rr
      have hm : ∀ {l : List (Key × D)},valD l k = some d → (∀ p ∈ l,PlD 20 p.2) → PlD 20 d:=by
        intro l
        induction l with
        | nil=>intro h _; simp [valD] at h
        | cons p r ih =>
          intro h hp
          simp only [valD] at h
          split at h
          · have:=Option.some.inj h
            rw [← this]
            exact hp p (by simp)
          · exact ih h fun x hx=>hp x (by simp [hx])
      exact ⟨d,v,u,e1,hu,ru,e3,hm e1 p2⟩
  let e : Key → Bool:=fun k=>match valD ks k,valD ls k with
    | some d,some d'=>deq d d'
    | _,_=>false
  have hlen : va.length = ks.length:=by rw [← ra.length,k1.len]
  have hlen2 : vb.length = ls.length:=by rw [← rb.length,k2.len]
  have look : ∀ {l : List (Key × D)} {k : Key} {d : D},(l.map (·.1)).Nodup → (k,d) ∈ l → valD l k = some d:=by
    intro l
    induction l with
    | nil=>intro k d _ m; simp at m
    | cons p r ih =>
      intro k d hn m
      obtain ⟨k',d'⟩:=p
      simp only [List.map_cons,List.nodup_cons] at hn
      simp only [valD]
      rcases List.mem_cons.mp m with z | z
      · cases z
        simp
      · have ne : k' ≠ k:=fun e=>hn.1 (by rw [e]; exact List.mem_map.mpr ⟨_,z,rfl⟩)
        simp only [ne,if_false]
        exact ih hn.2 z
  refine PySem.W.ne_dictsT (knd:=mixKind X.prog X.w) (n:=21) (e:=e) ya yb da db (fun k z y hz hy=>?_) (by omega) ⟨.bl _,H,I,rfl,?_⟩
  · obtain ⟨d,v,m,rv,rd⟩:=kv_mem k1 ra hz
    have e1 : valD ks k = some d:=look nd m
    rcases hval k with ⟨_,e2⟩ | ⟨d',v',u',e2,e3,e4,e5,e6⟩
    · rw [e2] at hy; cases hy
    · rw [e3] at hy
      cases hy
      have ee : e k = deq d d':=by show (match valD ks k,valD ls k with | some d,some d'=>deq d d' | _,_=>false) = _; rw [e1,e2]
      rw [ee,Zz 20 d d' (p1 _ m) e6]
      obtain ⟨as,r1⟩:=Dp.reads I _ v z (V5 20 d v (p1 _ m) rd) rv
      obtain ⟨bs,r2⟩:=Dp.reads I _ v' y (V5 20 d' v' e6 e5) e4
      obtain ⟨a1,a2⟩:=Vx 20 d (p1 _ m)
      obtain ⟨b1,b2⟩:=Vx 20 d' e6
      exact .leaf fun A hA=>SeqAt.eqAt_plain _ _ A s z y as bs r1 r2 a1 b1 (by have:=Nat.min_le_left (pd d).depth (pd d').depth; omega)
  · have e1 : (va.all fun p=>(valueAt vb p.1).isSome && e p.1) = ks.all (Xu ls):=Eo k1 ra fun p hp=>by
      obtain ⟨k,d⟩:=p
      have e1 : valD ks k = some d:=look nd hp
      show ((valueAt vb k).isSome && e k) = Xu ls (k,d)
      unfold Xu
      rcases hval k with ⟨e2,e3⟩ | ⟨d',v',u',e2,e3,e4,e5,e6⟩
      · rw [e3]
        simp only [e2]
        rfl
      · have ee : e k = deq d d':=by show (match valD ks k,valD ls k with | some d,some d'=>deq d d' | _,_=>false) = _; rw [e1,e2]
        rw [e3,ee]
        simp only [e2]
        rfl
    rw [e1,hlen,hlen2]
    exact q
def Lo : AR2:=fun x y ρ Q=>∃ ks ls,dat x ρ = some (.dic ks) ∧ dat y ρ = some (.dic ls) ∧ (∀ p ∈ ks,PlD 20 p.2) ∧ (∀ p ∈ ls,PlD 20 p.2) ∧ (ks.map (·.1)).Nodup ∧ Q (.v (.bl (!Hq ks ls))) ρ
theorem JXj : Yu K (A2 K) Lo:=by
  intro c τ S H σ ρ vx vy x y Q R s q k
  obtain ⟨ks,ls,h1,h2,p1,p2,nd,q⟩:=q
  obtain ⟨r1,r2⟩:=Vj s h1 h2
  have r1':=r1
  have r2':=r2
  simp only [Rep] at r1' r2'
  obtain ⟨a,_,rfl,_⟩:=r1'
  obtain ⟨b,_,rfl,_⟩:=r2'
  exact ⟨a,b,ks,ls,rfl,rfl,r1,r2,p1,p2,nd,k _ _ (KE.sc s.drop.drop rfl q)⟩
def Ln : AR2:=fun x y ρ Q=>aNe x y ρ Q ∨ Lo x y ρ Q
theorem JOm {r r' : R2} (h : Yu K r aNe) (h' : Yu K r' Lo) : Yu K (fun x y H Q=>r x y H Q ∨ r' x y H Q) Ln:=by
  intro c τ S H σ ρ vx vy x y Q R s q k
  rcases q with q | q
  · exact .inl (h c τ S H σ ρ vx vy x y Q R s q k)
  · exact .inr (h' c τ S H σ ρ vx vy x y Q R s q k)
theorem JKh {ρ : J0} {Q : AK} {x y : A} (h : Lo x y ρ Q) : Ln x y ρ Q:=.inr h
theorem JP8 : C2 Ln:=fun {ι} _ x y ρ Q Q' h k=>by
  obtain ⟨i,_⟩:=i0 (ι:=ι)
  rcases h i with h1 | h1
  · obtain ⟨d,e,h1,h2,h3,h4,_⟩:=h1
    refine .inl ⟨d,e,h1,h2,h3,h4,k _ _ fun i=>?_⟩
    rcases h i with g | g
    · obtain ⟨d',e',g1,g2,_,_,q⟩:=g
      rw [h1] at g1; cases g1
      rw [h2] at g2; cases g2
      exact q
    · obtain ⟨ks,ls,g1,g2,_⟩:=g
      rw [h1] at g1; cases g1
      simp only [PlD] at h3
  · obtain ⟨ks,ls,h1,h2,h3,h4,h5,_⟩:=h1
    refine .inr ⟨ks,ls,h1,h2,h3,h4,h5,k _ _ fun i=>?_⟩
    rcases h i with g | g
    · obtain ⟨d',e',g1,g2,g3,_,q⟩:=g
      rw [h1] at g1; cases g1
      simp only [PlD] at g3
    · obtain ⟨ks',ls',g1,g2,_,_,_,q⟩:=g
      rw [h1] at g1; cases g1
      rw [h2] at g2; cases g2
      exact q
end
end Vs
set_option maxHeartbeats 0
namespace Law
open PySem PySem.Spec PyProof.Rows L2 Vs
variable [Tbs]
def T_FIELDS : List (Str × List D):=[(("row" : Str),[.str ("id" : Str),.str ("stream" : Str),.str ("key" : Str),.str ("moment" : Str),.str ("amount" : Str),.str ("arrival" : Str)]),(("fix" : Str),[.str ("id" : Str),.str ("moment" : Str),.str ("amount" : Str),.str ("arrival" : Str)]),(("gone" : Str),[.str ("id" : Str),.str ("arrival" : Str)])]
def asZ0b (K : Fg) : AS:=Yd (W3 (aUn (Uv K [(.type "int")]) (J6 0)) (Bp (aUn (Uv K [(.type "bool")]) (J6 0))))
theorem cjZ0b {K : Fg} : CS (asZ0b K):=(Yk (Wx (Va Vf J8) (D4 (Va Vf J8))))
def asZ0r (K : Fg) : AS:=Yd (aUn (Uv K [(.type "list"),(.type "tuple")]) (Y0 0))
theorem cjZ0r {K : Fg} : CS (asZ0r K):=(Yk (Va Vf Y1))
def rsZ0qn2 (K : Fg) : AS:=Je [] (Yd (aCB Xb (J1 (aLc (Vo (J6 0)) (Ub 1) (Za) (aOp (aIn false) (J6 1) (aC (.str ("abcdefghijklmnopqrstuvwxyz" : Str)))) [1]) (Ja))))
theorem cjrsZ0qn2 {K : Fg} : CS (rsZ0qn2 K):=(Jf (Yk (Yp Gp (J3 (B6 (Wc J8) Uj B3 (Jb Fm J8 J5)) Jc))))
def asZ0q (K : Fg) : AS:=Jw (Yr (Uq (Uc (Y5 (aUn (Uv K [(.type "str")]) (J6 0)))) (Uc (Y5 (Zh aLe aLe (aC (.int 1)) (aCB Uo (J1 (J6 0) (Ja))) (aC (.int 8)))))) (Je [] (Yd (aC (.bl false)))) (Yt)) (rsZ0qn2 K)
theorem cjZ0q {K : Fg} : CS (asZ0q K):=(Jy (Yx (V0 (Ut (Ya (Va Vf J8))) (Ut (Ya (Kj Xg Xg J5 (Yp V3 (J3 J8 Jc)) J5)))) (Jf (Yk J5)) Yz) cjrsZ0qn2)
def rsZ04n2 (K : Fg) : AS:=Je [] (Yd (aCB Xb (J1 (aLc (Vo (J6 0)) (Ub 1) (Za) (Zh aLe aLe (aC (.int 32)) (aCB L0 (J1 (J6 1) (Ja))) (aC (.int 126))) [1]) (Ja))))
theorem cjrsZ04n2 {K : Fg} : CS (rsZ04n2 K):=(Jf (Yk (Yp Gp (J3 (B6 (Wc J8) Uj B3 (Kj Xg Xg J5 (Yp JFx (J3 J8 Jc)) J5)) Jc))))
def asZ04 (K : Fg) : AS:=Jw (Yr (Uq (Uc (Y5 (aUn (Uv K [(.type "str")]) (J6 0)))) (Uc (Y5 (Zh aLe aLe (aC (.int 1)) (aCB Uo (J1 (J6 0) (Ja))) (aC (.int 6)))))) (Je [] (Yd (aC (.bl false)))) (Yt)) (rsZ04n2 K)
theorem cjZ04 {K : Fg} : CS (asZ04 K):=(Jy (Yx (V0 (Ut (Ya (Va Vf J8))) (Ut (Ya (Kj Xg Xg J5 (Yp V3 (J3 J8 Jc)) J5)))) (Jf (Yk J5)) Yz) cjrsZ04n2)
def asZ00 (K : Fg) : AS:=Yd (W3 (aUn (Uv K [(.type "int")]) (J6 0)) (Bp (aUn (Uv K [(.type "bool")]) (J6 0))))
theorem cjZ00 {K : Fg} : CS (asZ00 K):=(Yk (Wx (Va Vf J8) (D4 (Va Vf J8))))
def rsZ08n3 : AS:=Je [] (Yd (Vd (J1 (J6 2) (J1 (aCB Ww (J1 (aOp aGe (J6 2) (aOp Bo (aC (.int 10)) (aC (.int 18)))) (Ja))) (J1 (aOp X2 (aC (.int 1000)) (J6 1)) (Ja))))))
theorem cjrsZ08n3 : CS (rsZ08n3):=(Jf (Yk (W1 (J3 J8 (J3 (Yp Xt (J3 (Jb Q1 J8 (Jb N8 J5 J5)) Jc)) (J3 (Jb Gg J5 J8) Jc))))))
def rsZ08n2 : AS:=Jw (Je [] (Yr (Y5 (aOp aLt (J6 1) (aCB Uo (J1 (J6 0) (Ja))))) (Je [2] (Ym 2 (aCB Hc (J1 (aOp aIx (J6 0) (J6 1)) (Ja))))) (Yt))) (rsZ08n3)
theorem cjrsZ08n2 : CS (rsZ08n2):=(Jy (Jf (Yx (Ya (Jb B7 J8 (Yp V3 (J3 J8 Jc)))) (Jf (Yq (Yp Sd (J3 (Jb Ye J8 J8) Jc)))) Yz)) cjrsZ08n3)
def asZ08 : AS:=Jw (Ym 2 (aC (.int 0))) (rsZ08n2)
theorem cjZ08 : CS (asZ08):=(Jy (Yq J5) cjrsZ08n2)
def rsZ0jn6 : AS:=Je [] (Yd (aOp X8 (aCB Ww (J1 (aOp Xq (J6 3) (aC (.int 16))) (Ja))) (J6 1)))
theorem cjrsZ0jn6 : CS (rsZ0jn6):=(Jf (Yk (Jb Gh (Yp Xt (J3 (Jb Ke J8 J5) Jc)) J8)))
def rsZ0jn5 : AS:=Jw (Je [] (Ym 3 (aOp X8 (aCB Ww (J1 (aOp X2 (J6 3) (aOp Vc (aOp Xq (J6 3) (aC (.int 2003))) (aC (.int 40692)))) (Ja))) (aC (.int 2147483399))))) (rsZ0jn6)
theorem cjrsZ0jn5 : CS (rsZ0jn5):=(Jy (Jf (Yq (Jb Gh (Yp Xt (J3 (Jb Gg J8 (Jb Vr (Jb Ke J8 J5) J5)) Jc)) J5))) cjrsZ0jn6)
def rsZ0jn4 : AS:=Jw (Je [] (Ym 3 (aOp X8 (aCB Ww (J1 (aOp X2 (J6 3) (aOp Vc (aOp Xq (J6 3) (aC (.int 1009))) (aC (.int 69621)))) (Ja))) (aC (.int 2147483647))))) (rsZ0jn5)
theorem cjrsZ0jn4 : CS (rsZ0jn4):=(Jy (Jf (Yq (Jb Gh (Yp Xt (J3 (Jb Gg J8 (Jb Vr (Jb Ke J8 J5) J5)) Jc)) J5))) cjrsZ0jn5)
def rsZ0jn3 : AS:=Jw (Je [2] (Ym 3 (aOp X8 (aCB Ww (J1 (aOp X2 (aOp Vc (aOp Vc (aOp aIx (Y0 0) (aC (.int 0))) (aOp X2 (aC (.int 7919)) (aOp aIx (Y0 0) (aC (.int 2))))) (aC (.int 1))) (aC (.int 48271))) (Ja))) (aC (.int 2147483647))))) (rsZ0jn4)
theorem cjrsZ0jn3 : CS (rsZ0jn3):=(Jy (Jf (Yq (Jb Gh (Yp Xt (J3 (Jb Gg (Jb Vr (Jb Vr (Jb Ye Y1 J5) (Jb Gg J5 (Jb Ye Y1 J5))) J5) J5) Jc)) J5))) cjrsZ0jn4)
def rsZ0jn2 : AS:=Jw (Je [] (Yr (Hf (Y5 (aOp aEq (aOp aIx (Y0 0) (aC (.int 1))) (aC (.int 1)))) (Y5 (aOp aGt (aOp aIx (Y0 0) (aC (.int 0))) (aC (.int 0))))) (Jw (Je [] (Ym 2 (aOp X8 (aCB Ww (J1 (aOp aIx (Y0 0) (aC (.int 0))) (Ja))) (J6 1))))
  (Jw (Je [] (Bc (aOp Xq (aCB Ww (J1 (aOp aIx (Y0 0) (aC (.int 0))) (Ja))) (J6 1)) (Y0 0) (aC (.int 0))))
  (Je [] (Yd (J6 2))))) (Yt))) (rsZ0jn3)
theorem cjrsZ0jn2 : CS (rsZ0jn2):=(Jy (Jf (Yx (JHj (Ya (Jb Um (Jb Ye Y1 J5) J5)) (Ya (Jb JU0 (Jb Ye Y1 J5) J5))) (Jy (Jf (Yq (Jb Gh (Yp Xt (J3 (Jb Ye Y1 J5) Jc)) J8))) (Jy (Jf (K3 (Jb Ke (Yp Xt (J3 (Jb Ye Y1 J5) Jc)) J8) Y1 J5)) (Jf (Yk J8)))) Yz)) cjrsZ0jn3)
def asZ0j : AS:=Jw (Bc (aOp Vc (aOp aIx (Y0 0) (aC (.int 2))) (aC (.int 1))) (Y0 0) (aC (.int 2))) (rsZ0jn2)
theorem cjZ0j : CS (asZ0j):=(Jy (K3 (Jb Vr (Jb Ye Y1 J5) J5) Y1 J5) cjrsZ0jn2)
def rsZ09n3 : AS:=Je [] (Yd (Vd (J1 (aC (.str ("id" : Str))) (J1 (aC (.str ("arrival" : Str))) (Ja)))))
theorem cjrsZ09n3 : CS (rsZ09n3):=(Jf (Yk (W1 (J3 J5 (J3 J5 Jc)))))
def rsZ09n2 : AS:=Jw (Je [] (Yr (Y5 (aOp aEq (J6 0) (aC (.str ("fix" : Str))))) (Je [] (Yd (Vd (J1 (aC (.str ("id" : Str))) (J1 (aC (.str ("moment" : Str))) (J1 (aC (.str ("amount" : Str))) (J1 (aC (.str ("arrival" : Str))) (Ja)))))))) (Yt))) (rsZ09n3)
theorem cjrsZ09n2 : CS (rsZ09n2):=(Jy (Jf (Yx (Ya (Jb Um J8 J5)) (Jf (Yk (W1 (J3 J5 (J3 J5 (J3 J5 (J3 J5 Jc))))))) Yz)) cjrsZ09n3)
def asZ09 : AS:=Jw (Yr (Y5 (aOp aEq (J6 0) (aC (.str ("row" : Str))))) (Je [] (Yd (Vd (J1 (aC (.str ("id" : Str))) (J1 (aC (.str ("stream" : Str))) (J1 (aC (.str ("key" : Str))) (J1 (aC (.str ("moment" : Str))) (J1 (aC (.str ("amount" : Str))) (J1 (aC (.str ("arrival" : Str))) (Ja)))))))))) (Yt)) (rsZ09n2)
theorem cjZ09 : CS (asZ09):=(Jy (Yx (Ya (Jb Um J8 J5)) (Jf (Yk (W1 (J3 J5 (J3 J5 (J3 J5 (J3 J5 (J3 J5 (J3 J5 Jc))))))))) Yz) cjrsZ09n2)
def rsZ0fn2 : AS:=Je [] (Yd (aOp Vc (J6 0) (aC (.str ("[\\]^_`abcdefghijklmnopqrstuvwxyz{|}~" : Str)))))
theorem cjrsZ0fn2 : CS (rsZ0fn2):=(Jf (Yk (Jb Vr J8 J5)))
def asZ0f : AS:=Jw (Ym 0 (aC (.str (" !\"#$&'()*+,-./0123456789:;<=>?@ABCDEFGHIJKLMNOPQRSTUVWXYZ" : Str)))) (rsZ0fn2)
theorem cjZ0f : CS (asZ0f):=(Jy (Yq J5) cjrsZ0fn2)
def rsZ07n2 (K : Fg) : AS:=Je [] (Yd (aOp aEq (aCB Uo (J1 (aLc (Vo (J6 0)) (Ub 1) (Y5 (aOp (aIn true) (J6 1) (aC (.str ("abcdefghijklmnopqrstuvwxyz" : Str))))) (J6 1) [1]) (Ja))) (aC (.int 0))))
theorem cjrsZ07n2 {K : Fg} : CS (rsZ07n2 K):=(Jf (Yk (Jb Um (Yp V3 (J3 (B6 (Wc J8) Uj (Ya (Jb Fm J8 J5)) J8) Jc)) J5)))
def asZ07 (K : Fg) : AS:=Jw (Yr (Uq (Uc (Y5 (aUn (Uv K [(.type "str")]) (J6 0)))) (Uq (Y5 (aOp aLt (aCB Uo (J1 (J6 0) (Ja))) (aC (.int 1)))) (Y5 (aOp aGt (aCB Uo (J1 (J6 0) (Ja))) (aC (.int 8)))))) (Je [] (Yd (aC (.bl false)))) (Yt)) (rsZ07n2 K)
theorem cjZ07 {K : Fg} : CS (asZ07 K):=(Jy (Yx (V0 (Ut (Ya (Va Vf J8))) (V0 (Ya (Jb B7 (Yp V3 (J3 J8 Jc)) J5)) (Ya (Jb JU0 (Yp V3 (J3 J8 Jc)) J5)))) (Jf (Yk J5)) Yz) cjrsZ07n2)
def rsZ0mn3 (K : Fg) (spZ04 : ASp) : AS:=Je [] (Yd (W3 (aOp aEq (aOp aIx (J6 0) (aC (.int 0))) (aC (.str ("field" : Str)))) (W3 (aUn (Uv K [(.type "str")]) (aOp aIx (J6 0) (aC (.int 1)))) (aOp (aIn false) (aOp aIx (J6 0) (aC (.int 1))) (J6 1)))))
theorem cjrsZ0mn3 {K : Fg} {spZ04 : ASp} : CS (rsZ0mn3 K spZ04):=(Jf (Yk (Wx (Jb Um (Jb Ye J8 J5) J5) (Wx (Va Vf (Jb Ye J8 J5)) (Jb Fm (Jb Ye J8 J5) J8)))))
def rsZ0mn2 (K : Fg) (spZ04 : ASp) : AS:=Jw (Je [] (Yr (Y5 (aOp aEq (aOp aIx (J6 0) (aC (.int 0))) (aC (.str ("mark" : Str))))) (Je [] (Yd (Y4 spZ04 [] (J1 (aOp aIx (J6 0) (aC (.int 1))) (Ja))))) (Yt))) (rsZ0mn3 K spZ04)
theorem cjrsZ0mn2 {K : Fg} {spZ04 : ASp} : CS (rsZ0mn2 K spZ04):=(Jy (Jf (Yx (Ya (Jb Um (Jb Ye J8 J5) J5)) (Jf (Yk (Y7 (J3 (Jb Ye J8 J5) Jc)))) Yz)) cjrsZ0mn3)
def asZ0m (K : Fg) (spZ04 : ASp) : AS:=Jw (Yr (Uq (Uc (Y5 (aUn (Uv K [(.type "tuple")]) (J6 0)))) (Uq (Y5 (aOp aNe (aCB Uo (J1 (J6 0) (Ja))) (aC (.int 2)))) (Uc (Y5 (aUn (Uv K [(.type "str")]) (aOp aIx (J6 0) (aC (.int 0)))))))) (Je [] (Yd (aC (.bl false)))) (Yt)) (rsZ0mn2 K spZ04)
theorem cjZ0m {K : Fg} {spZ04 : ASp} : CS (asZ0m K spZ04):=(Jy (Yx (V0 (Ut (Ya (Va Vf J8))) (V0 (Ya (Jb Kl (Yp V3 (J3 J8 Jc)) J5)) (Ut (Ya (Va Vf (Jb Ye J8 J5)))))) (Jf (Yk J5)) Yz) cjrsZ0mn2)
def asZ0s (spZ0b : ASp) : AS:=Yd (W3 (Y4 spZ0b [] (J1 (J6 0) (Ja))) (aOp aGe (J6 0) (aC (.int 0))))
theorem cjZ0s {spZ0b : ASp} : CS (asZ0s spZ0b):=(Yk (Wx (Y7 (J3 J8 Jc)) (Jb Q1 J8 J5)))
def asZ05 (spZ0b : ASp) : AS:=Yd (aCB Xb (J1 (aLc (Vo (J6 0)) (Ub 1) (Za) (Y4 spZ0b [] (J1 (J6 1) (Ja))) [1]) (Ja)))
theorem cjZ05 {spZ0b : ASp} : CS (asZ05 spZ0b):=(Yk (Yp Gp (J3 (B6 (Wc J8) Uj B3 (Y7 (J3 J8 Jc))) Jc)))
def bdZ0ln1 (spZ0j : ASp) : AS:=Je [3] (Ym 2 (Ud (aOp Vc (J6 2) (aOp aIx (aC (.str ("abcdefghijklmnopqrstuvwxyz" : Str))) (Y4 spZ0j [] (J1 (Y0 0) (J1 (aC (.int 26)) (Ja))))))))
theorem cjbdZ0ln1 {spZ0j : ASp} : CS (bdZ0ln1 spZ0j):=(Jf (Yq (Uu (Jb Vr J8 (Jb Ye J5 (Y7 (J3 Y1 (J3 J5 Jc))))))))
def rsZ0ln3 (spZ0j : ASp) : AS:=Je [] (Yd (J6 2))
theorem cjrsZ0ln3 {spZ0j : ASp} : CS (rsZ0ln3 spZ0j):=(Jf (Yk J8))
def rsZ0ln2 (spZ0j : ASp) : AS:=Jw (Je [] (Wn (Ga (J1 (aOp Vc (aC (.int 1)) (Y4 spZ0j [] (J1 (Y0 0) (J1 (J6 1) (Ja))))) (Ja))) (Ub 3) (bdZ0ln1 spZ0j))) (rsZ0ln3 spZ0j)
theorem cjrsZ0ln2 {spZ0j : ASp} : CS (rsZ0ln2 spZ0j):=(Jy (Jf (Zo (Rq (J3 (Jb Vr J5 (Y7 (J3 Y1 (J3 J8 Jc)))) Jc)) Uj cjbdZ0ln1)) cjrsZ0ln3)
def asZ0l (spZ0j : ASp) : AS:=Jw (Ym 2 (aC (.str ("" : Str)))) (rsZ0ln2 spZ0j)
theorem cjZ0l {spZ0j : ASp} : CS (asZ0l spZ0j):=(Jy (Yq J5) cjrsZ0ln2)
def bdZ0cn1 (spZ0j : ASp) : AS:=Xh [3] (Je [] (Wv (G9 (Y0 2) (Y4 spZ0j [] (J1 (Y0 0) (J1 (aOp Vc (aCB Uo (J1 (Y0 2) (Ja))) (aC (.int 1))) (Ja)))) (J6 3))))
theorem cjbdZ0cn1 {spZ0j : ASp} : CS (bdZ0cn1 spZ0j):=(Hg (Jf (Xd (JY4 Y1 (Y7 (J3 Y1 (J3 (Jb Vr (Yp V3 (J3 Y1 Jc)) J5) Jc))) J8))))
def rsZ0cn3 (spZ0j : ASp) : AS:=Je [] (Yd (Y0 2))
theorem cjrsZ0cn3 {spZ0j : ASp} : CS (rsZ0cn3 spZ0j):=(Jf (Yk Y1))
def rsZ0cn2 (spZ0j : ASp) : AS:=Jw (Je [] (Wn (Vo (J6 1)) (Ub 3) (bdZ0cn1 spZ0j))) (rsZ0cn3 spZ0j)
theorem cjrsZ0cn2 {spZ0j : ASp} : CS (rsZ0cn2 spZ0j):=(Jy (Jf (Zo (Wc J8) Uj cjbdZ0cn1)) cjrsZ0cn3)
def asZ0c (spZ0j : ASp) : AS:=Jw (Ym 2 (Vd (Ja))) (rsZ0cn2 spZ0j)
theorem cjZ0c {spZ0j : ASp} : CS (asZ0c spZ0j):=(Jy (Yq (W1 Jc)) cjrsZ0cn2)
def bdZ0kn1 (spZ0j : ASp) : AS:=Je [4] (Ym 3 (Ud (aOp Vc (J6 3) (aOp aIx (J6 1) (Y4 spZ0j [] (J1 (Y0 0) (J1 (aCB Uo (J1 (J6 1) (Ja))) (Ja))))))))
theorem cjbdZ0kn1 {spZ0j : ASp} : CS (bdZ0kn1 spZ0j):=(Jf (Yq (Uu (Jb Vr J8 (Jb Ye J8 (Y7 (J3 Y1 (J3 (Yp V3 (J3 J8 Jc)) Jc))))))))
def rsZ0kn3 (spZ0j : ASp) : AS:=Je [] (Yd (J6 3))
theorem cjrsZ0kn3 {spZ0j : ASp} : CS (rsZ0kn3 spZ0j):=(Jf (Yk J8))
def rsZ0kn2 (spZ0j : ASp) : AS:=Jw (Je [] (Wn (Ga (J1 (aOp Vc (aC (.int 1)) (Y4 spZ0j [] (J1 (Y0 0) (J1 (J6 2) (Ja))))) (Ja))) (Ub 4) (bdZ0kn1 spZ0j))) (rsZ0kn3 spZ0j)
theorem cjrsZ0kn2 {spZ0j : ASp} : CS (rsZ0kn2 spZ0j):=(Jy (Jf (Zo (Rq (J3 (Jb Vr J5 (Y7 (J3 Y1 (J3 J8 Jc)))) Jc)) Uj cjbdZ0kn1)) cjrsZ0kn3)
def asZ0k (spZ0j : ASp) : AS:=Jw (Ym 3 (aC (.str ("" : Str)))) (rsZ0kn2 spZ0j)
theorem cjZ0k {spZ0j : ASp} : CS (asZ0k spZ0j):=(Jy (Yq J5) cjrsZ0kn2)
def rsZ06n3 (spZ0j : ASp) : AS:=Je [] (Yd (aOp Vc (aOp Bq (Y4 spZ0j [] (J1 (Y0 0) (J1 (aOp Bq (aOp Bh (aC (.int 2)) (J6 1)) (aC (.int 1))) (Ja)))) (J6 1)) (aC (.int 1))))
theorem cjrsZ06n3 {spZ0j : ASp} : CS (rsZ06n3 spZ0j):=(Jf (Yk (Jb Vr (Jb M5 (Y7 (J3 Y1 (J3 (Jb M5 (Jb Oq J5 J8) J5) Jc))) J8) J5)))
def rsZ06n2 (spZ0j : ASp) : AS:=Jw (Je [] (Ym 1 (aOp aIx (Vd (J1 (aC (.int 10)) (J1 (aC (.int 1000)) (J1 (aOp Bo (aC (.int 10)) (aC (.int 20))) (J1 (aOp Bo (aC (.int 10)) (aC (.int 60))) (Ja)))))) (Y4 spZ0j [] (J1 (Y0 0) (J1 (aC (.int 4)) (Ja))))))) (rsZ06n3 spZ0j)
theorem cjrsZ06n2 {spZ0j : ASp} : CS (rsZ06n2 spZ0j):=(Jy (Jf (Yq (Jb Ye (W1 (J3 J5 (J3 J5 (J3 (Jb N8 J5 J5) (J3 (Jb N8 J5 J5) Jc))))) (Y7 (J3 Y1 (J3 J5 Jc)))))) cjrsZ06n3)
def asZ06 (spZ0j : ASp) : AS:=Jw (Yr (Y5 (aOp aEq (Y4 spZ0j [] (J1 (Y0 0) (J1 (aC (.int 40)) (Ja)))) (aC (.int 0)))) (Je [] (Yd (aOp Bh (aCB Hz (J1 (aOp Hm (aOp aIx (aC (.str ("123456789" : Str))) (Y4 spZ0j [] (J1 (Y0 0) (J1 (aC (.int 9)) (Ja))))) (aC (.int 1000))) (Ja))) (aOp Bq (aC (.int 1)) (aOp Bh (aC (.int 2)) (Y4 spZ0j [] (J1 (Y0 0) (J1 (aC (.int 2)) (Ja))))))))) (Yt)) (rsZ06n2 spZ0j)
theorem cjZ06 {spZ0j : ASp} : CS (asZ06 spZ0j):=(Jy (Yx (Ya (Jb Um (Y7 (J3 Y1 (J3 J5 Jc))) J5)) (Jf (Yk (Jb Oq (Yp JOq (J3 (Jb JH2 (Jb Ye J5 (Y7 (J3 Y1 (J3 J5 Jc)))) J5) Jc)) (Jb M5 J5 (Jb Oq J5 (Y7 (J3 Y1 (J3 J5 Jc)))))))) Yz) cjrsZ06n2)
def rsZ03n9 (spZ0j : ASp) : AS:=Je [4] (Yd (aCB Xw (J1 (Y0 2) (Ja))))
theorem cjrsZ03n9 {spZ0j : ASp} : CS (rsZ03n9 spZ0j):=(Jf (Yk (Yp JU4 (J3 Y1 Jc))))
def rsZ03n8 (spZ0j : ASp) : AS:=Jw (Je [3] (Yr (Y5 (aOp aEq (J6 4) (aC (.int 4)))) (Je [4] (Yd (Y0 2))) (Yt))) (rsZ03n9 spZ0j)
theorem cjrsZ03n8 {spZ0j : ASp} : CS (rsZ03n8 spZ0j):=(Jy (Jf (Yx (Ya (Jb Um J8 J5)) (Jf (Yk Y1)) Yz)) cjrsZ03n9)
def rsZ03n7 (spZ0j : ASp) : AS:=Jw (Je [] (Yr (Y5 (aOp aEq (J6 4) (aC (.int 3)))) (Je [2,4] (Yd (aOp aIx (J6 3) (Y4 spZ0j [] (J1 (Y0 0) (J1 (aC (.int 13)) (Ja))))))) (Yt))) (rsZ03n8 spZ0j)
theorem cjrsZ03n7 {spZ0j : ASp} : CS (rsZ03n7 spZ0j):=(Jy (Jf (Yx (Ya (Jb Um J8 J5)) (Jf (Yk (Jb Ye J8 (Y7 (J3 Y1 (J3 J5 Jc)))))) Yz)) cjrsZ03n8)
def rsZ03n6 (spZ0j : ASp) : AS:=Jw (Je [] (Yr (Y5 (aOp aEq (J6 4) (aC (.int 2)))) (Je [] (Wv (Ls (Y0 2) (Y4 spZ0j [] (J1 (Y0 0) (J1 (aCB Uo (J1 (Y0 2) (Ja))) (Ja))))))) (Yt))) (rsZ03n7 spZ0j)
theorem cjrsZ03n6 {spZ0j : ASp} : CS (rsZ03n6 spZ0j):=(Jy (Jf (Yx (Ya (Jb Um J8 J5)) (Jf (Xd (JKm Y1 (Y7 (J3 Y1 (J3 (Yp V3 (J3 Y1 Jc)) Jc)))))) Yz)) cjrsZ03n7)
def rsZ03n5 (spZ0j : ASp) : AS:=Jw (Je [] (Yr (Y5 (aOp aEq (J6 4) (aC (.int 1)))) (Je [] (Wv (G9 (Y0 2) (Y4 spZ0j [] (J1 (Y0 0) (J1 (aOp Vc (aCB Uo (J1 (Y0 2) (Ja))) (aC (.int 1))) (Ja)))) (aOp aIx (J6 3) (Y4 spZ0j [] (J1 (Y0 0) (J1 (aC (.int 13)) (Ja)))))))) (Yt))) (rsZ03n6 spZ0j)
theorem cjrsZ03n5 {spZ0j : ASp} : CS (rsZ03n5 spZ0j):=(Jy (Jf (Yx (Ya (Jb Um J8 J5)) (Jf (Xd (JY4 Y1 (Y7 (J3 Y1 (J3 (Jb Vr (Yp V3 (J3 Y1 Jc)) J5) Jc))) (Jb Ye J8 (Y7 (J3 Y1 (J3 J5 Jc))))))) Yz)) cjrsZ03n6)
def rsZ03n4 (spZ0j : ASp) : AS:=Jw (Je [] (Yr (Y5 (aOp aEq (J6 4) (aC (.int 0)))) (Je [] (Bc (aOp aIx (J6 3) (Y4 spZ0j [] (J1 (Y0 0) (J1 (aC (.int 13)) (Ja))))) (Y0 2) (Y4 spZ0j [] (J1 (Y0 0) (J1 (aCB Uo (J1 (Y0 2) (Ja))) (Ja)))))) (Yt))) (rsZ03n5 spZ0j)
theorem cjrsZ03n4 {spZ0j : ASp} : CS (rsZ03n4 spZ0j):=(Jy (Jf (Yx (Ya (Jb Um J8 J5)) (Jf (K3 (Jb Ye J8 (Y7 (J3 Y1 (J3 J5 Jc)))) Y1 (Y7 (J3 Y1 (J3 (Yp V3 (J3 Y1 Jc)) Jc))))) Yz)) cjrsZ03n5)
def rsZ03n3 (spZ0j : ASp) : AS:=Jw (Je [] (Ym 4 (Y4 spZ0j [] (J1 (Y0 0) (J1 (aC (.int 6)) (Ja)))))) (rsZ03n4 spZ0j)
theorem cjrsZ03n3 {spZ0j : ASp} : CS (rsZ03n3 spZ0j):=(Jy (Jf (Yq (Y7 (J3 Y1 (J3 J5 Jc))))) cjrsZ03n4)
def rsZ03n2 (spZ0j : ASp) : AS:=Jw (Je [] (Ym 3 (Ud (Vd (J1 (aC .non) (J1 (aC (.bl true)) (J1 (aC (.str ("1" : Str))) (J1 (aC (.str ("" : Str))) (J1 (aC (.str ("abcdefghi" : Str))) (J1 (aC (.str ("Ab" : Str))) (J1 (aUn Lj (aC (.int 1))) (J1 (Vd (J1 (aC (.int 1)) (Ja))) (J1 (Wa (J1 (aC (.int 1)) (Ja))) (J1 (Ha) (J1 (aC (.str ("gone" : Str))) (J1 (aC (.int 5)) (J1 (aC (.str ("a" : Str))) (Ja)))))))))))))))))) (rsZ03n3 spZ0j)
theorem cjrsZ03n2 {spZ0j : ASp} : CS (rsZ03n2 spZ0j):=(Jy (Jf (Yq (Uu (W1 (J3 J5 (J3 J5 (J3 J5 (J3 J5 (J3 J5 (J3 J5 (J3 (Va JPk J5) (J3 (W1 (J3 J5 Jc)) (J3 (Z7 (J3 J5 Jc)) (J3 Se (J3 J5 (J3 J5 (J3 J5 Jc))))))))))))))))) cjrsZ03n3)
def asZ03 (spZ0j : ASp) : AS:=Jw (Ym 2 (aCB Kb (J1 (J6 1) (Ja)))) (rsZ03n2 spZ0j)
theorem cjZ03 {spZ0j : ASp} : CS (asZ03 spZ0j):=(Jy (Yq (Yp JXk (J3 J8 Jc))) cjrsZ03n2)
def rsZ01n6 (K : Fg) (spZ09 spZ00 spZ07 : ASp) : AS:=Je [] (Yd (aCB Xb (J1 (aLc (Vo (J6 1)) (Ub 2) (Za) (Y4 spZ00 [] (J1 (J6 2) (Ja))) [2]) (Ja))))
theorem cjrsZ01n6 {K : Fg} {spZ09 spZ00 spZ07 : ASp} : CS (rsZ01n6 K spZ09 spZ00 spZ07):=(Jf (Yk (Yp Gp (J3 (B6 (Wc J8) Uj B3 (Y7 (J3 J8 Jc))) Jc))))
def rsZ01n5 (K : Fg) (spZ09 spZ00 spZ07 : ASp) : AS:=Jw (Je [] (Yr (Y5 (aOp aEq (aOp aIx (J6 0) (aC (.int 0))) (aC (.str ("row" : Str))))) (Jw (Je [1] (Yr (Uq (Uc (Y5 (Y4 spZ07 [] (J1 (aOp aIx (J6 0) (aC (.int 2))) (Ja))))) (Uc (Y5 (Y4 spZ07 [] (J1 (aOp aIx (J6 0) (aC (.int 3))) (Ja)))))) (Je [] (Yd (aC (.bl false)))) (Yt)))
  (Je [] (Ym 1 (Ud (Zk (J6 0) (Zm (aC (.int 4))) (Zi)))))) (Yt))) (rsZ01n6 K spZ09 spZ00 spZ07)
theorem cjrsZ01n5 {K : Fg} {spZ09 spZ00 spZ07 : ASp} : CS (rsZ01n5 K spZ09 spZ00 spZ07):=(Jy (Jf (Yx (Ya (Jb Um (Jb Ye J8 J5) J5)) (Jy (Jf (Yx (V0 (Ut (Ya (Y7 (J3 (Jb Ye J8 J5) Jc)))) (Ut (Ya (Y7 (J3 (Jb Ye J8 J5) Jc))))) (Jf (Yk J5)) Yz)) (Jf (Yq (Uu (F7 J8 (F3 J5) F1))))) Yz)) cjrsZ01n6)
def rsZ01n4 (K : Fg) (spZ09 spZ00 spZ07 : ASp) : AS:=Jw (Je [] (Ym 1 (Ud (Zk (J6 0) (Zm (aC (.int 2))) (Zi))))) (rsZ01n5 K spZ09 spZ00 spZ07)
theorem cjrsZ01n4 {K : Fg} {spZ09 spZ00 spZ07 : ASp} : CS (rsZ01n4 K spZ09 spZ00 spZ07):=(Jy (Jf (Yq (Uu (F7 J8 (F3 J5) F1)))) cjrsZ01n5)
def rsZ01n3 (K : Fg) (spZ09 spZ00 spZ07 : ASp) : AS:=Jw (Je [] (Yr (Uq (Uc (Y5 (Y4 spZ00 [] (J1 (aOp aIx (J6 0) (aC (.int 1))) (Ja))))) (Y5 (aOp aLt (aOp aIx (J6 0) (aC (.int 1))) (aC (.int 0))))) (Je [] (Yd (aC (.bl false)))) (Yt))) (rsZ01n4 K spZ09 spZ00 spZ07)
theorem cjrsZ01n3 {K : Fg} {spZ09 spZ00 spZ07 : ASp} : CS (rsZ01n3 K spZ09 spZ00 spZ07):=(Jy (Jf (Yx (V0 (Ut (Ya (Y7 (J3 (Jb Ye J8 J5) Jc)))) (Ya (Jb B7 (Jb Ye J8 J5) J5))) (Jf (Yk J5)) Yz)) cjrsZ01n4)
def rsZ01n2 (K : Fg) (spZ09 spZ00 spZ07 : ASp) : AS:=Jw (Je [] (Yr (Uq (Y5 (aOp (aIn true) (aOp aIx (J6 0) (aC (.int 0))) (Vd (J1 (aC (.str ("row" : Str))) (J1 (aC (.str ("fix" : Str))) (J1 (aC (.str ("gone" : Str))) (Ja))))))) (Y5 (aOp aNe (aCB Uo (J1 (J6 0) (Ja))) (aOp Vc (aCB Uo (J1 (Y4 spZ09 [] (J1 (aOp aIx (J6 0) (aC (.int 0))) (Ja))) (Ja))) (aC (.int 1)))))) (Je [] (Yd (aC (.bl false)))) (Yt))) (rsZ01n3 K spZ09 spZ00 spZ07)
theorem cjrsZ01n2 {K : Fg} {spZ09 spZ00 spZ07 : ASp} : CS (rsZ01n2 K spZ09 spZ00 spZ07):=(Jy (Jf (Yx (V0 (Ya (Jb Fm (Jb Ye J8 J5) (W1 (J3 J5 (J3 J5 (J3 J5 Jc)))))) (Ya (Jb Kl (Yp V3 (J3 J8 Jc)) (Jb Vr (Yp V3 (J3 (Y7 (J3 (Jb Ye J8 J5) Jc)) Jc)) J5)))) (Jf (Yk J5)) Yz)) cjrsZ01n3)
def asZ01 (K : Fg) (spZ09 spZ00 spZ07 : ASp) : AS:=Jw (Yr (Uq (Uc (Y5 (aUn (Uv K [(.type "tuple")]) (J6 0)))) (Uq (Y5 (aOp aLt (aCB Uo (J1 (J6 0) (Ja))) (aC (.int 1)))) (Uc (Y5 (aUn (Uv K [(.type "str")]) (aOp aIx (J6 0) (aC (.int 0)))))))) (Je [] (Yd (aC (.bl false)))) (Yt)) (rsZ01n2 K spZ09 spZ00 spZ07)
theorem cjZ01 {K : Fg} {spZ09 spZ00 spZ07 : ASp} : CS (asZ01 K spZ09 spZ00 spZ07):=(Jy (Yx (V0 (Ut (Ya (Va Vf J8))) (V0 (Ya (Jb B7 (Yp V3 (J3 J8 Jc)) J5)) (Ut (Ya (Va Vf (Jb Ye J8 J5)))))) (Jf (Yk J5)) Yz) cjrsZ01n2)
def bdZ0nn1 (spZ09 : ASp) : AS:=Xh [5] (Jw (Je [] (Ym 5 (aOp aIx (J6 4) (aC (.int 1)))))
  (Jw (Je [] (Yr (Y5 (aOp aEq (aOp aIx (J6 4) (aC (.int 0))) (aC (.str ("field" : Str))))) (Je [5] (Ym 5 (Ud (aCB Bi (J1 (aOp aIx (J6 1) (aOp Vc (aC (.int 1)) (Gy (J6 2) (aOp aIx (J6 4) (aC (.int 1)))))) (Ja)))))) (Yt)))
  (Je [4] (Ym 3 (Ud (aOp Vc (J6 3) (J6 5)))))))
theorem cjbdZ0nn1 {spZ09 : ASp} : CS (bdZ0nn1 spZ09):=(Hg (Jy (Jf (Yq (Jb Ye J8 J5))) (Jy (Jf (Yx (Ya (Jb Um (Jb Ye J8 J5) J5)) (Jf (Yq (Uu (Yp JWo (J3 (Jb Ye J8 (Jb Vr J5 (JZy J8 (Jb Ye J8 J5)))) Jc))))) Yz)) (Jf (Yq (Uu (Jb Vr J8 J8)))))))
def rsZ0nn4 (spZ09 : ASp) : AS:=Je [2] (Yd (J6 3))
theorem cjrsZ0nn4 {spZ09 : ASp} : CS (rsZ0nn4 spZ09):=(Jf (Yk J8))
def rsZ0nn3 (spZ09 : ASp) : AS:=Jw (Je [] (Wn (Vo (J6 0)) (Ub 4) (bdZ0nn1 spZ09))) (rsZ0nn4 spZ09)
theorem cjrsZ0nn3 {spZ09 : ASp} : CS (rsZ0nn3 spZ09):=(Jy (Jf (Zo (Wc J8) Uj cjbdZ0nn1)) cjrsZ0nn4)
def rsZ0nn2 (spZ09 : ASp) : AS:=Jw (Je [] (Ym 3 (aC (.str ("" : Str))))) (rsZ0nn3 spZ09)
theorem cjrsZ0nn2 {spZ09 : ASp} : CS (rsZ0nn2 spZ09):=(Jy (Jf (Yq J5)) cjrsZ0nn3)
def asZ0n (spZ09 : ASp) : AS:=Jw (Ym 2 (Ud (Y4 spZ09 [] (J1 (aOp aIx (J6 1) (aC (.int 0))) (Ja))))) (rsZ0nn2 spZ09)
theorem cjZ0n {spZ09 : ASp} : CS (asZ0n spZ09):=(Jy (Yq (Uu (Y7 (J3 (Jb Ye J8 J5) Jc)))) cjrsZ0nn2)
def rsZ0pn3 (spZ0r spZ0m : ASp) : AS:=Je [] (Yd (aOp aEq (aCB Kw (J1 (aLc (Vo (J6 0)) (Xa 2 (W4 (Ub 3) (W4 (Ub 4) (Xc)))) (Y5 (aOp aEq (J6 3) (aC (.str ("field" : Str))))) (J6 4) [3,4]) (Ja))) (aCB Ki (J1 (J6 1) (Ja)))))
theorem cjrsZ0pn3 {spZ0r spZ0m : ASp} : CS (rsZ0pn3 spZ0r spZ0m):=(Jf (Yk (Jb Um (Yp JL4 (J3 (B6 (Wc J8) (Fu (Wo Uj (Wo Uj G3))) (Ya (Jb Um J8 J5)) J8) Jc)) (Yp JLq (J3 J8 Jc)))))
def rsZ0pn2 (spZ0r spZ0m : ASp) : AS:=Jw (Je [] (Yr (Uc (Y5 (aCB Xb (J1 (aLc (Vo (J6 0)) (Ub 2) (Za) (Y4 spZ0m [] (J1 (J6 2) (J1 (J6 1) (Ja)))) [2]) (Ja))))) (Je [] (Yd (aC (.bl false)))) (Yt))) (rsZ0pn3 spZ0r spZ0m)
theorem cjrsZ0pn2 {spZ0r spZ0m : ASp} : CS (rsZ0pn2 spZ0r spZ0m):=(Jy (Jf (Yx (Ut (Ya (Yp Gp (J3 (B6 (Wc J8) Uj B3 (Y7 (J3 J8 (J3 J8 Jc)))) Jc)))) (Jf (Yk J5)) Yz)) cjrsZ0pn3)
def asZ0p (spZ0r spZ0m : ASp) : AS:=Jw (Yr (Uq (Uc (Y5 (Y4 spZ0r [] (J1 (J6 0) (Ja))))) (Uc (Y5 (Zh aLe aLe (aC (.int 1)) (aCB Uo (J1 (J6 0) (Ja))) (aC (.int 15)))))) (Je [] (Yd (aC (.bl false)))) (Yt)) (rsZ0pn2 spZ0r spZ0m)
theorem cjZ0p {spZ0r spZ0m : ASp} : CS (asZ0p spZ0r spZ0m):=(Jy (Yx (V0 (Ut (Ya (Y7 (J3 J8 Jc)))) (Ut (Ya (Kj Xg Xg J5 (Yp V3 (J3 J8 Jc)) J5)))) (Jf (Yk J5)) Yz) cjrsZ0pn2)
def rsZ0in2 (K : Fg) (J9 Jm : Addr) : AS:=Je [] (Yd (aOp aIx (aUn (Kg J9 ("_shapes" : Str)) (J6 0)) (J6 1)))
theorem cjrsZ0in2 {K : Fg} {J9 Jm : Addr} : CS (rsZ0in2 K J9 Jm):=(Jf (Yk (Jb Ye (Va JHd J8) J8)))
def asZ0i (K : Fg) (J9 Jm : Addr) : AS:=Jw (Yr (Uq (Uc (Y5 (aUn (Uv K [(.type "str")]) (J6 1)))) (Y5 (aOp (aIn true) (J6 1) (aC (.tup [.str ("row" : Str),.str ("fix" : Str),.str ("gone" : Str)]))))) (Je [] (B0 Jm ("value" : Str) (J6 1))) (Yt)) (rsZ0in2 K J9 Jm)
theorem cjZ0i {K : Fg} {J9 Jm : Addr} : CS (asZ0i K J9 Jm):=(Jy (Yx (V0 (Ut (Ya (Va Vf J8))) (Ya (Jb Fm J8 J5))) (Jf (Ky J8)) Yz) cjrsZ0in2)
def asZ0e (K : Fg) (Jm J9 : Addr) : AS:=Yr (Uc (Y5 (aUn (Uv K [(.ref J9)]) (Y0 0)))) (Je [] (B0 Jm ("value" : Str) (Y0 0))) (Yt)
theorem cjZ0e {K : Fg} {Jm J9 : Addr} : CS (asZ0e K Jm J9):=(Yx (Ut (Ya (Va Vf Y1))) (Jf (Ky Y1)) Yz)
def rsZ0on5 (K : Fg) (spZ0s spZ0q spZ05 : ASp) : AS:=Je [] (Yd (W3 (aOp aEq (aOp aIx (J6 0) (aC (.int 0))) (aC (.str ("gone" : Str)))) (W3 (aOp aEq (aCB Uo (J1 (J6 0) (Ja))) (aC (.int 3))) (Y4 spZ05 [] (J1 (Ud (Zk (J6 0) (Zm (aC (.int 2))) (Zi))) (Ja))))))
theorem cjrsZ0on5 {K : Fg} {spZ0s spZ0q spZ05 : ASp} : CS (rsZ0on5 K spZ0s spZ0q spZ05):=(Jf (Yk (Wx (Jb Um (Jb Ye J8 J5) J5) (Wx (Jb Um (Yp V3 (J3 J8 Jc)) J5) (Y7 (J3 (Uu (F7 J8 (F3 J5) F1)) Jc))))))
def rsZ0on4 (K : Fg) (spZ0s spZ0q spZ05 : ASp) : AS:=Jw (Je [] (Yr (Y5 (aOp aEq (aOp aIx (J6 0) (aC (.int 0))) (aC (.str ("fix" : Str))))) (Je [] (Yd (W3 (aOp aEq (aCB Uo (J1 (J6 0) (Ja))) (aC (.int 5))) (Y4 spZ05 [] (J1 (Ud (Zk (J6 0) (Zm (aC (.int 2))) (Zi))) (Ja)))))) (Yt))) (rsZ0on5 K spZ0s spZ0q spZ05)
theorem cjrsZ0on4 {K : Fg} {spZ0s spZ0q spZ05 : ASp} : CS (rsZ0on4 K spZ0s spZ0q spZ05):=(Jy (Jf (Yx (Ya (Jb Um (Jb Ye J8 J5) J5)) (Jf (Yk (Wx (Jb Um (Yp V3 (J3 J8 Jc)) J5) (Y7 (J3 (Uu (F7 J8 (F3 J5) F1)) Jc))))) Yz)) cjrsZ0on5)
def rsZ0on3 (K : Fg) (spZ0s spZ0q spZ05 : ASp) : AS:=Jw (Je [] (Yr (Y5 (aOp aEq (aOp aIx (J6 0) (aC (.int 0))) (aC (.str ("row" : Str))))) (Je [] (Yd (W3 (aOp aEq (aCB Uo (J1 (J6 0) (Ja))) (aC (.int 7))) (W3 (Y4 spZ0q [] (J1 (aOp aIx (J6 0) (aC (.int 2))) (Ja))) (W3 (Y4 spZ0q [] (J1 (aOp aIx (J6 0) (aC (.int 3))) (Ja))) (Y4 spZ05 [] (J1 (Ud (Zk (J6 0) (Zm (aC (.int 4))) (Zi))) (Ja)))))))) (Yt))) (rsZ0on4 K spZ0s spZ0q spZ05)
theorem cjrsZ0on3 {K : Fg} {spZ0s spZ0q spZ05 : ASp} : CS (rsZ0on3 K spZ0s spZ0q spZ05):=(Jy (Jf (Yx (Ya (Jb Um (Jb Ye J8 J5) J5)) (Jf (Yk (Wx (Jb Um (Yp V3 (J3 J8 Jc)) J5) (Wx (Y7 (J3 (Jb Ye J8 J5) Jc)) (Wx (Y7 (J3 (Jb Ye J8 J5) Jc)) (Y7 (J3 (Uu (F7 J8 (F3 J5) F1)) Jc))))))) Yz)) cjrsZ0on4)
def rsZ0on2 (K : Fg) (spZ0s spZ0q spZ05 : ASp) : AS:=Jw (Je [] (Yr (Uc (Y5 (Y4 spZ0s [] (J1 (aOp aIx (J6 0) (aC (.int 1))) (Ja))))) (Je [] (Yd (aC (.bl false)))) (Yt))) (rsZ0on3 K spZ0s spZ0q spZ05)
theorem cjrsZ0on2 {K : Fg} {spZ0s spZ0q spZ05 : ASp} : CS (rsZ0on2 K spZ0s spZ0q spZ05):=(Jy (Jf (Yx (Ut (Ya (Y7 (J3 (Jb Ye J8 J5) Jc)))) (Jf (Yk J5)) Yz)) cjrsZ0on3)
def asZ0o (K : Fg) (spZ0s spZ0q spZ05 : ASp) : AS:=Jw (Yr (Uq (Uc (Y5 (aUn (Uv K [(.type "tuple")]) (J6 0)))) (Uq (Y5 (aOp aLt (aCB Uo (J1 (J6 0) (Ja))) (aC (.int 3)))) (Uc (Y5 (aUn (Uv K [(.type "str")]) (aOp aIx (J6 0) (aC (.int 0)))))))) (Je [] (Yd (aC (.bl false)))) (Yt)) (rsZ0on2 K spZ0s spZ0q spZ05)
theorem cjZ0o {K : Fg} {spZ0s spZ0q spZ05 : ASp} : CS (asZ0o K spZ0s spZ0q spZ05):=(Jy (Yx (V0 (Ut (Ya (Va Vf J8))) (V0 (Ya (Jb B7 (Yp V3 (J3 J8 Jc)) J5)) (Ut (Ya (Va Vf (Jb Ye J8 J5)))))) (Jf (Yk J5)) Yz) cjrsZ0on2)
def bdZ0hn1 (spZ0c spZ09 spZ0j spZ0k : ASp) : AS:=Xh [6] (Jw (Je [] (Yr (Y5 (aOp aLt (Y4 spZ0j [] (J1 (Y0 0) (J1 (aC (.int 4)) (Ja)))) (J6 3))) (Je [] (Wv (B9 (Y0 5) (Wa (J1 (aC (.str ("mark" : Str))) (J1 (Y4 spZ0k [] (J1 (Y0 0) (J1 (J6 2) (J1 (J6 4) (Ja))))) (Ja))))))) (Yt)))
  (Je [] (Wv (B9 (Y0 5) (Wa (J1 (aC (.str ("field" : Str))) (J1 (J6 6) (Ja))))))))
theorem cjbdZ0hn1 {spZ0c spZ09 spZ0j spZ0k : ASp} : CS (bdZ0hn1 spZ0c spZ09 spZ0j spZ0k):=(Hg (Jy (Jf (Yx (Ya (Jb B7 (Y7 (J3 Y1 (J3 J5 Jc))) J8)) (Jf (Xd (Hv Y1 (Z7 (J3 J5 (J3 (Y7 (J3 Y1 (J3 J8 (J3 J8 Jc)))) Jc)))))) Yz)) (Jf (Xd (Hv Y1 (Z7 (J3 J5 (J3 J8 Jc))))))))
def rsZ0hn4 (spZ0c spZ09 spZ0j spZ0k : ASp) : AS:=Je [] (Yd (Y0 5))
theorem cjrsZ0hn4 {spZ0c spZ09 spZ0j spZ0k : ASp} : CS (rsZ0hn4 spZ0c spZ09 spZ0j spZ0k):=(Jf (Yk Y1))
def rsZ0hn3 (spZ0c spZ09 spZ0j spZ0k : ASp) : AS:=Jw (Je [] (Yr (Y5 (aOp aLt (Y4 spZ0j [] (J1 (Y0 0) (J1 (aC (.int 4)) (Ja)))) (J6 3))) (Je [] (Wv (B9 (Y0 5) (Wa (J1 (aC (.str ("mark" : Str))) (J1 (Y4 spZ0k [] (J1 (Y0 0) (J1 (J6 2) (J1 (J6 4) (Ja))))) (Ja))))))) (Yt))) (rsZ0hn4 spZ0c spZ09 spZ0j spZ0k)
theorem cjrsZ0hn3 {spZ0c spZ09 spZ0j spZ0k : ASp} : CS (rsZ0hn3 spZ0c spZ09 spZ0j spZ0k):=(Jy (Jf (Yx (Ya (Jb B7 (Y7 (J3 Y1 (J3 J5 Jc))) J8)) (Jf (Xd (Hv Y1 (Z7 (J3 J5 (J3 (Y7 (J3 Y1 (J3 J8 (J3 J8 Jc)))) Jc)))))) Yz)) cjrsZ0hn4)
def rsZ0hn2 (spZ0c spZ09 spZ0j spZ0k : ASp) : AS:=Jw (Je [] (Wn (Vo (Y4 spZ0c [] (J1 (Y0 0) (J1 (Ud (Y4 spZ09 [] (J1 (J6 1) (Ja)))) (Ja))))) (Ub 6) (bdZ0hn1 spZ0c spZ09 spZ0j spZ0k))) (rsZ0hn3 spZ0c spZ09 spZ0j spZ0k)
theorem cjrsZ0hn2 {spZ0c spZ09 spZ0j spZ0k : ASp} : CS (rsZ0hn2 spZ0c spZ09 spZ0j spZ0k):=(Jy (Jf (Zo (Wc (Y7 (J3 Y1 (J3 (Uu (Y7 (J3 J8 Jc))) Jc)))) Uj cjbdZ0hn1)) cjrsZ0hn3)
def asZ0h (spZ0c spZ09 spZ0j spZ0k : ASp) : AS:=Jw (Ym 5 (Vd (Ja))) (rsZ0hn2 spZ0c spZ09 spZ0j spZ0k)
theorem cjZ0h {spZ0c spZ09 spZ0j spZ0k : ASp} : CS (asZ0h spZ0c spZ09 spZ0j spZ0k):=(Jy (Yq (W1 Jc)) cjrsZ0hn2)
def rsZ0dn5 (spZ0j spZ06 spZ0l : ASp) : AS:=Je [] (Yd (Wa (J1 (J6 1) (J1 (J6 2) (J1 (Y4 spZ06 [] (J1 (Y0 0) (Ja))) (Ja))))))
theorem cjrsZ0dn5 {spZ0j spZ06 spZ0l : ASp} : CS (rsZ0dn5 spZ0j spZ06 spZ0l):=(Jf (Yk (Z7 (J3 J8 (J3 J8 (J3 (Y7 (J3 Y1 Jc)) Jc))))))
def rsZ0dn4 (spZ0j spZ06 spZ0l : ASp) : AS:=Jw (Je [3] (Yr (Y5 (aOp aEq (J6 1) (aC (.str ("fix" : Str))))) (Je [] (Yd (Wa (J1 (J6 1) (J1 (J6 2) (J1 (Y4 spZ06 [] (J1 (Y0 0) (Ja))) (J1 (Y4 spZ06 [] (J1 (Y0 0) (Ja))) (J1 (Y4 spZ06 [] (J1 (Y0 0) (Ja))) (Ja))))))))) (Yt))) (rsZ0dn5 spZ0j spZ06 spZ0l)
theorem cjrsZ0dn4 {spZ0j spZ06 spZ0l : ASp} : CS (rsZ0dn4 spZ0j spZ06 spZ0l):=(Jy (Jf (Yx (Ya (Jb Um J8 J5)) (Jf (Yk (Z7 (J3 J8 (J3 J8 (J3 (Y7 (J3 Y1 Jc)) (J3 (Y7 (J3 Y1 Jc)) (J3 (Y7 (J3 Y1 Jc)) Jc)))))))) Yz)) cjrsZ0dn5)
def rsZ0dn3 (spZ0j spZ06 spZ0l : ASp) : AS:=Jw (Je [] (Yr (Y5 (aOp aEq (J6 1) (aC (.str ("row" : Str))))) (Jw (Je [] (Ym 3 (Ud (Vd (J1 (Y4 spZ0l [] (J1 (Y0 0) (J1 (aC (.int 8)) (Ja)))) (J1 (Y4 spZ0l [] (J1 (Y0 0) (J1 (aC (.int 8)) (Ja)))) (Ja)))))))
  (Je [] (Yd (Wa (J1 (J6 1) (J1 (J6 2) (J1 (aOp aIx (J6 3) (aC (.int 0))) (J1 (aOp aIx (J6 3) (aC (.int 1))) (J1 (Y4 spZ06 [] (J1 (Y0 0) (Ja))) (J1 (Y4 spZ06 [] (J1 (Y0 0) (Ja))) (J1 (Y4 spZ06 [] (J1 (Y0 0) (Ja))) (Ja)))))))))))) (Yt))) (rsZ0dn4 spZ0j spZ06 spZ0l)
theorem cjrsZ0dn3 {spZ0j spZ06 spZ0l : ASp} : CS (rsZ0dn3 spZ0j spZ06 spZ0l):=(Jy (Jf (Yx (Ya (Jb Um J8 J5)) (Jy (Jf (Yq (Uu (W1 (J3 (Y7 (J3 Y1 (J3 J5 Jc))) (J3 (Y7 (J3 Y1 (J3 J5 Jc))) Jc)))))) (Jf (Yk (Z7 (J3 J8 (J3 J8 (J3 (Jb Ye J8 J5) (J3 (Jb Ye J8 J5) (J3 (Y7 (J3 Y1 Jc)) (J3 (Y7 (J3 Y1 Jc)) (J3 (Y7 (J3 Y1 Jc)) Jc))))))))))) Yz)) cjrsZ0dn4)
def rsZ0dn2 (spZ0j spZ06 spZ0l : ASp) : AS:=Jw (Je [] (Ym 2 (aCB Hc (J1 (Y4 spZ06 [] (J1 (Y0 0) (Ja))) (Ja))))) (rsZ0dn3 spZ0j spZ06 spZ0l)
theorem cjrsZ0dn2 {spZ0j spZ06 spZ0l : ASp} : CS (rsZ0dn2 spZ0j spZ06 spZ0l):=(Jy (Jf (Yq (Yp Sd (J3 (Y7 (J3 Y1 Jc)) Jc)))) cjrsZ0dn3)
def asZ0d (spZ0j spZ06 spZ0l : ASp) : AS:=Jw (Ym 1 (aOp aIx (Vd (J1 (aC (.str ("row" : Str))) (J1 (aC (.str ("fix" : Str))) (J1 (aC (.str ("gone" : Str))) (Ja))))) (Y4 spZ0j [] (J1 (Y0 0) (J1 (aC (.int 3)) (Ja)))))) (rsZ0dn2 spZ0j spZ06 spZ0l)
theorem cjZ0d {spZ0j spZ06 spZ0l : ASp} : CS (asZ0d spZ0j spZ06 spZ0l):=(Jy (Yq (Jb Ye (W1 (J3 J5 (J3 J5 (J3 J5 Jc)))) (Y7 (J3 Y1 (J3 J5 Jc))))) cjrsZ0dn2)
def bdZ02n1 (J9 Jm : Addr) (spZ0p : ASp) : AS:=Je [] (Yr (Uc (Y5 (Y4 spZ0p [] (J1 (aOp aIx (J6 4) (J6 5)) (J1 (H9 T_FIELDS (J6 5)) (Ja)))))) (Je [4] (B0 Jm ("value" : Str) (J6 5))) (Yt))
theorem cjbdZ02n1 {J9 Jm : Addr} {spZ0p : ASp} : CS (bdZ02n1 J9 Jm spZ0p):=(Jf (Yx (Ut (Ya (Y7 (J3 (Jb Ye J8 J8) (J3 (E3 J8) Jc))))) (Jf (Ky J8)) Yz))
def rsZ02n3 (J9 Jm : Addr) (spZ0p : ASp) : AS:=Je [5] (L7 J9 ("_shapes" : Str) (aDc (Vo (aC (.tup [.str ("row" : Str),.str ("fix" : Str),.str ("gone" : Str)]))) (Ub 5) (Za) (J6 5) (aCB Xw (J1 (aOp aIx (J6 4) (J6 5)) (Ja))) [5]) (Y0 0))
theorem cjrsZ02n3 {J9 Jm : Addr} {spZ0p : ASp} : CS (rsZ02n3 J9 Jm spZ0p):=(Jf (JFs (Qq (Wc J5) Uj B3 J8 (Yp JU4 (J3 (Jb Ye J8 J8) Jc))) Y1))
def rsZ02n2 (J9 Jm : Addr) (spZ0p : ASp) : AS:=Jw (Je [] (Wn (Vo (aC (.tup [.str ("row" : Str),.str ("fix" : Str),.str ("gone" : Str)]))) (Ub 5) (bdZ02n1 J9 Jm spZ0p))) (rsZ02n3 J9 Jm spZ0p)
theorem cjrsZ02n2 {J9 Jm : Addr} {spZ0p : ASp} : CS (rsZ02n2 J9 Jm spZ0p):=(Jy (Jf (Zo (Wc J5) Uj cjbdZ02n1)) cjrsZ02n3)
def asZ02 (J9 Jm : Addr) (spZ0p : ASp) : AS:=Jw (Ym 4 (Ud (L9 [(aC (.str ("row" : Str)),J6 1),(aC (.str ("fix" : Str)),J6 2),(aC (.str ("gone" : Str)),J6 3)]))) (rsZ02n2 J9 Jm spZ0p)
theorem cjZ02 {J9 Jm : Addr} {spZ0p : ASp} : CS (asZ02 J9 Jm spZ0p):=(Jy (Yq (Uu (JGf (O7 J5 J8 (O7 J5 J8 (O7 J5 J8 JFy)))))) cjrsZ02n2)
def bdZ0gn1 (J9 Y3 : Addr) (spZ0e spZ0o spZ0i : ASp) : AS:=Xh [3,6] (Je [] (Wv (B9 (Y0 5) (aIf (Y5 (aOp aEq (J6 6) (aC (.str ("mark" : Str))))) (J6 3) (aCB Bi (J1 (aOp aIx (J6 2) (J6 3)) (Ja)))))))
theorem cjbdZ0gn1 {J9 Y3 : Addr} {spZ0e spZ0o spZ0i : ASp} : CS (bdZ0gn1 J9 Y3 spZ0e spZ0o spZ0i):=(Hg (Jf (Xd (Hv Y1 (JM2 (Ya (Jb Um J8 J5)) J8 (Yp JWo (J3 (Jb Ye J8 J8) Jc)))))))
def rsZ0gn6 (J9 Y3 : Addr) (spZ0e spZ0o spZ0i : ASp) : AS:=Je [2] (Yd (Hr (aC (.str ("" : Str))) (Y0 5)))
theorem cjrsZ0gn6 {J9 Y3 : Addr} {spZ0e spZ0o spZ0i : ASp} : CS (rsZ0gn6 J9 Y3 spZ0e spZ0o spZ0i):=(Jf (Yk (JBg J5 Y1)))
def rsZ0gn5 (J9 Y3 : Addr) (spZ0e spZ0o spZ0i : ASp) : AS:=Jw (Je [] (Wn (Vo (Xp J9 ("shape" : Str) spZ0i [] (J6 0) (J1 (aOp aIx (J6 1) (aC (.int 0))) (Ja)))) (Xa 2 (W4 (Ub 6) (W4 (Ub 3) (Xc)))) (bdZ0gn1 J9 Y3 spZ0e spZ0o spZ0i))) (rsZ0gn6 J9 Y3 spZ0e spZ0o spZ0i)
theorem cjrsZ0gn5 {J9 Y3 : Addr} {spZ0e spZ0o spZ0i : ASp} : CS (rsZ0gn5 J9 Y3 spZ0e spZ0o spZ0i):=(Jy (Jf (Zo (Wc (JKi J8 (J3 (Jb Ye J8 J5) Jc))) (Fu (Wo Uj (Wo Uj G3))) cjbdZ0gn1)) cjrsZ0gn6)
def rsZ0gn4 (J9 Y3 : Addr) (spZ0e spZ0o spZ0i : ASp) : AS:=Jw (Je [] (Ym 5 (Vd (Ja)))) (rsZ0gn5 J9 Y3 spZ0e spZ0o spZ0i)
theorem cjrsZ0gn4 {J9 Y3 : Addr} {spZ0e spZ0o spZ0i : ASp} : CS (rsZ0gn4 J9 Y3 spZ0e spZ0o spZ0i):=(Jy (Jf (Yq (W1 Jc))) cjrsZ0gn5)
def rsZ0gn3 (J9 Y3 : Addr) (spZ0e spZ0o spZ0i : ASp) : AS:=Jw (Je [3] (Ym 2 (Ud (aDc (Kq (J1 (Ud (H9 T_FIELDS (aOp aIx (J6 1) (aC (.int 0))))) (J1 (Ud (Zk (J6 1) (Zm (aC (.int 1))) (Zi))) (Ja)))) (Xa 2 (W4 (Ub 3) (W4 (Ub 4) (Xc)))) (Za) (J6 3) (J6 4) [3,4])))) (rsZ0gn4 J9 Y3 spZ0e spZ0o spZ0i)
theorem cjrsZ0gn3 {J9 Y3 : Addr} {spZ0e spZ0o spZ0i : ASp} : CS (rsZ0gn3 J9 Y3 spZ0e spZ0o spZ0i):=(Jy (Jf (Yq (Uu (Qq (JOh (J3 (Uu (E3 (Jb Ye J8 J5))) (J3 (Uu (F7 J8 (F3 J5) F1)) Jc))) (Fu (Wo Uj (Wo Uj G3))) B3 J8 J8)))) cjrsZ0gn4)
def rsZ0gn2 (J9 Y3 : Addr) (spZ0e spZ0o spZ0i : ASp) : AS:=Jw (Je [] (Yr (Uc (Y5 (Y4 spZ0o [] (J1 (J6 1) (Ja))))) (Je [] (B0 Y3 ("at" : Str) (aC (.int 0)))) (Yt))) (rsZ0gn3 J9 Y3 spZ0e spZ0o spZ0i)
theorem cjrsZ0gn2 {J9 Y3 : Addr} {spZ0e spZ0o spZ0i : ASp} : CS (rsZ0gn2 J9 Y3 spZ0e spZ0o spZ0i):=(Jy (Jf (Yx (Ut (Ya (Y7 (J3 J8 Jc)))) (Jf (Ky J5)) Yz)) cjrsZ0gn3)
def asZ0g (J9 Y3 : Addr) (spZ0e spZ0o spZ0i : ASp) : AS:=Jw (Wv (Y4 spZ0e [] (J1 (J6 0) (Ja)))) (rsZ0gn2 J9 Y3 spZ0e spZ0o spZ0i)
theorem cjZ0g {J9 Y3 : Addr} {spZ0e spZ0o spZ0i : ASp} : CS (asZ0g J9 Y3 spZ0e spZ0o spZ0i):=(Jy (Xd (Y7 (J3 J8 Jc))) cjrsZ0gn2)
def rsZ0an5 (K : Fg) (Y3 Jm U7 : Addr) (spZ0g : ASp) : AS:=Je [5] (Yd (Wa (J1 (J6 2) (J1 (J6 3) (J1 (J6 4) (Ja))))))
theorem cjrsZ0an5 {K : Fg} {Y3 Jm U7 : Addr} {spZ0g : ASp} : CS (rsZ0an5 K Y3 Jm U7 spZ0g):=(Jf (Yk (Z7 (J3 J8 (J3 J8 (J3 J8 Jc))))))
def rsZ0an4 (K : Fg) (Y3 Jm U7 : Addr) (spZ0g : ASp) : AS:=Jw (Je [] (K8 K [(Y3,some 5,(fun fs=>Jw (Je [3,4] (Ym 3 (Wa (J1 (aC (.str ("entry" : Str))) (J1 (aXf fs ("at" : Str)) (Ja))))))
  (Je [] (Ym 4 (H8 K Y3 (.ref U7)))))),(Jm,some 5,(fun fs=>Jw (Je [3,4] (Ym 3 (Wa (J1 (aC (.str ("form" : Str))) (J1 (aXf fs ("value" : Str)) (Ja))))))
  (Je [] (Ym 4 (H8 K Jm (.ref U7))))))] (Je [] (Ym 2 (Ud (Y4 spZ0g [] (J1 (J6 0) (J1 (J6 1) (Ja))))))))) (rsZ0an5 K Y3 Jm U7 spZ0g)
theorem cjrsZ0an4 {K : Fg} {Y3 Jm U7 : Addr} {spZ0g : ASp} : CS (rsZ0an4 K Y3 Jm U7 spZ0g):=(Jy (Jf (JGp (CHL.cons (fun fs=>(Jy (Jf (Yq (Z7 (J3 J5 (J3 A1 Jc))))) (Jf (Yq JUg)))) (CHL.cons (fun fs=>(Jy (Jf (Yq (Z7 (J3 J5 (J3 A1 Jc))))) (Jf (Yq JUg)))) CHL.nil)) (Jf (Yq (Uu (Y7 (J3 J8 (J3 J8 Jc)))))))) cjrsZ0an5)
def rsZ0an3 (K : Fg) (Y3 Jm U7 : Addr) (spZ0g : ASp) : AS:=Jw (Je [] (Ym 4 (aC (.bl true)))) (rsZ0an4 K Y3 Jm U7 spZ0g)
theorem cjrsZ0an3 {K : Fg} {Y3 Jm U7 : Addr} {spZ0g : ASp} : CS (rsZ0an3 K Y3 Jm U7 spZ0g):=(Jy (Jf (Yq J5)) cjrsZ0an4)
def rsZ0an2 (K : Fg) (Y3 Jm U7 : Addr) (spZ0g : ASp) : AS:=Jw (Je [] (Ym 3 (aC .non))) (rsZ0an3 K Y3 Jm U7 spZ0g)
theorem cjrsZ0an2 {K : Fg} {Y3 Jm U7 : Addr} {spZ0g : ASp} : CS (rsZ0an2 K Y3 Jm U7 spZ0g):=(Jy (Jf (Yq J5)) cjrsZ0an3)
def asZ0a (K : Fg) (Y3 Jm U7 : Addr) (spZ0g : ASp) : AS:=Jw (Ym 2 (aC .non)) (rsZ0an2 K Y3 Jm U7 spZ0g)
theorem cjZ0a {K : Fg} {Y3 Jm U7 : Addr} {spZ0g : ASp} : CS (asZ0a K Y3 Jm U7 spZ0g):=(Jy (Yq J5) cjrsZ0an2)
def bdZ0tn1 (K : Fg) (J9 : Addr) (spZ08 spZ0h spZ0f spZ0j spZ0d spZ03 spZ0a spZ01 spZ0n spZ02 : ASp) : AS:=Xh [2,3] (Jw (Je [] (Ym 3 (Y4 spZ08 [] (J1 (J6 0) (J1 (Ud (Gy (Vd (J1 (aC (.str ("row" : Str))) (J1 (aC (.str ("fix" : Str))) (J1 (aC (.str ("gone" : Str))) (Ja))))) (J6 2))) (Ja))))))
  (Je [] (Bc (Y4 spZ0h [] (J1 (Y0 3) (J1 (J6 2) (J1 (Ud (Y4 spZ0f [] (Ja))) (J1 (Y4 spZ0j [] (J1 (Y0 3) (J1 (aC (.int 5)) (Ja)))) (J1 (aC (.int 6)) (Ja))))))) (Y0 1) (J6 2))))
theorem cjbdZ0tn1 {K : Fg} {J9 : Addr} {spZ08 spZ0h spZ0f spZ0j spZ0d spZ03 spZ0a spZ01 spZ0n spZ02 : ASp} : CS (bdZ0tn1 K J9 spZ08 spZ0h spZ0f spZ0j spZ0d spZ03 spZ0a spZ01 spZ0n spZ02):=(Hg (Jy (Jf (Yq (Y7 (J3 J8 (J3 (Uu (JZy (W1 (J3 J5 (J3 J5 (J3 J5 Jc)))) J8)) Jc))))) (Jf (K3 (Y7 (J3 Y1 (J3 J8 (J3 (Uu (Y7 Jc)) (J3 (Y7 (J3 Y1 (J3 J5 Jc))) (J3 J5 Jc)))))) Y1 J8))))
def bdZ0tn2 (K : Fg) (J9 : Addr) (spZ08 spZ0h spZ0f spZ0j spZ0d spZ03 spZ0a spZ01 spZ0n spZ02 : ASp) : AS:=Jw (Je [] (Ym 3 (Y4 spZ08 [] (J1 (J6 0) (J1 (J6 5) (Ja))))))
  (Jw (Je [5] (Ym 6 (Y4 spZ0j [] (J1 (Y0 3) (J1 (aC (.int 2)) (Ja))))))
  (Jw (Je [] (Ym 7 (Ud (Y4 spZ0d [] (J1 (Y0 3) (Ja))))))
  (Jw (Je [] (Yr (Y5 (aOp aEq (J6 6) (aC (.int 1)))) (Je [6] (Ym 7 (Ud (Y4 spZ03 [] (J1 (Y0 3) (J1 (J6 7) (Ja))))))) (Yt)))
  (Jw (Je [3,6] (G5 (Xa 3 (W4 (Ub 8) (W4 (Ub 9) (W4 (Ub 10) (Xc))))) (Y4 spZ0a [] (J1 (Ud (Y0 4)) (J1 (J6 7) (Ja))))))
  (Jw (Je [] (Yr (Y5 (Y4 spZ01 [] (J1 (J6 7) (Ja)))) (Je [] (Yr (Uq (Y5 (aOp La (J6 9) (aC .non))) (Uq (Uc (Y5 (aUn (Uv K [(.type "str")]) (J6 8)))) (Y5 (aOp aNe (J6 8) (Y4 spZ0n [] (J1 (aOp aIx (Y0 1) (aOp aIx (J6 7) (aC (.int 0)))) (J1 (J6 7) (Ja)))))))) (Je [1,4,7,8,9,10] (Yd (aC (.bl false)))) (Yt))) (Je [] (Yr (Uq (Y5 (aOp (Lg Gk0) (J6 9) (Wa (J1 (aC (.str ("entry" : Str))) (J1 (aC (.int 0)) (Ja)))))) (Uc (Y5 (J6 10)))) (Je [1,4,7,8,9,10] (Yd (aC (.bl false)))) (Yt)))))
  (Jw (Je [] (G5 (Xa 3 (W4 (Ub 8) (W4 (Ub 9) (W4 (Ub 10) (Xc))))) (Y4 spZ0a [] (J1 (Ud (Y0 1)) (J1 (J6 7) (Ja))))))
  (Je [7] (Yr (Uq (Y5 (aOp aIs (J6 9) (aC .non))) (Uq (Y5 (aOp aNe (aOp aIx (J6 9) (aC (.int 0))) (aC (.str ("form" : Str))))) (Uq (Y5 (aOp Ln (aOp aIx (J6 9) (aC (.int 1))) (Y0 1))) (Uc (Y5 (J6 10)))))) (Je [1,4,8,9,10] (Yd (aC (.bl false)))) (Yt)))))))))
theorem cjbdZ0tn2 {K : Fg} {J9 : Addr} {spZ08 spZ0h spZ0f spZ0j spZ0d spZ03 spZ0a spZ01 spZ0n spZ02 : ASp} : CS (bdZ0tn2 K J9 spZ08 spZ0h spZ0f spZ0j spZ0d spZ03 spZ0a spZ01 spZ0n spZ02):=(Jy (Jf (Yq (Y7 (J3 J8 (J3 J8 Jc))))) (Jy (Jf (Yq (Y7 (J3 Y1 (J3 J5 Jc))))) (Jy (Jf (Yq (Uu (Y7 (J3 Y1 Jc))))) (Jy (Jf (Yx (Ya (Jb Um J8 J5)) (Jf (Yq (Uu (Y7 (J3 Y1 (J3 J8 Jc)))))) Yz)) (Jy (Jf (JZz (Fu (Wo Uj (Wo Uj (Wo Uj G3)))) (Y7 (J3 (Uu Y1) (J3 J8 Jc))))) (Jy (Jf (Yx (Ya (Y7 (J3 J8 Jc))) (Jf (Yx (V0 (Ya (Jb JFw J8 J5)) (V0 (Ut (Ya (Va Vf J8))) (Ya (Jb Kl J8 (Y7 (J3 (Jb Ye Y1 (Jb Ye J8 J5)) (J3 J8 Jc))))))) (Jf (Yk J5)) Yz)) (Jf (Yx (V0 (Ya (Jb JXg J8 (Z7 (J3 J5 (J3 J5 Jc))))) (Ut (Ya J8))) (Jf (Yk J5)) Yz)))) (Jy (Jf (JZz (Fu (Wo Uj (Wo Uj (Wo Uj G3)))) (Y7 (J3 (Uu Y1) (J3 J8 Jc))))) (Jf (Yx (V0 (Ya (Jb JMs J8 J5)) (V0 (Ya (Jb Kl (Jb Ye J8 J5) J5)) (V0 (Ya (Jb JP8 (Jb Ye J8 J5) Y1)) (Ut (Ya J8))))) (Jf (Yk J5)) Yz)))))))))
def rsZ0tn5 (K : Fg) (J9 : Addr) (spZ08 spZ0h spZ0f spZ0j spZ0d spZ03 spZ0a spZ01 spZ0n spZ02 : ASp) : AS:=Je [1,4,8,9,10] (Yd (aC (.bl true)))
theorem cjrsZ0tn5 {K : Fg} {J9 : Addr} {spZ08 spZ0h spZ0f spZ0j spZ0d spZ03 spZ0a spZ01 spZ0n spZ02 : ASp} : CS (rsZ0tn5 K J9 spZ08 spZ0h spZ0f spZ0j spZ0d spZ03 spZ0a spZ01 spZ0n spZ02):=(Jf (Yk J5))
def rsZ0tn4 (K : Fg) (J9 : Addr) (spZ08 spZ0h spZ0f spZ0j spZ0d spZ03 spZ0a spZ01 spZ0n spZ02 : ASp) : AS:=Jw (Je [] (Wn (L8 (J1 (aC (.int 3)) (J1 (aCB L5 (J1 (aC (.int 4)) (J1 (aCB Lq (J1 (aCB Uo (J1 (J6 0) (Ja))) (J1 (aC (.int 15)) (Ja)))) (Ja)))) (Ja)))) (Ub 5) (bdZ0tn2 K J9 spZ08 spZ0h spZ0f spZ0j spZ0d spZ03 spZ0a spZ01 spZ0n spZ02))) (rsZ0tn5 K J9 spZ08 spZ0h spZ0f spZ0j spZ0d spZ03 spZ0a spZ01 spZ0n spZ02)
theorem cjrsZ0tn4 {K : Fg} {J9 : Addr} {spZ08 spZ0h spZ0f spZ0j spZ0d spZ03 spZ0a spZ01 spZ0n spZ02 : ASp} : CS (rsZ0tn4 K J9 spZ08 spZ0h spZ0f spZ0j spZ0d spZ03 spZ0a spZ01 spZ0n spZ02):=(Jy (Jf (Zo (JNs (J3 J5 (J3 (Yp JFd (J3 J5 (J3 (Yp JLy (J3 (Yp V3 (J3 J8 Jc)) (J3 J5 Jc))) Jc))) Jc))) Uj cjbdZ0tn2)) cjrsZ0tn5)
def rsZ0tn3 (K : Fg) (J9 : Addr) (spZ08 spZ0h spZ0f spZ0j spZ0d spZ03 spZ0a spZ01 spZ0n spZ02 : ASp) : AS:=Jw (Je [] (Ym 4 (Xx J9 spZ02 [] (J1 (aOp aIx (Y0 1) (aC (.str ("row" : Str)))) (J1 (aOp aIx (Y0 1) (aC (.str ("fix" : Str)))) (J1 (aOp aIx (Y0 1) (aC (.str ("gone" : Str)))) (Ja))))))) (rsZ0tn4 K J9 spZ08 spZ0h spZ0f spZ0j spZ0d spZ03 spZ0a spZ01 spZ0n spZ02)
theorem cjrsZ0tn3 {K : Fg} {J9 : Addr} {spZ08 spZ0h spZ0f spZ0j spZ0d spZ03 spZ0a spZ01 spZ0n spZ02 : ASp} : CS (rsZ0tn3 K J9 spZ08 spZ0h spZ0f spZ0j spZ0d spZ03 spZ0a spZ01 spZ0n spZ02):=(Jy (Jf (Yq (JGe (J3 (Jb Ye Y1 J5) (J3 (Jb Ye Y1 J5) (J3 (Jb Ye Y1 J5) Jc)))))) cjrsZ0tn4)
def rsZ0tn2 (K : Fg) (J9 : Addr) (spZ08 spZ0h spZ0f spZ0j spZ0d spZ03 spZ0a spZ01 spZ0n spZ02 : ASp) : AS:=Jw (Je [] (Wn (Vo (Vd (J1 (aC (.str ("row" : Str))) (J1 (aC (.str ("fix" : Str))) (J1 (aC (.str ("gone" : Str))) (Ja)))))) (Ub 2) (bdZ0tn1 K J9 spZ08 spZ0h spZ0f spZ0j spZ0d spZ03 spZ0a spZ01 spZ0n spZ02))) (rsZ0tn3 K J9 spZ08 spZ0h spZ0f spZ0j spZ0d spZ03 spZ0a spZ01 spZ0n spZ02)
theorem cjrsZ0tn2 {K : Fg} {J9 : Addr} {spZ08 spZ0h spZ0f spZ0j spZ0d spZ03 spZ0a spZ01 spZ0n spZ02 : ASp} : CS (rsZ0tn2 K J9 spZ08 spZ0h spZ0f spZ0j spZ0d spZ03 spZ0a spZ01 spZ0n spZ02):=(Jy (Jf (Zo (Wc (W1 (J3 J5 (J3 J5 (J3 J5 Jc))))) Uj cjbdZ0tn1)) cjrsZ0tn3)
def asZ0t (K : Fg) (J9 : Addr) (spZ08 spZ0h spZ0f spZ0j spZ0d spZ03 spZ0a spZ01 spZ0n spZ02 : ASp) : AS:=Jw (Ym 1 (Ha)) (rsZ0tn2 K J9 spZ08 spZ0h spZ0f spZ0j spZ0d spZ03 spZ0a spZ01 spZ0n spZ02)
theorem cjZ0t {K : Fg} {J9 : Addr} {spZ08 spZ0h spZ0f spZ0j spZ0d spZ03 spZ0a spZ01 spZ0n spZ02 : ASp} : CS (asZ0t K J9 spZ08 spZ0h spZ0f spZ0j spZ0d spZ03 spZ0a spZ01 spZ0n spZ02):=(Jy (Yq Se) cjrsZ0tn2)
structure Gm where
  K : Fg
  J9 : Addr
  Jm : Addr
  Y3 : Addr
  U7 : Addr
class Gok (g : Gm) : Prop where
  N5 : ClsI g.K g.J9
  JHs : PySem.W.kitOne g.K (.ref g.J9) (.ref g.J9) = some true
  JQ3 : PySem.W.kitOne g.K (.type "NoneType") (.ref g.J9) = some false
  JQ7 : PySem.W.kitOne g.K (.type "bool") (.ref g.J9) = some false
  JQ4 : PySem.W.kitOne g.K (.type "int") (.ref g.J9) = some false
  JQ2 : PySem.W.kitOne g.K (.type "str") (.ref g.J9) = some false
  JQ1 : PySem.W.kitOne g.K (.type "list") (.ref g.J9) = some false
  JQ5 : PySem.W.kitOne g.K (.type "tuple") (.ref g.J9) = some false
  JN9 : PySem.W.kitOne g.K (.type "dict") (.ref g.J9) = some false
  JO9 : PySem.W.kitOne g.K (.ref g.J9) (.type "bool") = some false
  JFj : PySem.W.kitOne g.K (.ref g.J9) (.type "int") = some false
  JFn : PySem.W.kitOne g.K (.ref g.J9) (.type "str") = some false
  JK9 : PySem.W.kitOne g.K (.ref g.J9) (.type "list") = some false
  JMk : PySem.W.kitOne g.K (.ref g.J9) (.type "tuple") = some false
  JPw : PySem.W.kitOne g.K (.ref g.J9) (.type "dict") = some false
  JB7 : PySem.W.exmOne g.K (.ref g.Jm) (.ref g.Jm) = some true
  JG3 : PySem.W.exmOne g.K (.ref g.Jm) (.ref g.Y3) = some false
  JQ6 : PySem.W.exmOne g.K (.ref g.Y3) (.ref g.Jm) = some false
  JKu : PySem.W.exmOne g.K (.ref g.Y3) (.ref g.Y3) = some true
  JYv : PySem.W.kitOne g.K (.ref g.Y3) (.ref g.U7) = some true
  Ah : PySem.W.kitOne g.K (.ref g.Jm) (.ref g.U7) = some true
def SZ0b (g : Gm) : ASp:=spS (asZ0b g.K) [0] 1 1
def SZ0r (g : Gm) : ASp:=spS (asZ0r g.K) [0] 1 1
def SZ0q (g : Gm) : ASp:=spS (asZ0q g.K) [0] 2 1
def SZ04 (g : Gm) : ASp:=spS (asZ04 g.K) [0] 2 1
def SZ00 (g : Gm) : ASp:=spS (asZ00 g.K) [0] 1 1
def SZ08 (g : Gm) : ASp:=spS (asZ08 ) [0,1] 3 2
def SZ0j (g : Gm) : ASp:=spS (asZ0j ) [0,1] 4 2
def SZ09 (g : Gm) : ASp:=spS (asZ09 ) [0] 1 1
def SZ0f (g : Gm) : ASp:=spS (asZ0f ) [] 1 0
def SZ07 (g : Gm) : ASp:=spS (asZ07 g.K) [0] 2 1
def SZ0m (g : Gm) : ASp:=spS (asZ0m g.K (SZ04 g)) [0,1] 2 2
def SZ0s (g : Gm) : ASp:=spS (asZ0s (SZ0b g)) [0] 1 1
def SZ05 (g : Gm) : ASp:=spS (asZ05 (SZ0b g)) [0] 2 1
def SZ0l (g : Gm) : ASp:=spS (asZ0l (SZ0j g)) [0,1] 4 2
def SZ0c (g : Gm) : ASp:=spS (asZ0c (SZ0j g)) [0,1] 4 2
def SZ0k (g : Gm) : ASp:=spS (asZ0k (SZ0j g)) [0,1,2] 5 3
def SZ06 (g : Gm) : ASp:=spS (asZ06 (SZ0j g)) [0] 2 1
def SZ03 (g : Gm) : ASp:=spS (asZ03 (SZ0j g)) [0,1] 5 2
def SZ01 (g : Gm) : ASp:=spS (asZ01 g.K (SZ09 g) (SZ00 g) (SZ07 g)) [0] 3 1
def SZ0n (g : Gm) : ASp:=spS (asZ0n (SZ09 g)) [0,1] 6 2
def SZ0p (g : Gm) : ASp:=spS (asZ0p (SZ0r g) (SZ0m g)) [0,1] 5 2
def SZ0i (g : Gm) : ASp:=spS (asZ0i g.K g.J9 g.Jm) [0,1] 2 2
def SZ0e (g : Gm) : ASp:=spS (asZ0e g.K g.Jm g.J9) [0] 1 1
def SZ0o (g : Gm) : ASp:=spS (asZ0o g.K (SZ0s g) (SZ0q g) (SZ05 g)) [0] 1 1
def SZ0h (g : Gm) : ASp:=spS (asZ0h (SZ0c g) (SZ09 g) (SZ0j g) (SZ0k g)) [0,1,2,3,4] 7 5
def SZ0d (g : Gm) : ASp:=spS (asZ0d (SZ0j g) (SZ06 g) (SZ0l g)) [0] 4 1
def SZ02 (g : Gm) : ASp:=spS (asZ02 g.J9 g.Jm (SZ0p g)) [0,1,2,3] 6 4
def SZ0g (g : Gm) : ASp:=spS (asZ0g g.J9 g.Y3 (SZ0e g) (SZ0o g) (SZ0i g)) [0,1] 7 2
def SZ0a (g : Gm) : ASp:=spS (asZ0a g.K g.Y3 g.Jm g.U7 (SZ0g g)) [0,1] 6 2
def SZ0t (g : Gm) : ASp:=spS (asZ0t g.K g.J9 (SZ08 g) (SZ0h g) (SZ0f g) (SZ0j g) (SZ0d g) (SZ03 g) (SZ0a g) (SZ01 g) (SZ0n g) (SZ02 g)) [0] 11 1
end Law
namespace Law
open PySem PySem.Spec PyProof.Rows L2 Vs
variable [Tbs]
abbrev FnP (K : PySem.W.Frag) (x q : Str) (st : Stmt) (dv : List V) (f : Addr) (fd : FuncData) : Prop:=FunD K x q (defArgs st) (defBody st) (defScope st) dv [] f fd
theorem D0 : bootBuiltins "int" = some (.type "int"):=by decide +kernel
theorem Sz : bootBuiltins "bool" = some (.type "bool"):=by decide +kernel
theorem Zv : bootBuiltins "str" = some (.type "str"):=by decide +kernel
theorem JBd : bootBuiltins "list" = some (.type "list"):=by decide +kernel
theorem K6 : bootBuiltins "tuple" = some (.type "tuple"):=by decide +kernel
section
variable {Pr : Program} {w : World} {K : PySem.W.Frag} {mg : Str → Option Value} {base : Heap}
abbrev sZ0b : Stmt:=top 7
theorem scZ0b : FnScope ["value"] ["value"] (defScope sZ0b):=⟨rfl,rfl,rfl,by decide +kernel,rfl,by decide +kernel,by decide +kernel⟩
theorem wkZ0b {f : Addr} {fd : FuncData} {sp : ASp} (g_isinstance : mg ("isinstance" : Str) = none) (g_int : mg ("int" : Str) = none) (g_bool : mg ("bool" : Str) = none) (F : FnP K ("is_integer" : Str) ("is_integer" : Str) sZ0b [] f fd) (hlen : ∀ xs,sp.pre xs → xs.length = 1)
    (rd : ∀ xs,sp.pre xs → asZ0b K (U3 [0] sp xs) (Yn 1 xs)) : Fok Pr w K mg base 1 f fd ["value"] sp:=by
  refine U8 (N:=["value"]) (k:=0) [0] F scZ0b hlen (by decide) (fun cdv Ar outer s H E hr=>⟨asZ0b K,?_,rd⟩)
  have hx:=fun σ=>passAt (X:=cxOf (L2.CX Pr w) Pr w K mg base ["value"] ("is_integer" : Str) (defScope sZ0b) f cdv Ar outer s H E) (W:=fun cls d _ H=>E cls d H) (takes_of rfl rfl rfl rfl) σ
  have hp : PassesOwn _ _ _ (cxOf (L2.CX Pr w) Pr w K mg base ["value"] ("is_integer" : Str) (defScope sZ0b) f cdv Ar outer s H E).xe:=passes_of rfl
  have tk:=takes_of (X:=cxOf (L2.CX Pr w) Pr w K mg base ["value"] ("is_integer" : Str) (defScope sZ0b) f cdv Ar outer s H E) rfl rfl rfl rfl
  have hu:=hr.units
  have sc:=scZ0b
  exact (Jz (Yi (Z4 (Vn rfl g_isinstance (qv 0) (Ve rfl g_int D0)) (Xo (JY7 (Vn rfl g_isinstance (qv 0) (Ve rfl g_bool Sz)))))))
abbrev sZ0r : Stmt:=top 8
theorem scZ0r : FnScope ["value"] ["value"] (defScope sZ0r):=⟨rfl,rfl,rfl,by decide +kernel,rfl,by decide +kernel,by decide +kernel⟩
theorem wkZ0r {f : Addr} {fd : FuncData} {sp : ASp} (g_isinstance : mg ("isinstance" : Str) = none) (g_list : mg ("list" : Str) = none) (g_tuple : mg ("tuple" : Str) = none) (F : FnP K ("is_row" : Str) ("is_row" : Str) sZ0r [] f fd) (hlen : ∀ xs,sp.pre xs → xs.length = 1)
    (rd : ∀ xs,sp.pre xs → asZ0r K (U3 [0] sp xs) (Yn 1 xs)) : Fok Pr w K mg base 1 f fd ["value"] sp:=by
  refine U8 (N:=["value"]) (k:=0) [0] F scZ0r hlen (by decide) (fun cdv Ar outer s H E hr=>⟨asZ0r K,?_,rd⟩)
  have hx:=fun σ=>passAt (X:=cxOf (L2.CX Pr w) Pr w K mg base ["value"] ("is_row" : Str) (defScope sZ0r) f cdv Ar outer s H E) (W:=fun cls d _ H=>E cls d H) (takes_of rfl rfl rfl rfl) σ
  have hp : PassesOwn _ _ _ (cxOf (L2.CX Pr w) Pr w K mg base ["value"] ("is_row" : Str) (defScope sZ0r) f cdv Ar outer s H E).xe:=passes_of rfl
  have tk:=takes_of (X:=cxOf (L2.CX Pr w) Pr w K mg base ["value"] ("is_row" : Str) (defScope sZ0r) f cdv Ar outer s H E) rfl rfl rfl rfl
  have hu:=hr.units
  have sc:=scZ0r
  exact (Jz (Yi (JPq rfl g_isinstance (qr 0) (Ve rfl g_list JBd) (Ve rfl g_tuple K6))))
abbrev sZ0q : Stmt:=top 9
theorem scZ0q : FnScope ["text","letter"] ["text"] (defScope sZ0q):=⟨rfl,rfl,rfl,by decide +kernel,rfl,by decide +kernel,by decide +kernel⟩
theorem wkZ0q {f : Addr} {fd : FuncData} {sp : ASp} (g_isinstance : mg ("isinstance" : Str) = none) (g_str : mg ("str" : Str) = none) (g_len : mg ("len" : Str) = none) (g_all : mg ("all" : Str) = none) (k_LONGEST_NAME : ∃ t,mg ("LONGEST_NAME" : Str) = some (.int 8 t)) (k_LETTERS : ∃ t,mg ("LETTERS" : Str) = some (.str ("abcdefghijklmnopqrstuvwxyz" : Str) t)) (F : FnP K ("is_name" : Str) ("is_name" : Str) sZ0q [] f fd) (hlen : ∀ xs,sp.pre xs → xs.length = 1)
    (rd : ∀ xs,sp.pre xs → asZ0q K (U3 [0] sp xs) (Yn 2 xs)) : Fok Pr w K mg base 1 f fd ["text"] sp:=by
  refine U8 (N:=["text","letter"]) (k:=0) [0] F scZ0q hlen (by decide) (fun cdv Ar outer s H E hr=>⟨asZ0q K,?_,rd⟩)
  have hx:=fun σ=>passAt (X:=cxOf (L2.CX Pr w) Pr w K mg base ["text","letter"] ("is_name" : Str) (defScope sZ0q) f cdv Ar outer s H E) (W:=fun cls d _ H=>E cls d H) (takes_of rfl rfl rfl rfl) σ
  have hp : PassesOwn _ _ _ (cxOf (L2.CX Pr w) Pr w K mg base ["text","letter"] ("is_name" : Str) (defScope sZ0q) f cdv Ar outer s H E).xe:=passes_of rfl
  have tk:=takes_of (X:=cxOf (L2.CX Pr w) Pr w K mg base ["text","letter"] ("is_name" : Str) (defScope sZ0q) f cdv Ar outer s H E) rfl rfl rfl rfl
  have hu:=hr.units
  have sc:=scZ0q
  exact (Jx (Yv (W2 (V2 (Ur (Uw (Vn rfl g_isinstance (qv 0) (Ve rfl g_str Zv)))) (Wf (Ur (N4 op_le Xl op_le Xl Ji (U6 V7 V6 rfl g_len boot_len (J2 (qv 0) Jd)) (Be k_LONGEST_NAME rfl)))))) (Jz (Jg [] (Yi Vg))) U0)
    (Jz (Jg [] (Yi (U6 (cr_all rfl) G8 rfl g_all PyProof.Rows.boot_all (J2 (Xr [(("letter" : Str),1)] rfl sc.nd (show BlkOk ["text","letter"] (defScope sZ0q) _ [(("letter" : Str),1)] from blkOk_by (by decide +kernel)) (Wg (qv 0)) (fun _ _ _ _ _=>(Ul (i:=1) sc.nd rfl (by first | exact Or.inl rfl | exact Or.inr rfl) (show 1 ∉ ([0] : List Nat) from by decide))) (fun _ _ _ _ _=>Xs) (fun _ _ _ _ _=>(Wy (JVf hu) Fl (qv 1) (JP6 k_LETTERS rfl) (by rfl))) (show ∀ v ∈ ([1] : List Nat),v ∉ ([0] : List Nat) from by decide) (show ∀ i ∈ ([1] : List Nat),i ∈ ([1] : List Nat) from by decide)) Jd))))))
abbrev sZ04 : Stmt:=top 15
theorem scZ04 : FnScope ["value","char"] ["value"] (defScope sZ04):=⟨rfl,rfl,rfl,by decide +kernel,rfl,by decide +kernel,by decide +kernel⟩
theorem wkZ04 {f : Addr} {fd : FuncData} {sp : ASp} (g_isinstance : mg ("isinstance" : Str) = none) (g_str : mg ("str" : Str) = none) (g_len : mg ("len" : Str) = none) (g_all : mg ("all" : Str) = none) (g_ord : mg ("ord" : Str) = none) (k_LONGEST_MARK : ∃ t,mg ("LONGEST_MARK" : Str) = some (.int 6 t)) (F : FnP K ("is_mark_text" : Str) ("is_mark_text" : Str) sZ04 [] f fd) (hlen : ∀ xs,sp.pre xs → xs.length = 1)
    (rd : ∀ xs,sp.pre xs → asZ04 K (U3 [0] sp xs) (Yn 2 xs)) : Fok Pr w K mg base 1 f fd ["value"] sp:=by
  refine U8 (N:=["value","char"]) (k:=0) [0] F scZ04 hlen (by decide) (fun cdv Ar outer s H E hr=>⟨asZ04 K,?_,rd⟩)
  have hx:=fun σ=>passAt (X:=cxOf (L2.CX Pr w) Pr w K mg base ["value","char"] ("is_mark_text" : Str) (defScope sZ04) f cdv Ar outer s H E) (W:=fun cls d _ H=>E cls d H) (takes_of rfl rfl rfl rfl) σ
  have hp : PassesOwn _ _ _ (cxOf (L2.CX Pr w) Pr w K mg base ["value","char"] ("is_mark_text" : Str) (defScope sZ04) f cdv Ar outer s H E).xe:=passes_of rfl
  have tk:=takes_of (X:=cxOf (L2.CX Pr w) Pr w K mg base ["value","char"] ("is_mark_text" : Str) (defScope sZ04) f cdv Ar outer s H E) rfl rfl rfl rfl
  have hu:=hr.units
  have sc:=scZ04
  exact (Jx (Yv (W2 (V2 (Ur (Uw (Vn rfl g_isinstance (qv 0) (Ve rfl g_str Zv)))) (Wf (Ur (N4 op_le Xl op_le Xl Ji (U6 V7 V6 rfl g_len boot_len (J2 (qv 0) Jd)) (Be k_LONGEST_MARK rfl)))))) (Jz (Jg [] (Yi Vg))) U0)
    (Jz (Jg [] (Yi (U6 (cr_all rfl) G8 rfl g_all PyProof.Rows.boot_all (J2 (Xr [(("char" : Str),1)] rfl sc.nd (show BlkOk ["value","char"] (defScope sZ04) _ [(("char" : Str),1)] from blkOk_by (by decide +kernel)) (Wg (qv 0)) (fun _ _ _ _ _=>(Ul (i:=1) sc.nd rfl (by first | exact Or.inl rfl | exact Or.inr rfl) (show 1 ∉ ([0] : List Nat) from by decide))) (fun _ _ _ _ _=>Xs) (fun _ _ _ _ _=>(JFm op_le Xl op_le Xl Ji (U6 call_ord JFh rfl g_ord PyProof.Rows.boot_ord (J2 (qv 1) Jd)) Ji)) (show ∀ v ∈ ([1] : List Nat),v ∉ ([0] : List Nat) from by decide) (show ∀ i ∈ ([1] : List Nat),i ∈ ([1] : List Nat) from by decide)) Jd))))))
abbrev sZ00 : Stmt:=top 30
theorem scZ00 : FnScope ["_law_thing"] ["_law_thing"] (defScope sZ00):=⟨rfl,rfl,rfl,by decide +kernel,rfl,by decide +kernel,by decide +kernel⟩
theorem wkZ00 {f : Addr} {fd : FuncData} {sp : ASp} (g_isinstance : mg ("isinstance" : Str) = none) (g_int : mg ("int" : Str) = none) (g_bool : mg ("bool" : Str) = none) (F : FnP K ("_law_is_integer" : Str) ("_law_is_integer" : Str) sZ00 [] f fd) (hlen : ∀ xs,sp.pre xs → xs.length = 1)
    (rd : ∀ xs,sp.pre xs → asZ00 K (U3 [0] sp xs) (Yn 1 xs)) : Fok Pr w K mg base 1 f fd ["_law_thing"] sp:=by
  refine U8 (N:=["_law_thing"]) (k:=0) [0] F scZ00 hlen (by decide) (fun cdv Ar outer s H E hr=>⟨asZ00 K,?_,rd⟩)
  have hx:=fun σ=>passAt (X:=cxOf (L2.CX Pr w) Pr w K mg base ["_law_thing"] ("_law_is_integer" : Str) (defScope sZ00) f cdv Ar outer s H E) (W:=fun cls d _ H=>E cls d H) (takes_of rfl rfl rfl rfl) σ
  have hp : PassesOwn _ _ _ (cxOf (L2.CX Pr w) Pr w K mg base ["_law_thing"] ("_law_is_integer" : Str) (defScope sZ00) f cdv Ar outer s H E).xe:=passes_of rfl
  have tk:=takes_of (X:=cxOf (L2.CX Pr w) Pr w K mg base ["_law_thing"] ("_law_is_integer" : Str) (defScope sZ00) f cdv Ar outer s H E) rfl rfl rfl rfl
  have hu:=hr.units
  have sc:=scZ00
  exact (Jz (Yi (Z4 (Vn rfl g_isinstance (qv 0) (Ve rfl g_int D0)) (Xo (JY7 (Vn rfl g_isinstance (qv 0) (Ve rfl g_bool Sz)))))))
abbrev sZ08 : Stmt:=top 31
theorem scZ08 : FnScope ["_law_script","_law_k","_law_cell"] ["_law_script","_law_k"] (defScope sZ08):=⟨rfl,rfl,rfl,by decide +kernel,rfl,by decide +kernel,by decide +kernel⟩
theorem wkZ08 {f : Addr} {fd : FuncData} {sp : ASp} (g_len : mg ("len" : Str) = none) (g_abs : mg ("abs" : Str) = none) (g_int : mg ("int" : Str) = none) (F : FnP K ("_law_stream" : Str) ("_law_stream" : Str) sZ08 [] f fd) (hlen : ∀ xs,sp.pre xs → xs.length = 2)
    (rd : ∀ xs,sp.pre xs → asZ08 (U3 [0,1] sp xs) (Yn 3 xs)) : Fok Pr w K mg base 1 f fd ["_law_script","_law_k"] sp:=by
  refine U8 (N:=["_law_script","_law_k","_law_cell"]) (k:=0) [0,1] F scZ08 hlen (by decide) (fun cdv Ar outer s H E hr=>⟨asZ08,?_,rd⟩)
  have hx:=fun σ=>passAt (X:=cxOf (L2.CX Pr w) Pr w K mg base ["_law_script","_law_k","_law_cell"] ("_law_stream" : Str) (defScope sZ08) f cdv Ar outer s H E) (W:=fun cls d _ H=>E cls d H) (takes_of rfl rfl rfl rfl) σ
  have hp : PassesOwn _ _ _ (cxOf (L2.CX Pr w) Pr w K mg base ["_law_script","_law_k","_law_cell"] ("_law_stream" : Str) (defScope sZ08) f cdv Ar outer s H E).xe:=passes_of rfl
  have tk:=takes_of (X:=cxOf (L2.CX Pr w) Pr w K mg base ["_law_script","_law_k","_law_cell"] ("_law_stream" : Str) (defScope sZ08) f cdv Ar outer s H E) rfl rfl rfl rfl
  have hu:=hr.units
  have sc:=scZ08
  exact (Jx (Ys (i:=2) sc.nd rfl (by first | exact Or.inl rfl | exact Or.inr rfl) Ji (show 2 ∉ ([0,1] : List Nat) from by decide))
    (Jx (Jg [] (Yv (U2 op_lt B1 (qv 1) (U6 V7 V6 rfl g_len boot_len (J2 (qv 0) Jd)) (nomark _)) (Jz (Jg [2] (Ys (i:=2) sc.nd rfl (by first | exact Or.inl rfl | exact Or.inr rfl) (U6 call_abs T9 rfl g_abs PyProof.Rows.boot_abs (J2 (Yf hu (qv 0) (qv 1)) Jd)) (show 2 ∉ ([0,1] : List Nat) from by decide)))) U0))
    (Jz (Jg [] (Yi (W7 (J2 (qv 2) (J2 (Wk call_int1 B4 rfl g_int PyProof.Rows.boot_int (J2 (Wy op_ge JUh (qv 2) (Yw op_pow Mu Ji Ji) (nomark _)) Jd)) (J2 (Yw op_mul Gi Ji (qv 1)) Jd)))))))))
abbrev sZ0j : Stmt:=top 32
theorem scZ0j : FnScope ["_law_stream_here","_law_many","_law_digit","_law_mixed"] ["_law_stream_here","_law_many"] (defScope sZ0j):=⟨rfl,rfl,rfl,by decide +kernel,rfl,by decide +kernel,by decide +kernel⟩
theorem wkZ0j {f : Addr} {fd : FuncData} {sp : ASp} (g_int : mg ("int" : Str) = none) (F : FnP K ("_law_draw" : Str) ("_law_draw" : Str) sZ0j [] f fd) (hlen : ∀ xs,sp.pre xs → xs.length = 2)
    (rd : ∀ xs,sp.pre xs → asZ0j (U3 [0,1] sp xs) (Yn 4 xs)) : Fok Pr w K mg base 1 f fd ["_law_stream_here","_law_many"] sp:=by
  refine U8 (N:=["_law_stream_here","_law_many","_law_digit","_law_mixed"]) (k:=0) [0,1] F scZ0j hlen (by decide) (fun cdv Ar outer s H E hr=>⟨asZ0j,?_,rd⟩)
  have hx:=fun σ=>passAt (X:=cxOf (L2.CX Pr w) Pr w K mg base ["_law_stream_here","_law_many","_law_digit","_law_mixed"] ("_law_draw" : Str) (defScope sZ0j) f cdv Ar outer s H E) (W:=fun cls d _ H=>E cls d H) (takes_of rfl rfl rfl rfl) σ
  have hp : PassesOwn _ _ _ (cxOf (L2.CX Pr w) Pr w K mg base ["_law_stream_here","_law_many","_law_digit","_law_mixed"] ("_law_draw" : Str) (defScope sZ0j) f cdv Ar outer s H E).xe:=passes_of rfl
  have tk:=takes_of (X:=cxOf (L2.CX Pr w) Pr w K mg base ["_law_stream_here","_law_many","_law_digit","_law_mixed"] ("_law_draw" : Str) (defScope sZ0j) f cdv Ar outer s H E) rfl rfl rfl rfl
  have hu:=hr.units
  have sc:=scZ0j
  exact (Jx (L6 hu (Yw Vv Vt (Yf hu (qr 0) Ji) Ji) (qr 0) Ji)
    (Jx (Jg [] (Yv (W2 (JHe (U2 (or_eq hu) s_eq (Yf hu (qr 0) Ji) Ji (nomark _)) (JBk (U2 op_gt JV8 (Yf hu (qr 0) Ji) Ji (nomark _))))) (Jx (Jg [] (Ys (i:=2) sc.nd rfl (by first | exact Or.inl rfl | exact Or.inr rfl) (Yw op_mod Gu (Wk call_int1 B4 rfl g_int PyProof.Rows.boot_int (J2 (Yf hu (qr 0) Ji) Jd)) (qv 1)) (show 2 ∉ ([0,1] : List Nat) from by decide)))
    (Jx (Jg [] (L6 hu (Yw op_fdivW Li (Wk call_int1 B4 rfl g_int PyProof.Rows.boot_int (J2 (Yf hu (qr 0) Ji) Jd)) (qv 1)) (qr 0) Ji))
    (Jz (Jg [] (Yi (qv 2)))))) U0))
    (Jx (Jg [2] (Ys (i:=3) sc.nd rfl (by first | exact Or.inl rfl | exact Or.inr rfl) (Yw op_mod Gu (Wk call_int1 B4 rfl g_int PyProof.Rows.boot_int (J2 (Yw op_mul Gi (Yw Vv Vt (Yw Vv Vt (Yf hu (qr 0) Ji) (Yw op_mul Gi Ji (Yf hu (qr 0) Ji))) Ji) Ji) Jd)) Ji) (show 3 ∉ ([0,1] : List Nat) from by decide)))
    (Jx (Jg [] (Ys (i:=3) sc.nd rfl (by first | exact Or.inl rfl | exact Or.inr rfl) (Yw op_mod Gu (Wk call_int1 B4 rfl g_int PyProof.Rows.boot_int (J2 (Yw op_mul Gi (qv 3) (Yw Vv Vt (Yw op_fdivW Li (qv 3) Ji) Ji)) Jd)) Ji) (show 3 ∉ ([0,1] : List Nat) from by decide)))
    (Jx (Jg [] (Ys (i:=3) sc.nd rfl (by first | exact Or.inl rfl | exact Or.inr rfl) (Yw op_mod Gu (Wk call_int1 B4 rfl g_int PyProof.Rows.boot_int (J2 (Yw op_mul Gi (qv 3) (Yw Vv Vt (Yw op_fdivW Li (qv 3) Ji) Ji)) Jd)) Ji) (show 3 ∉ ([0,1] : List Nat) from by decide)))
    (Jz (Jg [] (Yi (Yw op_mod Gu (Wk call_int1 B4 rfl g_int PyProof.Rows.boot_int (J2 (Yw op_fdivW Li (qv 3) Ji) Jd)) (qv 1))))))))))
abbrev sZ09 : Stmt:=top 34
theorem scZ09 : FnScope ["_law_word_here"] ["_law_word_here"] (defScope sZ09):=⟨rfl,rfl,rfl,by decide +kernel,rfl,by decide +kernel,by decide +kernel⟩
theorem wkZ09 {f : Addr} {fd : FuncData} {sp : ASp} (F : FnP K ("_law_fields" : Str) ("_law_fields" : Str) sZ09 [] f fd) (hlen : ∀ xs,sp.pre xs → xs.length = 1)
    (rd : ∀ xs,sp.pre xs → asZ09 (U3 [0] sp xs) (Yn 1 xs)) : Fok Pr w K mg base 1 f fd ["_law_word_here"] sp:=by
  refine U8 (N:=["_law_word_here"]) (k:=0) [0] F scZ09 hlen (by decide) (fun cdv Ar outer s H E hr=>⟨asZ09,?_,rd⟩)
  have hx:=fun σ=>passAt (X:=cxOf (L2.CX Pr w) Pr w K mg base ["_law_word_here"] ("_law_fields" : Str) (defScope sZ09) f cdv Ar outer s H E) (W:=fun cls d _ H=>E cls d H) (takes_of rfl rfl rfl rfl) σ
  have hp : PassesOwn _ _ _ (cxOf (L2.CX Pr w) Pr w K mg base ["_law_word_here"] ("_law_fields" : Str) (defScope sZ09) f cdv Ar outer s H E).xe:=passes_of rfl
  have tk:=takes_of (X:=cxOf (L2.CX Pr w) Pr w K mg base ["_law_word_here"] ("_law_fields" : Str) (defScope sZ09) f cdv Ar outer s H E) rfl rfl rfl rfl
  have hu:=hr.units
  have sc:=scZ09
  exact (Jx (Yv (U2 (or_eq hu) s_eq (qv 0) Y9 (nomark _)) (Jz (Jg [] (Yi (W7 (J2 Y9 (J2 Y9 (J2 Y9 (J2 Y9 (J2 Y9 (J2 Y9 Jd)))))))))) U0)
    (Jx (Jg [] (Yv (U2 (or_eq hu) s_eq (qv 0) Y9 (nomark _)) (Jz (Jg [] (Yi (W7 (J2 Y9 (J2 Y9 (J2 Y9 (J2 Y9 Jd)))))))) U0))
    (Jz (Jg [] (Yi (W7 (J2 Y9 (J2 Y9 Jd))))))))
abbrev sZ0f : Stmt:=top 37
theorem scZ0f : FnScope ["_law_low"] [] (defScope sZ0f):=⟨rfl,rfl,rfl,by decide +kernel,rfl,by decide +kernel,by decide +kernel⟩
theorem wkZ0f {f : Addr} {fd : FuncData} {sp : ASp} (F : FnP K ("_law_signs" : Str) ("_law_signs" : Str) sZ0f [] f fd) (hlen : ∀ xs,sp.pre xs → xs.length = 0)
    (rd : ∀ xs,sp.pre xs → asZ0f (U3 [] sp xs) (Yn 1 xs)) : Fok Pr w K mg base 1 f fd [] sp:=by
  refine U8 (N:=["_law_low"]) (k:=0) [] F scZ0f hlen (by decide) (fun cdv Ar outer s H E hr=>⟨asZ0f,?_,rd⟩)
  have hx:=fun σ=>passAt (X:=cxOf (L2.CX Pr w) Pr w K mg base ["_law_low"] ("_law_signs" : Str) (defScope sZ0f) f cdv Ar outer s H E) (W:=fun cls d _ H=>E cls d H) (takes_of rfl rfl rfl rfl) σ
  have hp : PassesOwn _ _ _ (cxOf (L2.CX Pr w) Pr w K mg base ["_law_low"] ("_law_signs" : Str) (defScope sZ0f) f cdv Ar outer s H E).xe:=passes_of rfl
  have tk:=takes_of (X:=cxOf (L2.CX Pr w) Pr w K mg base ["_law_low"] ("_law_signs" : Str) (defScope sZ0f) f cdv Ar outer s H E) rfl rfl rfl rfl
  have hu:=hr.units
  have sc:=scZ0f
  exact (Jx (Ys (i:=0) sc.nd rfl (by first | exact Or.inl rfl | exact Or.inr rfl) Y9 (show 0 ∉ ([] : List Nat) from by decide))
    (Jz (Jg [] (Yi (Yw Vv Vt (qv 0) Y9)))))
abbrev sZ07 : Stmt:=top 42
theorem scZ07 : FnScope ["_law_thing","_law_sign"] ["_law_thing"] (defScope sZ07):=⟨rfl,rfl,rfl,by decide +kernel,rfl,by decide +kernel,by decide +kernel⟩
theorem wkZ07 {f : Addr} {fd : FuncData} {sp : ASp} (g_isinstance : mg ("isinstance" : Str) = none) (g_str : mg ("str" : Str) = none) (g_len : mg ("len" : Str) = none) (F : FnP K ("_law_is_name" : Str) ("_law_is_name" : Str) sZ07 [] f fd) (hlen : ∀ xs,sp.pre xs → xs.length = 1)
    (rd : ∀ xs,sp.pre xs → asZ07 K (U3 [0] sp xs) (Yn 2 xs)) : Fok Pr w K mg base 1 f fd ["_law_thing"] sp:=by
  refine U8 (N:=["_law_thing","_law_sign"]) (k:=0) [0] F scZ07 hlen (by decide) (fun cdv Ar outer s H E hr=>⟨asZ07 K,?_,rd⟩)
  have hx:=fun σ=>passAt (X:=cxOf (L2.CX Pr w) Pr w K mg base ["_law_thing","_law_sign"] ("_law_is_name" : Str) (defScope sZ07) f cdv Ar outer s H E) (W:=fun cls d _ H=>E cls d H) (takes_of rfl rfl rfl rfl) σ
  have hp : PassesOwn _ _ _ (cxOf (L2.CX Pr w) Pr w K mg base ["_law_thing","_law_sign"] ("_law_is_name" : Str) (defScope sZ07) f cdv Ar outer s H E).xe:=passes_of rfl
  have tk:=takes_of (X:=cxOf (L2.CX Pr w) Pr w K mg base ["_law_thing","_law_sign"] ("_law_is_name" : Str) (defScope sZ07) f cdv Ar outer s H E) rfl rfl rfl rfl
  have hu:=hr.units
  have sc:=scZ07
  exact (Jx (Yv (W2 (V2 (Ur (Uw (Vn rfl g_isinstance (qv 0) (Ve rfl g_str Zv)))) (V2 (U2 op_lt B1 (U6 V7 V6 rfl g_len boot_len (J2 (qv 0) Jd)) Ji (nomark _)) (Wf (U2 op_gt JV8 (U6 V7 V6 rfl g_len boot_len (J2 (qv 0) Jd)) Ji (nomark _)))))) (Jz (Jg [] (Yi Vg))) U0)
    (Jz (Jg [] (Yi (Wy (or_eq hu) s_eq (U6 V7 V6 rfl g_len boot_len (J2 (Xr [(("_law_sign" : Str),1)] rfl sc.nd (show BlkOk ["_law_thing","_law_sign"] (defScope sZ07) _ [(("_law_sign" : Str),1)] from blkOk_by (by decide +kernel)) (Wg (qv 0)) (fun _ _ _ _ _=>(Ul (i:=1) sc.nd rfl (by first | exact Or.inl rfl | exact Or.inr rfl) (show 1 ∉ ([0] : List Nat) from by decide))) (fun _ _ _ _ _=>(Ci (U2 (N3 hu) Fl (qv 1) Y9 (by rfl)))) (fun _ _ _ _ _=>(qv 1)) (show ∀ v ∈ ([1] : List Nat),v ∉ ([0] : List Nat) from by decide) (show ∀ i ∈ ([1] : List Nat),i ∈ ([1] : List Nat) from by decide)) Jd)) Ji (nomark _))))))
abbrev sZ0m : Stmt:=top 16
theorem scZ0m : FnScope ["value","fields"] ["value","fields"] (defScope sZ0m):=⟨rfl,rfl,rfl,by decide +kernel,rfl,by decide +kernel,by decide +kernel⟩
theorem wkZ0m {f : Addr} {fd : FuncData} {sp : ASp} {spZ04 : ASp} (cZ04 : Cal Pr w K mg base ("is_mark_text" : Str) 1 ["value"] spZ04) (g_isinstance : mg ("isinstance" : Str) = none) (g_tuple : mg ("tuple" : Str) = none) (g_len : mg ("len" : Str) = none) (g_str : mg ("str" : Str) = none) (F : FnP K ("is_piece" : Str) ("is_piece" : Str) sZ0m [] f fd) (hlen : ∀ xs,sp.pre xs → xs.length = 2)
    (rd : ∀ xs,sp.pre xs → asZ0m K spZ04 (U3 [0,1] sp xs) (Yn 2 xs)) : Fok Pr w K mg base 2 f fd ["value","fields"] sp:=by
  refine U8 (N:=["value","fields"]) (k:=1) [0,1] F scZ0m hlen (by decide) (fun cdv Ar outer s H E hr=>⟨asZ0m K spZ04,?_,rd⟩)
  have hx:=fun σ=>passAt (X:=cxOf (L2.CX Pr w) Pr w K mg base ["value","fields"] ("is_piece" : Str) (defScope sZ0m) f cdv Ar outer s H E) (W:=fun cls d _ H=>E cls d H) (takes_of rfl rfl rfl rfl) σ
  have hp : PassesOwn _ _ _ (cxOf (L2.CX Pr w) Pr w K mg base ["value","fields"] ("is_piece" : Str) (defScope sZ0m) f cdv Ar outer s H E).xe:=passes_of rfl
  have tk:=takes_of (X:=cxOf (L2.CX Pr w) Pr w K mg base ["value","fields"] ("is_piece" : Str) (defScope sZ0m) f cdv Ar outer s H E) rfl rfl rfl rfl
  have hu:=hr.units
  have sc:=scZ0m
  exact (Jx (Yv (W2 (V2 (Ur (Uw (Vn rfl g_isinstance (qv 0) (Ve rfl g_tuple K6)))) (V2 (U2 (F8 hu) Bv (U6 V7 V6 rfl g_len boot_len (J2 (qv 0) Jd)) Ji (nomark _)) (Wf (Ur (Uw (Vn rfl g_isinstance (Yf hu (qv 0) Ji) (Ve rfl g_str Zv)))))))) (Jz (Jg [] (Yi Vg))) U0)
    (Jx (Jg [] (Yv (U2 (or_eq hu) s_eq (Yf hu (qv 0) Ji) Y9 (nomark _)) (Jz (Jg [] (Yi (Y8 cZ04 (hr.mono (by decide)) rfl hx (J2 (Yf hu (qv 0) Ji) Jd))))) U0))
    (Jz (Jg [] (Yi (Z4 (Wy (or_eq hu) s_eq (Yf hu (qv 0) Ji) Y9 (nomark _)) (Z4 (Vn rfl g_isinstance (Yf hu (qv 0) Ji) (Ve rfl g_str Zv)) (Xo (Wy (JVf hu) Fl (Yf hu (qv 0) Ji) (qv 1) (by rfl))))))))))
abbrev sZ0s : Stmt:=top 24
theorem scZ0s : FnScope ["value"] ["value"] (defScope sZ0s):=⟨rfl,rfl,rfl,by decide +kernel,rfl,by decide +kernel,by decide +kernel⟩
theorem wkZ0s {f : Addr} {fd : FuncData} {sp : ASp} {spZ0b : ASp} (cZ0b : Cal Pr w K mg base ("is_integer" : Str) 1 ["value"] spZ0b) (F : FnP K ("is_id" : Str) ("is_id" : Str) sZ0s [] f fd) (hlen : ∀ xs,sp.pre xs → xs.length = 1)
    (rd : ∀ xs,sp.pre xs → asZ0s spZ0b (U3 [0] sp xs) (Yn 1 xs)) : Fok Pr w K mg base 2 f fd ["value"] sp:=by
  refine U8 (N:=["value"]) (k:=1) [0] F scZ0s hlen (by decide) (fun cdv Ar outer s H E hr=>⟨asZ0s spZ0b,?_,rd⟩)
  have hx:=fun σ=>passAt (X:=cxOf (L2.CX Pr w) Pr w K mg base ["value"] ("is_id" : Str) (defScope sZ0s) f cdv Ar outer s H E) (W:=fun cls d _ H=>E cls d H) (takes_of rfl rfl rfl rfl) σ
  have hp : PassesOwn _ _ _ (cxOf (L2.CX Pr w) Pr w K mg base ["value"] ("is_id" : Str) (defScope sZ0s) f cdv Ar outer s H E).xe:=passes_of rfl
  have tk:=takes_of (X:=cxOf (L2.CX Pr w) Pr w K mg base ["value"] ("is_id" : Str) (defScope sZ0s) f cdv Ar outer s H E) rfl rfl rfl rfl
  have hu:=hr.units
  have sc:=scZ0s
  exact (Jz (Yi (Z4 (Y8 cZ0b (hr.mono (by decide)) rfl hx (J2 (qv 0) Jd)) (Xo (Wy op_ge JUh (qv 0) Ji (nomark _))))))
abbrev sZ05 : Stmt:=top 26
theorem scZ05 : FnScope ["values","item"] ["values"] (defScope sZ05):=⟨rfl,rfl,rfl,by decide +kernel,rfl,by decide +kernel,by decide +kernel⟩
theorem wkZ05 {f : Addr} {fd : FuncData} {sp : ASp} {spZ0b : ASp} (cZ0b : Cal Pr w K mg base ("is_integer" : Str) 1 ["value"] spZ0b) (g_all : mg ("all" : Str) = none) (F : FnP K ("are_integers" : Str) ("are_integers" : Str) sZ05 [] f fd) (hlen : ∀ xs,sp.pre xs → xs.length = 1)
    (rd : ∀ xs,sp.pre xs → asZ05 spZ0b (U3 [0] sp xs) (Yn 2 xs)) : Fok Pr w K mg base 2 f fd ["values"] sp:=by
  refine U8 (N:=["values","item"]) (k:=1) [0] F scZ05 hlen (by decide) (fun cdv Ar outer s H E hr=>⟨asZ05 spZ0b,?_,rd⟩)
  have hx:=fun σ=>passAt (X:=cxOf (L2.CX Pr w) Pr w K mg base ["values","item"] ("are_integers" : Str) (defScope sZ05) f cdv Ar outer s H E) (W:=fun cls d _ H=>E cls d H) (takes_of rfl rfl rfl rfl) σ
  have hp : PassesOwn _ _ _ (cxOf (L2.CX Pr w) Pr w K mg base ["values","item"] ("are_integers" : Str) (defScope sZ05) f cdv Ar outer s H E).xe:=passes_of rfl
  have tk:=takes_of (X:=cxOf (L2.CX Pr w) Pr w K mg base ["values","item"] ("are_integers" : Str) (defScope sZ05) f cdv Ar outer s H E) rfl rfl rfl rfl
  have hu:=hr.units
  have sc:=scZ05
  exact (Jz (Yi (U6 (cr_all rfl) G8 rfl g_all PyProof.Rows.boot_all (J2 (Xr [(("item" : Str),1)] rfl sc.nd (show BlkOk ["values","item"] (defScope sZ05) _ [(("item" : Str),1)] from blkOk_by (by decide +kernel)) (Wg (qv 0)) (fun _ _ _ _ _=>(Ul (i:=1) sc.nd rfl (by first | exact Or.inl rfl | exact Or.inr rfl) (show 1 ∉ ([0] : List Nat) from by decide))) (fun _ _ _ _ _=>Xs) (fun _ _ _ _ _=>(Y8 cZ0b (hr.mono (by decide)) rfl Mb (J2 (qv 1) Jd))) (show ∀ v ∈ ([1] : List Nat),v ∉ ([0] : List Nat) from by decide) (show ∀ i ∈ ([1] : List Nat),i ∈ ([1] : List Nat) from by decide)) Jd))))
abbrev sZ0l : Stmt:=top 33
theorem scZ0l : FnScope ["_law_stream_here","_law_most","_law_word_here","_law_k"] ["_law_stream_here","_law_most"] (defScope sZ0l):=⟨rfl,rfl,rfl,by decide +kernel,rfl,by decide +kernel,by decide +kernel⟩
theorem wkZ0l {f : Addr} {fd : FuncData} {sp : ASp} {spZ0j : ASp} (cZ0j : Cal Pr w K mg base ("_law_draw" : Str) 1 ["_law_stream_here","_law_many"] spZ0j) (g_range : mg ("range" : Str) = none) (F : FnP K ("_law_word" : Str) ("_law_word" : Str) sZ0l [] f fd) (hlen : ∀ xs,sp.pre xs → xs.length = 2)
    (rd : ∀ xs,sp.pre xs → asZ0l spZ0j (U3 [0,1] sp xs) (Yn 4 xs)) : Fok Pr w K mg base 2 f fd ["_law_stream_here","_law_most"] sp:=by
  refine U8 (N:=["_law_stream_here","_law_most","_law_word_here","_law_k"]) (k:=1) [0,1] F scZ0l hlen (by decide) (fun cdv Ar outer s H E hr=>⟨asZ0l spZ0j,?_,rd⟩)
  have hx:=fun σ=>passAt (X:=cxOf (L2.CX Pr w) Pr w K mg base ["_law_stream_here","_law_most","_law_word_here","_law_k"] ("_law_word" : Str) (defScope sZ0l) f cdv Ar outer s H E) (W:=fun cls d _ H=>E cls d H) (takes_of rfl rfl rfl rfl) σ
  have hp : PassesOwn _ _ _ (cxOf (L2.CX Pr w) Pr w K mg base ["_law_stream_here","_law_most","_law_word_here","_law_k"] ("_law_word" : Str) (defScope sZ0l) f cdv Ar outer s H E).xe:=passes_of rfl
  have tk:=takes_of (X:=cxOf (L2.CX Pr w) Pr w K mg base ["_law_stream_here","_law_most","_law_word_here","_law_k"] ("_law_word" : Str) (defScope sZ0l) f cdv Ar outer s H E) rfl rfl rfl rfl
  have hu:=hr.units
  have sc:=scZ0l
  exact (Jx (Ys (i:=2) sc.nd rfl (by first | exact Or.inl rfl | exact Or.inr rfl) Y9 (show 2 ∉ ([0,1] : List Nat) from by decide))
    (Jx (Jg [] (Zl hp rfl (Su rfl g_range (J2 (Yw Vv Vt Ji (Y8 cZ0j (hr.mono (by decide)) rfl hx (J2 (qr 0) (J2 (qv 1) Jd)))) Jd)) (Ul (i:=3) sc.nd rfl (by first | exact Or.inl rfl | exact Or.inr rfl) (show 3 ∉ ([0,1] : List Nat) from by decide)) (Jz (Jg [3] (Ys (i:=2) sc.nd rfl (by first | exact Or.inl rfl | exact Or.inr rfl) (Ux (Yw Vv Vt (qv 2) (Yf hu Y9 (Y8 cZ0j (hr.mono (by decide)) rfl hx (J2 (qr 0) (J2 Ji Jd)))))) (show 2 ∉ ([0,1] : List Nat) from by decide))))))
    (Jz (Jg [] (Yi (qv 2))))))
abbrev sZ0c : Stmt:=top 35
theorem scZ0c : FnScope ["_law_stream_here","_law_items","_law_found","_law_item"] ["_law_stream_here","_law_items"] (defScope sZ0c):=⟨rfl,rfl,rfl,by decide +kernel,rfl,by decide +kernel,by decide +kernel⟩
theorem wkZ0c {f : Addr} {fd : FuncData} {sp : ASp} {spZ0j : ASp} (cZ0j : Cal Pr w K mg base ("_law_draw" : Str) 1 ["_law_stream_here","_law_many"] spZ0j) (g_len : mg ("len" : Str) = none) (F : FnP K ("_law_order" : Str) ("_law_order" : Str) sZ0c [] f fd) (hlen : ∀ xs,sp.pre xs → xs.length = 2)
    (rd : ∀ xs,sp.pre xs → asZ0c spZ0j (U3 [0,1] sp xs) (Yn 4 xs)) : Fok Pr w K mg base 2 f fd ["_law_stream_here","_law_items"] sp:=by
  refine U8 (N:=["_law_stream_here","_law_items","_law_found","_law_item"]) (k:=1) [0,1] F scZ0c hlen (by decide) (fun cdv Ar outer s H E hr=>⟨asZ0c spZ0j,?_,rd⟩)
  have hx:=fun σ=>passAt (X:=cxOf (L2.CX Pr w) Pr w K mg base ["_law_stream_here","_law_items","_law_found","_law_item"] ("_law_order" : Str) (defScope sZ0c) f cdv Ar outer s H E) (W:=fun cls d _ H=>E cls d H) (takes_of rfl rfl rfl rfl) σ
  have hp : PassesOwn _ _ _ (cxOf (L2.CX Pr w) Pr w K mg base ["_law_stream_here","_law_items","_law_found","_law_item"] ("_law_order" : Str) (defScope sZ0c) f cdv Ar outer s H E).xe:=passes_of rfl
  have tk:=takes_of (X:=cxOf (L2.CX Pr w) Pr w K mg base ["_law_stream_here","_law_items","_law_found","_law_item"] ("_law_order" : Str) (defScope sZ0c) f cdv Ar outer s H E) rfl rfl rfl rfl
  have hu:=hr.units
  have sc:=scZ0c
  exact (Jx (Ys (i:=2) sc.nd rfl (by first | exact Or.inl rfl | exact Or.inr rfl) (W7 Jd) (show 2 ∉ ([0,1] : List Nat) from by decide))
    (Jx (Jg [] (Zl hp rfl (Wg (qv 1)) (Ul (i:=3) sc.nd rfl (by first | exact Or.inl rfl | exact Or.inr rfl) (show 3 ∉ ([0,1] : List Nat) from by decide)) (Fs [3] (Jz (Jg [] (Xi (Ri (qr 2) (Y8 cZ0j (hr.mono (by decide)) rfl hx (J2 (qr 0) (J2 (Yw Vv Vt (U6 V7 V6 rfl g_len boot_len (J2 (qr 2) Jd)) Ji) Jd))) (qv 3))))))))
    (Jz (Jg [] (Yi (qr 2))))))
abbrev sZ0k : Stmt:=top 36
theorem scZ0k : FnScope ["_law_stream_here","_law_signs_here","_law_most","_law_text","_law_k"] ["_law_stream_here","_law_signs_here","_law_most"] (defScope sZ0k):=⟨rfl,rfl,rfl,by decide +kernel,rfl,by decide +kernel,by decide +kernel⟩
theorem wkZ0k {f : Addr} {fd : FuncData} {sp : ASp} {spZ0j : ASp} (cZ0j : Cal Pr w K mg base ("_law_draw" : Str) 1 ["_law_stream_here","_law_many"] spZ0j) (g_range : mg ("range" : Str) = none) (g_len : mg ("len" : Str) = none) (F : FnP K ("_law_mark" : Str) ("_law_mark" : Str) sZ0k [] f fd) (hlen : ∀ xs,sp.pre xs → xs.length = 3)
    (rd : ∀ xs,sp.pre xs → asZ0k spZ0j (U3 [0,1,2] sp xs) (Yn 5 xs)) : Fok Pr w K mg base 2 f fd ["_law_stream_here","_law_signs_here","_law_most"] sp:=by
  refine U8 (N:=["_law_stream_here","_law_signs_here","_law_most","_law_text","_law_k"]) (k:=1) [0,1,2] F scZ0k hlen (by decide) (fun cdv Ar outer s H E hr=>⟨asZ0k spZ0j,?_,rd⟩)
  have hx:=fun σ=>passAt (X:=cxOf (L2.CX Pr w) Pr w K mg base ["_law_stream_here","_law_signs_here","_law_most","_law_text","_law_k"] ("_law_mark" : Str) (defScope sZ0k) f cdv Ar outer s H E) (W:=fun cls d _ H=>E cls d H) (takes_of rfl rfl rfl rfl) σ
  have hp : PassesOwn _ _ _ (cxOf (L2.CX Pr w) Pr w K mg base ["_law_stream_here","_law_signs_here","_law_most","_law_text","_law_k"] ("_law_mark" : Str) (defScope sZ0k) f cdv Ar outer s H E).xe:=passes_of rfl
  have tk:=takes_of (X:=cxOf (L2.CX Pr w) Pr w K mg base ["_law_stream_here","_law_signs_here","_law_most","_law_text","_law_k"] ("_law_mark" : Str) (defScope sZ0k) f cdv Ar outer s H E) rfl rfl rfl rfl
  have hu:=hr.units
  have sc:=scZ0k
  exact (Jx (Ys (i:=3) sc.nd rfl (by first | exact Or.inl rfl | exact Or.inr rfl) Y9 (show 3 ∉ ([0,1,2] : List Nat) from by decide))
    (Jx (Jg [] (Zl hp rfl (Su rfl g_range (J2 (Yw Vv Vt Ji (Y8 cZ0j (hr.mono (by decide)) rfl hx (J2 (qr 0) (J2 (qv 2) Jd)))) Jd)) (Ul (i:=4) sc.nd rfl (by first | exact Or.inl rfl | exact Or.inr rfl) (show 4 ∉ ([0,1,2] : List Nat) from by decide)) (Jz (Jg [4] (Ys (i:=3) sc.nd rfl (by first | exact Or.inl rfl | exact Or.inr rfl) (Ux (Yw Vv Vt (qv 3) (Yf hu (qv 1) (Y8 cZ0j (hr.mono (by decide)) rfl hx (J2 (qr 0) (J2 (U6 V7 V6 rfl g_len boot_len (J2 (qv 1) Jd)) Jd)))))) (show 3 ∉ ([0,1,2] : List Nat) from by decide))))))
    (Jz (Jg [] (Yi (qv 3))))))
abbrev sZ06 : Stmt:=top 39
theorem scZ06 : FnScope ["_law_stream_here","_law_many"] ["_law_stream_here"] (defScope sZ06):=⟨rfl,rfl,rfl,by decide +kernel,rfl,by decide +kernel,by decide +kernel⟩
theorem wkZ06 {f : Addr} {fd : FuncData} {sp : ASp} {spZ0j : ASp} (cZ0j : Cal Pr w K mg base ("_law_draw" : Str) 1 ["_law_stream_here","_law_many"] spZ0j) (dg : PySem.W.nsIn K cStatics "sys.int_max_str_digits" = some none) (g_int : mg ("int" : Str) = none) (F : FnP K ("_law_integer" : Str) ("_law_integer" : Str) sZ06 [] f fd) (hlen : ∀ xs,sp.pre xs → xs.length = 1)
    (rd : ∀ xs,sp.pre xs → asZ06 spZ0j (U3 [0] sp xs) (Yn 2 xs)) : Fok Pr w K mg base 2 f fd ["_law_stream_here"] sp:=by
  refine U8 (N:=["_law_stream_here","_law_many"]) (k:=1) [0] F scZ06 hlen (by decide) (fun cdv Ar outer s H E hr=>⟨asZ06 spZ0j,?_,rd⟩)
  have hx:=fun σ=>passAt (X:=cxOf (L2.CX Pr w) Pr w K mg base ["_law_stream_here","_law_many"] ("_law_integer" : Str) (defScope sZ06) f cdv Ar outer s H E) (W:=fun cls d _ H=>E cls d H) (takes_of rfl rfl rfl rfl) σ
  have hp : PassesOwn _ _ _ (cxOf (L2.CX Pr w) Pr w K mg base ["_law_stream_here","_law_many"] ("_law_integer" : Str) (defScope sZ06) f cdv Ar outer s H E).xe:=passes_of rfl
  have tk:=takes_of (X:=cxOf (L2.CX Pr w) Pr w K mg base ["_law_stream_here","_law_many"] ("_law_integer" : Str) (defScope sZ06) f cdv Ar outer s H E) rfl rfl rfl rfl
  have hu:=hr.units
  have sc:=scZ06
  exact (Jx (Yv (U2 (or_eq hu) s_eq (Y8 cZ0j (hr.mono (by decide)) rfl hx (J2 (qr 0) (J2 Ji Jd))) Ji (nomark _)) (Jz (Jg [] (Yi (Yw op_mulW M9 (Wk (JXm dg) JKt rfl g_int PyProof.Rows.boot_int (J2 (Yw JXn JB1 (Yf hu Y9 (Y8 cZ0j (hr.mono (by decide)) rfl hx (J2 (qr 0) (J2 Ji Jd)))) Ji) Jd)) (Yw op_sub Po Ji (Yw op_mulW M9 Ji (Y8 cZ0j (hr.mono (by decide)) rfl hx (J2 (qr 0) (J2 Ji Jd))))))))) U0)
    (Jx (Jg [] (Ys (i:=1) sc.nd rfl (by first | exact Or.inl rfl | exact Or.inr rfl) (Yf hu (W7 (J2 Ji (J2 Ji (J2 (Yw op_pow Mu Ji Ji) (J2 (Yw op_pow Mu Ji Ji) Jd))))) (Y8 cZ0j (hr.mono (by decide)) rfl hx (J2 (qr 0) (J2 Ji Jd)))) (show 1 ∉ ([0] : List Nat) from by decide)))
    (Jz (Jg [] (Yi (Yw Vv Vt (Yw op_sub Po (Y8 cZ0j (hr.mono (by decide)) rfl hx (J2 (qr 0) (J2 (Yw op_sub Po (Yw op_mulW M9 Ji (qv 1)) Ji) Jd))) (qv 1)) Ji))))))
abbrev sZ03 : Stmt:=top 41
theorem scZ03 : FnScope ["_law_stream_here","_law_entry","_law_row","_law_odd","_law_choice"] ["_law_stream_here","_law_entry"] (defScope sZ03):=⟨rfl,rfl,rfl,by decide +kernel,rfl,by decide +kernel,by decide +kernel⟩
theorem wkZ03 {f : Addr} {fd : FuncData} {sp : ASp} {spZ0j : ASp} (cZ0j : Cal Pr w K mg base ("_law_draw" : Str) 1 ["_law_stream_here","_law_many"] spZ0j) (g_list : mg ("list" : Str) = none) (g_len : mg ("len" : Str) = none) (g_tuple : mg ("tuple" : Str) = none) (F : FnP K ("_law_spoiled" : Str) ("_law_spoiled" : Str) sZ03 [] f fd) (hlen : ∀ xs,sp.pre xs → xs.length = 2)
    (rd : ∀ xs,sp.pre xs → asZ03 spZ0j (U3 [0,1] sp xs) (Yn 5 xs)) : Fok Pr w K mg base 2 f fd ["_law_stream_here","_law_entry"] sp:=by
  refine U8 (N:=["_law_stream_here","_law_entry","_law_row","_law_odd","_law_choice"]) (k:=1) [0,1] F scZ03 hlen (by decide) (fun cdv Ar outer s H E hr=>⟨asZ03 spZ0j,?_,rd⟩)
  have hx:=fun σ=>passAt (X:=cxOf (L2.CX Pr w) Pr w K mg base ["_law_stream_here","_law_entry","_law_row","_law_odd","_law_choice"] ("_law_spoiled" : Str) (defScope sZ03) f cdv Ar outer s H E) (W:=fun cls d _ H=>E cls d H) (takes_of rfl rfl rfl rfl) σ
  have hp : PassesOwn _ _ _ (cxOf (L2.CX Pr w) Pr w K mg base ["_law_stream_here","_law_entry","_law_row","_law_odd","_law_choice"] ("_law_spoiled" : Str) (defScope sZ03) f cdv Ar outer s H E).xe:=passes_of rfl
  have tk:=takes_of (X:=cxOf (L2.CX Pr w) Pr w K mg base ["_law_stream_here","_law_entry","_law_row","_law_odd","_law_choice"] ("_law_spoiled" : Str) (defScope sZ03) f cdv Ar outer s H E) rfl rfl rfl rfl
  have hu:=hr.units
  have sc:=scZ03
  exact (Jx (Ys (i:=2) sc.nd rfl (by first | exact Or.inl rfl | exact Or.inr rfl) (Wk (JM9 rfl) JBi rfl g_list PyProof.Rows.boot_list (J2 (qv 1) Jd)) (show 2 ∉ ([0,1] : List Nat) from by decide))
    (Jx (Jg [] (Ys (i:=3) sc.nd rfl (by first | exact Or.inl rfl | exact Or.inr rfl) (Ux (W7 (J2 Gq (J2 Vg (J2 Y9 (J2 Y9 (J2 Y9 (J2 Y9 (J2 (JFr un_neg JHt Ji) (J2 (W7 (J2 Ji Jd)) (J2 (Z0 (J2 Ji Jd)) (J2 JZq (J2 Y9 (J2 Ji (J2 Y9 Jd))))))))))))))) (show 3 ∉ ([0,1] : List Nat) from by decide)))
    (Jx (Jg [] (Ys (i:=4) sc.nd rfl (by first | exact Or.inl rfl | exact Or.inr rfl) (Y8 cZ0j (hr.mono (by decide)) rfl hx (J2 (qr 0) (J2 Ji Jd))) (show 4 ∉ ([0,1] : List Nat) from by decide)))
    (Jx (Jg [] (Yv (U2 (or_eq hu) s_eq (qv 4) Ji (nomark _)) (Jz (Jg [] (L6 hu (Yf hu (qv 3) (Y8 cZ0j (hr.mono (by decide)) rfl hx (J2 (qr 0) (J2 Ji Jd)))) (qr 2) (Y8 cZ0j (hr.mono (by decide)) rfl hx (J2 (qr 0) (J2 (U6 V7 V6 rfl g_len boot_len (J2 (qr 2) Jd)) Jd)))))) U0))
    (Jx (Jg [] (Yv (U2 (or_eq hu) s_eq (qv 4) Ji (nomark _)) (Jz (Jg [] (Xi (Ri (qr 2) (Y8 cZ0j (hr.mono (by decide)) rfl hx (J2 (qr 0) (J2 (Yw Vv Vt (U6 V7 V6 rfl g_len boot_len (J2 (qr 2) Jd)) Ji) Jd))) (Yf hu (qv 3) (Y8 cZ0j (hr.mono (by decide)) rfl hx (J2 (qr 0) (J2 Ji Jd)))))))) U0))
    (Jx (Jg [] (Yv (U2 (or_eq hu) s_eq (qv 4) Ji (nomark _)) (Jz (Jg [] (Xi (JFt (qr 2) (Y8 cZ0j (hr.mono (by decide)) rfl hx (J2 (qr 0) (J2 (U6 V7 V6 rfl g_len boot_len (J2 (qr 2) Jd)) Jd))))))) U0))
    (Jx (Jg [] (Yv (U2 (or_eq hu) s_eq (qv 4) Ji (nomark _)) (Jz (Jg [2,4] (Yi (Yf hu (qv 3) (Y8 cZ0j (hr.mono (by decide)) rfl hx (J2 (qr 0) (J2 Ji Jd))))))) U0))
    (Jx (Jg [3] (Yv (U2 (or_eq hu) s_eq (qv 4) Ji (nomark _)) (Jz (Jg [4] (Yi (qr 2)))) U0))
    (Jz (Jg [4] (Yi (Wk call_tuple_of Av rfl g_tuple PyProof.Rows.boot_tuple (J2 (qr 2) Jd)))))))))))))
abbrev sZ01 : Stmt:=top 43
theorem scZ01 : FnScope ["_law_thing","_law_rest","_law_part"] ["_law_thing"] (defScope sZ01):=⟨rfl,rfl,rfl,by decide +kernel,rfl,by decide +kernel,by decide +kernel⟩
theorem wkZ01 {f : Addr} {fd : FuncData} {sp : ASp} {spZ09 : ASp} (cZ09 : Cal Pr w K mg base ("_law_fields" : Str) 1 ["_law_word_here"] spZ09) {spZ00 : ASp} (cZ00 : Cal Pr w K mg base ("_law_is_integer" : Str) 1 ["_law_thing"] spZ00) {spZ07 : ASp} (cZ07 : Cal Pr w K mg base ("_law_is_name" : Str) 1 ["_law_thing"] spZ07) (g_isinstance : mg ("isinstance" : Str) = none) (g_tuple : mg ("tuple" : Str) = none) (g_len : mg ("len" : Str) = none) (g_str : mg ("str" : Str) = none) (g_all : mg ("all" : Str) = none) (F : FnP K ("_law_is_entry" : Str) ("_law_is_entry" : Str) sZ01 [] f fd) (hlen : ∀ xs,sp.pre xs → xs.length = 1)
    (rd : ∀ xs,sp.pre xs → asZ01 K spZ09 spZ00 spZ07 (U3 [0] sp xs) (Yn 3 xs)) : Fok Pr w K mg base 2 f fd ["_law_thing"] sp:=by
  refine U8 (N:=["_law_thing","_law_rest","_law_part"]) (k:=1) [0] F scZ01 hlen (by decide) (fun cdv Ar outer s H E hr=>⟨asZ01 K spZ09 spZ00 spZ07,?_,rd⟩)
  have hx:=fun σ=>passAt (X:=cxOf (L2.CX Pr w) Pr w K mg base ["_law_thing","_law_rest","_law_part"] ("_law_is_entry" : Str) (defScope sZ01) f cdv Ar outer s H E) (W:=fun cls d _ H=>E cls d H) (takes_of rfl rfl rfl rfl) σ
  have hp : PassesOwn _ _ _ (cxOf (L2.CX Pr w) Pr w K mg base ["_law_thing","_law_rest","_law_part"] ("_law_is_entry" : Str) (defScope sZ01) f cdv Ar outer s H E).xe:=passes_of rfl
  have tk:=takes_of (X:=cxOf (L2.CX Pr w) Pr w K mg base ["_law_thing","_law_rest","_law_part"] ("_law_is_entry" : Str) (defScope sZ01) f cdv Ar outer s H E) rfl rfl rfl rfl
  have hu:=hr.units
  have sc:=scZ01
  exact (Jx (Yv (W2 (V2 (Ur (Uw (Vn rfl g_isinstance (qv 0) (Ve rfl g_tuple K6)))) (V2 (U2 op_lt B1 (U6 V7 V6 rfl g_len boot_len (J2 (qv 0) Jd)) Ji (nomark _)) (Wf (Ur (Uw (Vn rfl g_isinstance (Yf hu (qv 0) Ji) (Ve rfl g_str Zv)))))))) (Jz (Jg [] (Yi Vg))) U0)
    (Jx (Jg [] (Yv (W2 (V2 (U2 (N3 hu) Fl (Yf hu (qv 0) Ji) (W7 (J2 Y9 (J2 Y9 (J2 Y9 Jd)))) (by rfl)) (Wf (U2 (F8 hu) Bv (U6 V7 V6 rfl g_len boot_len (J2 (qv 0) Jd)) (Yw Vv Vt (U6 V7 V6 rfl g_len boot_len (J2 (Y8 cZ09 (hr.mono (by decide)) rfl hx (J2 (Yf hu (qv 0) Ji) Jd)) Jd)) Ji) (nomark _))))) (Jz (Jg [] (Yi Vg))) U0))
    (Jx (Jg [] (Yv (W2 (V2 (Ur (Uw (Y8 cZ00 (hr.mono (by decide)) rfl hx (J2 (Yf hu (qv 0) Ji) Jd)))) (Wf (U2 op_lt B1 (Yf hu (qv 0) Ji) Ji (nomark _))))) (Jz (Jg [] (Yi Vg))) U0))
    (Jx (Jg [] (Ys (i:=1) sc.nd rfl (by first | exact Or.inl rfl | exact Or.inr rfl) (Ux (Bn (qv 0) (Bm Ji) Bg)) (show 1 ∉ ([0] : List Nat) from by decide)))
    (Jx (Jg [] (Yv (U2 (or_eq hu) s_eq (Yf hu (qv 0) Ji) Y9 (nomark _)) (Jx (Jg [1] (Yv (W2 (V2 (Ur (Uw (Y8 cZ07 (hr.mono (by decide)) rfl hx (J2 (Yf hu (qv 0) Ji) Jd)))) (Wf (Ur (Uw (Y8 cZ07 (hr.mono (by decide)) rfl hx (J2 (Yf hu (qv 0) Ji) Jd))))))) (Jz (Jg [] (Yi Vg))) U0))
    (Jz (Jg [] (Ys (i:=1) sc.nd rfl (by first | exact Or.inl rfl | exact Or.inr rfl) (Ux (Bn (qv 0) (Bm Ji) Bg)) (show 1 ∉ ([0] : List Nat) from by decide))))) U0))
    (Jz (Jg [] (Yi (U6 (cr_all rfl) G8 rfl g_all PyProof.Rows.boot_all (J2 (Xr [(("_law_part" : Str),2)] rfl sc.nd (show BlkOk ["_law_thing","_law_rest","_law_part"] (defScope sZ01) _ [(("_law_part" : Str),2)] from blkOk_by (by decide +kernel)) (Wg (qv 1)) (fun _ _ _ _ _=>(Ul (i:=2) sc.nd rfl (by first | exact Or.inl rfl | exact Or.inr rfl) (show 2 ∉ ([0] : List Nat) from by decide))) (fun _ _ _ _ _=>Xs) (fun _ _ _ _ _=>(Y8 cZ00 (hr.mono (by decide)) rfl Mb (J2 (qv 2) Jd))) (show ∀ v ∈ ([2] : List Nat),v ∉ ([0] : List Nat) from by decide) (show ∀ i ∈ ([2] : List Nat),i ∈ ([2] : List Nat) from by decide)) Jd))))))))))
abbrev sZ0n : Stmt:=top 44
theorem scZ0n : FnScope ["_law_pieces","_law_entry","_law_fields_here","_law_text","_law_piece","_law_part"] ["_law_pieces","_law_entry"] (defScope sZ0n):=⟨rfl,rfl,rfl,by decide +kernel,rfl,by decide +kernel,by decide +kernel⟩
theorem wkZ0n {f : Addr} {fd : FuncData} {sp : ASp} {spZ09 : ASp} (cZ09 : Cal Pr w K mg base ("_law_fields" : Str) 1 ["_law_word_here"] spZ09) (dg : PySem.W.nsIn K cStatics "sys.int_max_str_digits" = some none) (g_str : mg ("str" : Str) = none) (F : FnP K ("_law_due" : Str) ("_law_due" : Str) sZ0n [] f fd) (hlen : ∀ xs,sp.pre xs → xs.length = 2)
    (rd : ∀ xs,sp.pre xs → asZ0n spZ09 (U3 [0,1] sp xs) (Yn 6 xs)) : Fok Pr w K mg base 2 f fd ["_law_pieces","_law_entry"] sp:=by
  refine U8 (N:=["_law_pieces","_law_entry","_law_fields_here","_law_text","_law_piece","_law_part"]) (k:=1) [0,1] F scZ0n hlen (by decide) (fun cdv Ar outer s H E hr=>⟨asZ0n spZ09,?_,rd⟩)
  have hx:=fun σ=>passAt (X:=cxOf (L2.CX Pr w) Pr w K mg base ["_law_pieces","_law_entry","_law_fields_here","_law_text","_law_piece","_law_part"] ("_law_due" : Str) (defScope sZ0n) f cdv Ar outer s H E) (W:=fun cls d _ H=>E cls d H) (takes_of rfl rfl rfl rfl) σ
  have hp : PassesOwn _ _ _ (cxOf (L2.CX Pr w) Pr w K mg base ["_law_pieces","_law_entry","_law_fields_here","_law_text","_law_piece","_law_part"] ("_law_due" : Str) (defScope sZ0n) f cdv Ar outer s H E).xe:=passes_of rfl
  have tk:=takes_of (X:=cxOf (L2.CX Pr w) Pr w K mg base ["_law_pieces","_law_entry","_law_fields_here","_law_text","_law_piece","_law_part"] ("_law_due" : Str) (defScope sZ0n) f cdv Ar outer s H E) rfl rfl rfl rfl
  have hu:=hr.units
  have sc:=scZ0n
  exact (Jx (Ys (i:=2) sc.nd rfl (by first | exact Or.inl rfl | exact Or.inr rfl) (Ux (Y8 cZ09 (hr.mono (by decide)) rfl hx (J2 (Yf hu (qv 1) Ji) Jd))) (show 2 ∉ ([0,1] : List Nat) from by decide))
    (Jx (Jg [] (Ys (i:=3) sc.nd rfl (by first | exact Or.inl rfl | exact Or.inr rfl) Y9 (show 3 ∉ ([0,1] : List Nat) from by decide)))
    (Jx (Jg [] (Zl hp rfl (Wg (qv 0)) (Ul (i:=4) sc.nd rfl (by first | exact Or.inl rfl | exact Or.inr rfl) (show 4 ∉ ([0,1] : List Nat) from by decide)) (Fs [5] (Jx (Jg [] (Ys (i:=5) sc.nd rfl (by first | exact Or.inl rfl | exact Or.inr rfl) (Yf hu (qv 4) Ji) (show 5 ∉ ([0,1] : List Nat) from by decide)))
    (Jx (Jg [] (Yv (U2 (or_eq hu) s_eq (Yf hu (qv 4) Ji) Y9 (nomark _)) (Jz (Jg [5] (Ys (i:=5) sc.nd rfl (by first | exact Or.inl rfl | exact Or.inr rfl) (Ux (Wk (S9 dg) JZ4 rfl g_str PyProof.Rows.boot_str (J2 (Yf hu (qv 1) (Yw Vv Vt Ji (JWz (qv 2) (Yf hu (qv 4) Ji)))) Jd))) (show 5 ∉ ([0,1] : List Nat) from by decide)))) U0))
    (Jz (Jg [4] (Ys (i:=3) sc.nd rfl (by first | exact Or.inl rfl | exact Or.inr rfl) (Ux (Yw Vv Vt (qv 3) (qv 5))) (show 3 ∉ ([0,1] : List Nat) from by decide)))))))))
    (Jz (Jg [2] (Yi (qv 3)))))))
abbrev sZ0p : Stmt:=top 17
theorem scZ0p : FnScope ["value","fields","piece","kind","word"] ["value","fields"] (defScope sZ0p):=⟨rfl,rfl,rfl,by decide +kernel,rfl,by decide +kernel,by decide +kernel⟩
theorem wkZ0p {f : Addr} {fd : FuncData} {sp : ASp} {spZ0r : ASp} (cZ0r : Cal Pr w K mg base ("is_row" : Str) 1 ["value"] spZ0r) {spZ0m : ASp} (cZ0m : Cal Pr w K mg base ("is_piece" : Str) 2 ["value","fields"] spZ0m) (g_len : mg ("len" : Str) = none) (g_all : mg ("all" : Str) = none) (g_sorted : mg ("sorted" : Str) = none) (k_MOST_PIECES : ∃ t,mg ("MOST_PIECES" : Str) = some (.int 15 t)) (F : FnP K ("is_shape" : Str) ("is_shape" : Str) sZ0p [] f fd) (hlen : ∀ xs,sp.pre xs → xs.length = 2)
    (rd : ∀ xs,sp.pre xs → asZ0p spZ0r spZ0m (U3 [0,1] sp xs) (Yn 5 xs)) : Fok Pr w K mg base 3 f fd ["value","fields"] sp:=by
  refine U8 (N:=["value","fields","piece","kind","word"]) (k:=2) [0,1] F scZ0p hlen (by decide) (fun cdv Ar outer s H E hr=>⟨asZ0p spZ0r spZ0m,?_,rd⟩)
  have hx:=fun σ=>passAt (X:=cxOf (L2.CX Pr w) Pr w K mg base ["value","fields","piece","kind","word"] ("is_shape" : Str) (defScope sZ0p) f cdv Ar outer s H E) (W:=fun cls d _ H=>E cls d H) (takes_of rfl rfl rfl rfl) σ
  have hp : PassesOwn _ _ _ (cxOf (L2.CX Pr w) Pr w K mg base ["value","fields","piece","kind","word"] ("is_shape" : Str) (defScope sZ0p) f cdv Ar outer s H E).xe:=passes_of rfl
  have tk:=takes_of (X:=cxOf (L2.CX Pr w) Pr w K mg base ["value","fields","piece","kind","word"] ("is_shape" : Str) (defScope sZ0p) f cdv Ar outer s H E) rfl rfl rfl rfl
  have hu:=hr.units
  have sc:=scZ0p
  exact (Jx (Yv (W2 (V2 (Ur (Uw (Y8 cZ0r (hr.mono (by decide)) rfl hx (J2 (qv 0) Jd)))) (Wf (Ur (N4 op_le Xl op_le Xl Ji (U6 V7 V6 rfl g_len boot_len (J2 (qv 0) Jd)) (Be k_MOST_PIECES rfl)))))) (Jz (Jg [] (Yi Vg))) U0)
    (Jx (Jg [] (Yv (Ur (Uw (U6 (cr_all rfl) G8 rfl g_all PyProof.Rows.boot_all (J2 (Xr [(("piece" : Str),2)] rfl sc.nd (show BlkOk ["value","fields","piece","kind","word"] (defScope sZ0p) _ [(("piece" : Str),2)] from blkOk_by (by decide +kernel)) (Wg (qv 0)) (fun _ _ _ _ _=>(Ul (i:=2) sc.nd rfl (by first | exact Or.inl rfl | exact Or.inr rfl) (show 2 ∉ ([0,1] : List Nat) from by decide))) (fun _ _ _ _ _=>Xs) (fun _ _ _ _ _=>(Y8 cZ0m (hr.mono (by decide)) rfl Mb (J2 (qv 2) (J2 (qv 1) Jd)))) (show ∀ v ∈ ([2] : List Nat),v ∉ ([0,1] : List Nat) from by decide) (show ∀ i ∈ ([2] : List Nat),i ∈ ([2] : List Nat) from by decide)) Jd)))) (Jz (Jg [] (Yi Vg))) U0))
    (Jz (Jg [] (Yi (Wy (or_eq hu) s_eq (U6 (JBb rfl hu) JK6 rfl g_sorted PyProof.Rows.boot_sorted (J2 (Xr [(("kind" : Str),3),(("word" : Str),4)] rfl sc.nd (show BlkOk ["value","fields","piece","kind","word"] (defScope sZ0p) _ [(("kind" : Str),3),(("word" : Str),4)] from blkOk_by (by decide +kernel)) (Wg (qv 0)) (fun _ _ _ _ _=>(Gk rfl (Wr (Ul (i:=3) sc.nd rfl (by first | exact Or.inl rfl | exact Or.inr rfl) (show 3 ∉ ([0,1] : List Nat) from by decide)) (Wr (Ul (i:=4) sc.nd rfl (by first | exact Or.inl rfl | exact Or.inr rfl) (show 4 ∉ ([0,1] : List Nat) from by decide)) Gz)))) (fun _ _ _ _ _=>(Ci (U2 (or_eq hu) s_eq (qv 3) Y9 (nomark _)))) (fun _ _ _ _ _=>(qv 4)) (show ∀ v ∈ ([3,4] : List Nat),v ∉ ([0,1] : List Nat) from by decide) (show ∀ i ∈ ([3,4] : List Nat),i ∈ ([3,4] : List Nat) from by decide)) Jd)) (U6 (JBl hu) JMx rfl g_sorted PyProof.Rows.boot_sorted (J2 (qv 1) Jd)) (nomark _)))))))
abbrev sZ0i : Stmt:=Vm 18 2
theorem scZ0i : FnScope ["self","word"] ["self","word"] (defScope sZ0i):=⟨rfl,rfl,rfl,by decide +kernel,rfl,by decide +kernel,by decide +kernel⟩
theorem wkZ0i {f : Addr} {fd : FuncData} {sp : ASp} {J9 Jm : Addr} (cl_Form : Cls K J9) (na_Form__shapes : NoAttr K J9 ("_shapes" : Str)) (ra_BadForm : Rai Pr w K mg base ("BadForm" : Str) Jm ("value" : Str) 1) (g_isinstance : mg ("isinstance" : Str) = none) (g_str : mg ("str" : Str) = none) (u_WORDS : mg ("WORDS" : Str) = some (.ref (He.ga K ("WORDS" : Str)))) (t_WORDS : GTup K (He.ga K ("WORDS" : Str)) [.str ("row" : Str),.str ("fix" : Str),.str ("gone" : Str)]) (F : FnP K ("shape" : Str) ("Form.shape" : Str) sZ0i [] f fd) (hlen : ∀ xs,sp.pre xs → xs.length = 2)
    (rd : ∀ xs,sp.pre xs → asZ0i K J9 Jm (U3 [0,1] sp xs) (Yn 2 xs)) : Fok Pr w K mg base 3 f fd ["self","word"] sp:=by
  refine U8 (N:=["self","word"]) (k:=2) [0,1] F scZ0i hlen (by decide) (fun cdv Ar outer s H E hr=>⟨asZ0i K J9 Jm,?_,rd⟩)
  have hx:=fun σ=>passAt (X:=cxOf (L2.CX Pr w) Pr w K mg base ["self","word"] ("Form.shape" : Str) (defScope sZ0i) f cdv Ar outer s H E) (W:=fun cls d _ H=>E cls d H) (takes_of rfl rfl rfl rfl) σ
  have hp : PassesOwn _ _ _ (cxOf (L2.CX Pr w) Pr w K mg base ["self","word"] ("Form.shape" : Str) (defScope sZ0i) f cdv Ar outer s H E).xe:=passes_of rfl
  have tk:=takes_of (X:=cxOf (L2.CX Pr w) Pr w K mg base ["self","word"] ("Form.shape" : Str) (defScope sZ0i) f cdv Ar outer s H E) rfl rfl rfl rfl
  have hu:=hr.units
  have sc:=scZ0i
  exact (Jx (Yv (W2 (V2 (Ur (Uw (Vn rfl g_isinstance (qv 1) (Ve rfl g_str Zv)))) (Wf (U2 (N3 hu) Fl (qv 1) (Nw u_WORDS t_WORDS rfl rfl) (by rfl))))) (Jz (Jg [] (Hw ra_BadForm rfl tk (hr.mono (by decide)) rfl (qv 1)))) U0)
    (Jz (Jg [] (Yi (Yf hu (JBp cl_Form na_Form__shapes (qv 0)) (qv 1))))))
abbrev sZ0e : Stmt:=top 19
theorem scZ0e : FnScope ["form"] ["form"] (defScope sZ0e):=⟨rfl,rfl,rfl,by decide +kernel,rfl,by decide +kernel,by decide +kernel⟩
theorem wkZ0e {f : Addr} {fd : FuncData} {sp : ASp} {Jm J9 : Addr} (ra_BadForm : Rai Pr w K mg base ("BadForm" : Str) Jm ("value" : Str) 1) (gc_Form : mg ("Form" : Str) = some (.ref J9)) (g_isinstance : mg ("isinstance" : Str) = none) (F : FnP K ("check_form" : Str) ("check_form" : Str) sZ0e [] f fd) (hlen : ∀ xs,sp.pre xs → xs.length = 1)
    (rd : ∀ xs,sp.pre xs → asZ0e K Jm J9 (U3 [0] sp xs) (Yn 1 xs)) : Fok Pr w K mg base 3 f fd ["form"] sp:=by
  refine U8 (N:=["form"]) (k:=2) [0] F scZ0e hlen (by decide) (fun cdv Ar outer s H E hr=>⟨asZ0e K Jm J9,?_,rd⟩)
  have hx:=fun σ=>passAt (X:=cxOf (L2.CX Pr w) Pr w K mg base ["form"] ("check_form" : Str) (defScope sZ0e) f cdv Ar outer s H E) (W:=fun cls d _ H=>E cls d H) (takes_of rfl rfl rfl rfl) σ
  have hp : PassesOwn _ _ _ (cxOf (L2.CX Pr w) Pr w K mg base ["form"] ("check_form" : Str) (defScope sZ0e) f cdv Ar outer s H E).xe:=passes_of rfl
  have tk:=takes_of (X:=cxOf (L2.CX Pr w) Pr w K mg base ["form"] ("check_form" : Str) (defScope sZ0e) f cdv Ar outer s H E) rfl rfl rfl rfl
  have hu:=hr.units
  have sc:=scZ0e
  exact (Jz (Yv (Ur (Uw (Vn rfl g_isinstance (qr 0) (Nm rfl gc_Form)))) (Jz (Jg [] (Hw ra_BadForm rfl tk (hr.mono (by decide)) rfl (qr 0)))) U0))
abbrev sZ0o : Stmt:=top 25
theorem scZ0o : FnScope ["value"] ["value"] (defScope sZ0o):=⟨rfl,rfl,rfl,by decide +kernel,rfl,by decide +kernel,by decide +kernel⟩
theorem wkZ0o {f : Addr} {fd : FuncData} {sp : ASp} {spZ0s : ASp} (cZ0s : Cal Pr w K mg base ("is_id" : Str) 2 ["value"] spZ0s) {spZ0q : ASp} (cZ0q : Cal Pr w K mg base ("is_name" : Str) 1 ["text"] spZ0q) {spZ05 : ASp} (cZ05 : Cal Pr w K mg base ("are_integers" : Str) 2 ["values"] spZ05) (g_isinstance : mg ("isinstance" : Str) = none) (g_tuple : mg ("tuple" : Str) = none) (g_len : mg ("len" : Str) = none) (g_str : mg ("str" : Str) = none) (k_GONE_SIZE : ∃ t,mg ("GONE_SIZE" : Str) = some (.int 3 t)) (k_ROW_SIZE : ∃ t,mg ("ROW_SIZE" : Str) = some (.int 7 t)) (k_FIX_SIZE : ∃ t,mg ("FIX_SIZE" : Str) = some (.int 5 t)) (F : FnP K ("is_entry" : Str) ("is_entry" : Str) sZ0o [] f fd) (hlen : ∀ xs,sp.pre xs → xs.length = 1)
    (rd : ∀ xs,sp.pre xs → asZ0o K spZ0s spZ0q spZ05 (U3 [0] sp xs) (Yn 1 xs)) : Fok Pr w K mg base 3 f fd ["value"] sp:=by
  refine U8 (N:=["value"]) (k:=2) [0] F scZ0o hlen (by decide) (fun cdv Ar outer s H E hr=>⟨asZ0o K spZ0s spZ0q spZ05,?_,rd⟩)
  have hx:=fun σ=>passAt (X:=cxOf (L2.CX Pr w) Pr w K mg base ["value"] ("is_entry" : Str) (defScope sZ0o) f cdv Ar outer s H E) (W:=fun cls d _ H=>E cls d H) (takes_of rfl rfl rfl rfl) σ
  have hp : PassesOwn _ _ _ (cxOf (L2.CX Pr w) Pr w K mg base ["value"] ("is_entry" : Str) (defScope sZ0o) f cdv Ar outer s H E).xe:=passes_of rfl
  have tk:=takes_of (X:=cxOf (L2.CX Pr w) Pr w K mg base ["value"] ("is_entry" : Str) (defScope sZ0o) f cdv Ar outer s H E) rfl rfl rfl rfl
  have hu:=hr.units
  have sc:=scZ0o
  exact (Jx (Yv (W2 (V2 (Ur (Uw (Vn rfl g_isinstance (qv 0) (Ve rfl g_tuple K6)))) (V2 (U2 op_lt B1 (U6 V7 V6 rfl g_len boot_len (J2 (qv 0) Jd)) (Be k_GONE_SIZE rfl) (nomark _)) (Wf (Ur (Uw (Vn rfl g_isinstance (Yf hu (qv 0) Ji) (Ve rfl g_str Zv)))))))) (Jz (Jg [] (Yi Vg))) U0)
    (Jx (Jg [] (Yv (Ur (Uw (Y8 cZ0s (hr.mono (by decide)) rfl hx (J2 (Yf hu (qv 0) Ji) Jd)))) (Jz (Jg [] (Yi Vg))) U0))
    (Jx (Jg [] (Yv (U2 (or_eq hu) s_eq (Yf hu (qv 0) Ji) Y9 (nomark _)) (Jz (Jg [] (Yi (Z4 (Wy (or_eq hu) s_eq (U6 V7 V6 rfl g_len boot_len (J2 (qv 0) Jd)) (Be k_ROW_SIZE rfl) (nomark _)) (Z4 (Y8 cZ0q (hr.mono (by decide)) rfl hx (J2 (Yf hu (qv 0) Ji) Jd)) (Z4 (Y8 cZ0q (hr.mono (by decide)) rfl hx (J2 (Yf hu (qv 0) Ji) Jd)) (Xo (Y8 cZ05 (hr.mono (by decide)) rfl hx (J2 (Ux (Bn (qv 0) (Bm Ji) Bg)) Jd))))))))) U0))
    (Jx (Jg [] (Yv (U2 (or_eq hu) s_eq (Yf hu (qv 0) Ji) Y9 (nomark _)) (Jz (Jg [] (Yi (Z4 (Wy (or_eq hu) s_eq (U6 V7 V6 rfl g_len boot_len (J2 (qv 0) Jd)) (Be k_FIX_SIZE rfl) (nomark _)) (Xo (Y8 cZ05 (hr.mono (by decide)) rfl hx (J2 (Ux (Bn (qv 0) (Bm Ji) Bg)) Jd))))))) U0))
    (Jz (Jg [] (Yi (Z4 (Wy (or_eq hu) s_eq (Yf hu (qv 0) Ji) Y9 (nomark _)) (Z4 (Wy (or_eq hu) s_eq (U6 V7 V6 rfl g_len boot_len (J2 (qv 0) Jd)) (Be k_GONE_SIZE rfl) (nomark _)) (Xo (Y8 cZ05 (hr.mono (by decide)) rfl hx (J2 (Ux (Bn (qv 0) (Bm Ji) Bg)) Jd))))))))))))
abbrev sZ0h : Stmt:=top 38
theorem scZ0h : FnScope ["_law_stream_here","_law_word_here","_law_signs_here","_law_often","_law_most","_law_pieces","_law_field"] ["_law_stream_here","_law_word_here","_law_signs_here","_law_often","_law_most"] (defScope sZ0h):=⟨rfl,rfl,rfl,by decide +kernel,rfl,by decide +kernel,by decide +kernel⟩
theorem wkZ0h {f : Addr} {fd : FuncData} {sp : ASp} {spZ0c : ASp} (cZ0c : Cal Pr w K mg base ("_law_order" : Str) 2 ["_law_stream_here","_law_items"] spZ0c) {spZ09 : ASp} (cZ09 : Cal Pr w K mg base ("_law_fields" : Str) 1 ["_law_word_here"] spZ09) {spZ0j : ASp} (cZ0j : Cal Pr w K mg base ("_law_draw" : Str) 1 ["_law_stream_here","_law_many"] spZ0j) {spZ0k : ASp} (cZ0k : Cal Pr w K mg base ("_law_mark" : Str) 2 ["_law_stream_here","_law_signs_here","_law_most"] spZ0k) (F : FnP K ("_law_shape" : Str) ("_law_shape" : Str) sZ0h [] f fd) (hlen : ∀ xs,sp.pre xs → xs.length = 5)
    (rd : ∀ xs,sp.pre xs → asZ0h spZ0c spZ09 spZ0j spZ0k (U3 [0,1,2,3,4] sp xs) (Yn 7 xs)) : Fok Pr w K mg base 3 f fd ["_law_stream_here","_law_word_here","_law_signs_here","_law_often","_law_most"] sp:=by
  refine U8 (N:=["_law_stream_here","_law_word_here","_law_signs_here","_law_often","_law_most","_law_pieces","_law_field"]) (k:=2) [0,1,2,3,4] F scZ0h hlen (by decide) (fun cdv Ar outer s H E hr=>⟨asZ0h spZ0c spZ09 spZ0j spZ0k,?_,rd⟩)
  have hx:=fun σ=>passAt (X:=cxOf (L2.CX Pr w) Pr w K mg base ["_law_stream_here","_law_word_here","_law_signs_here","_law_often","_law_most","_law_pieces","_law_field"] ("_law_shape" : Str) (defScope sZ0h) f cdv Ar outer s H E) (W:=fun cls d _ H=>E cls d H) (takes_of rfl rfl rfl rfl) σ
  have hp : PassesOwn _ _ _ (cxOf (L2.CX Pr w) Pr w K mg base ["_law_stream_here","_law_word_here","_law_signs_here","_law_often","_law_most","_law_pieces","_law_field"] ("_law_shape" : Str) (defScope sZ0h) f cdv Ar outer s H E).xe:=passes_of rfl
  have tk:=takes_of (X:=cxOf (L2.CX Pr w) Pr w K mg base ["_law_stream_here","_law_word_here","_law_signs_here","_law_often","_law_most","_law_pieces","_law_field"] ("_law_shape" : Str) (defScope sZ0h) f cdv Ar outer s H E) rfl rfl rfl rfl
  have hu:=hr.units
  have sc:=scZ0h
  exact (Jx (Ys (i:=5) sc.nd rfl (by first | exact Or.inl rfl | exact Or.inr rfl) (W7 Jd) (show 5 ∉ ([0,1,2,3,4] : List Nat) from by decide))
    (Jx (Jg [] (Zl hp rfl (Wg (Y8 cZ0c (hr.mono (by decide)) rfl hx (J2 (qr 0) (J2 (Ux (Y8 cZ09 (hr.mono (by decide)) rfl hx (J2 (qv 1) Jd))) Jd)))) (Ul (i:=6) sc.nd rfl (by first | exact Or.inl rfl | exact Or.inr rfl) (show 6 ∉ ([0,1,2,3,4] : List Nat) from by decide)) (Fs [6] (Jx (Jg [] (Yv (U2 op_lt B1 (Y8 cZ0j (hr.mono (by decide)) rfl hx (J2 (qr 0) (J2 Ji Jd))) (qv 3) (nomark _)) (Jz (Jg [] (Xi (Kr (qr 5) (Z0 (J2 Y9 (J2 (Y8 cZ0k (hr.mono (by decide)) rfl hx (J2 (qr 0) (J2 (qv 2) (J2 (qv 4) Jd)))) Jd))))))) U0))
    (Jz (Jg [] (Xi (Kr (qr 5) (Z0 (J2 Y9 (J2 (qv 6) Jd)))))))))))
    (Jx (Jg [] (Yv (U2 op_lt B1 (Y8 cZ0j (hr.mono (by decide)) rfl hx (J2 (qr 0) (J2 Ji Jd))) (qv 3) (nomark _)) (Jz (Jg [] (Xi (Kr (qr 5) (Z0 (J2 Y9 (J2 (Y8 cZ0k (hr.mono (by decide)) rfl hx (J2 (qr 0) (J2 (qv 2) (J2 (qv 4) Jd)))) Jd))))))) U0))
    (Jz (Jg [] (Yi (qr 5)))))))
abbrev sZ0d : Stmt:=top 40
theorem scZ0d : FnScope ["_law_stream_here","_law_word_here","_law_number","_law_names"] ["_law_stream_here"] (defScope sZ0d):=⟨rfl,rfl,rfl,by decide +kernel,rfl,by decide +kernel,by decide +kernel⟩
theorem wkZ0d {f : Addr} {fd : FuncData} {sp : ASp} {spZ0j : ASp} (cZ0j : Cal Pr w K mg base ("_law_draw" : Str) 1 ["_law_stream_here","_law_many"] spZ0j) {spZ06 : ASp} (cZ06 : Cal Pr w K mg base ("_law_integer" : Str) 2 ["_law_stream_here"] spZ06) {spZ0l : ASp} (cZ0l : Cal Pr w K mg base ("_law_word" : Str) 2 ["_law_stream_here","_law_most"] spZ0l) (g_abs : mg ("abs" : Str) = none) (F : FnP K ("_law_drawn" : Str) ("_law_drawn" : Str) sZ0d [] f fd) (hlen : ∀ xs,sp.pre xs → xs.length = 1)
    (rd : ∀ xs,sp.pre xs → asZ0d spZ0j spZ06 spZ0l (U3 [0] sp xs) (Yn 4 xs)) : Fok Pr w K mg base 3 f fd ["_law_stream_here"] sp:=by
  refine U8 (N:=["_law_stream_here","_law_word_here","_law_number","_law_names"]) (k:=2) [0] F scZ0d hlen (by decide) (fun cdv Ar outer s H E hr=>⟨asZ0d spZ0j spZ06 spZ0l,?_,rd⟩)
  have hx:=fun σ=>passAt (X:=cxOf (L2.CX Pr w) Pr w K mg base ["_law_stream_here","_law_word_here","_law_number","_law_names"] ("_law_drawn" : Str) (defScope sZ0d) f cdv Ar outer s H E) (W:=fun cls d _ H=>E cls d H) (takes_of rfl rfl rfl rfl) σ
  have hp : PassesOwn _ _ _ (cxOf (L2.CX Pr w) Pr w K mg base ["_law_stream_here","_law_word_here","_law_number","_law_names"] ("_law_drawn" : Str) (defScope sZ0d) f cdv Ar outer s H E).xe:=passes_of rfl
  have tk:=takes_of (X:=cxOf (L2.CX Pr w) Pr w K mg base ["_law_stream_here","_law_word_here","_law_number","_law_names"] ("_law_drawn" : Str) (defScope sZ0d) f cdv Ar outer s H E) rfl rfl rfl rfl
  have hu:=hr.units
  have sc:=scZ0d
  exact (Jx (Ys (i:=1) sc.nd rfl (by first | exact Or.inl rfl | exact Or.inr rfl) (Yf hu (W7 (J2 Y9 (J2 Y9 (J2 Y9 Jd)))) (Y8 cZ0j (hr.mono (by decide)) rfl hx (J2 (qr 0) (J2 Ji Jd)))) (show 1 ∉ ([0] : List Nat) from by decide))
    (Jx (Jg [] (Ys (i:=2) sc.nd rfl (by first | exact Or.inl rfl | exact Or.inr rfl) (U6 call_abs T9 rfl g_abs PyProof.Rows.boot_abs (J2 (Y8 cZ06 (hr.mono (by decide)) rfl hx (J2 (qr 0) Jd)) Jd)) (show 2 ∉ ([0] : List Nat) from by decide)))
    (Jx (Jg [] (Yv (U2 (or_eq hu) s_eq (qv 1) Y9 (nomark _)) (Jx (Jg [] (Ys (i:=3) sc.nd rfl (by first | exact Or.inl rfl | exact Or.inr rfl) (Ux (W7 (J2 (Y8 cZ0l (hr.mono (by decide)) rfl hx (J2 (qr 0) (J2 Ji Jd))) (J2 (Y8 cZ0l (hr.mono (by decide)) rfl hx (J2 (qr 0) (J2 Ji Jd))) Jd)))) (show 3 ∉ ([0] : List Nat) from by decide)))
    (Jz (Jg [] (Yi (Z0 (J2 (qv 1) (J2 (qv 2) (J2 (Yf hu (qv 3) Ji) (J2 (Yf hu (qv 3) Ji) (J2 (Y8 cZ06 (hr.mono (by decide)) rfl hx (J2 (qr 0) Jd)) (J2 (Y8 cZ06 (hr.mono (by decide)) rfl hx (J2 (qr 0) Jd)) (J2 (Y8 cZ06 (hr.mono (by decide)) rfl hx (J2 (qr 0) Jd)) Jd)))))))))))) U0))
    (Jx (Jg [3] (Yv (U2 (or_eq hu) s_eq (qv 1) Y9 (nomark _)) (Jz (Jg [] (Yi (Z0 (J2 (qv 1) (J2 (qv 2) (J2 (Y8 cZ06 (hr.mono (by decide)) rfl hx (J2 (qr 0) Jd)) (J2 (Y8 cZ06 (hr.mono (by decide)) rfl hx (J2 (qr 0) Jd)) (J2 (Y8 cZ06 (hr.mono (by decide)) rfl hx (J2 (qr 0) Jd)) Jd))))))))) U0))
    (Jz (Jg [] (Yi (Z0 (J2 (qv 1) (J2 (qv 2) (J2 (Y8 cZ06 (hr.mono (by decide)) rfl hx (J2 (qr 0) Jd)) Jd)))))))))))
abbrev sZ02 : Stmt:=Vm 18 0
theorem scZ02 : FnScope ["self","row","fix","gone","shapes","word"] ["self","row","fix","gone"] (defScope sZ02):=⟨rfl,rfl,rfl,by decide +kernel,rfl,by decide +kernel,by decide +kernel⟩
theorem wkZ02 {f : Addr} {fd : FuncData} {sp : ASp} {J9 Jm : Addr} {spZ0p : ASp} (cZ0p : Cal Pr w K mg base ("is_shape" : Str) 3 ["value","fields"] spZ0p) (cl_Form : Cls K J9) (na_Form__shapes : NoAttr K J9 ("_shapes" : Str)) (ra_BadForm : Rai Pr w K mg base ("BadForm" : Str) Jm ("value" : Str) 1) (g_tuple : mg ("tuple" : Str) = none) (u_WORDS : mg ("WORDS" : Str) = some (.ref (He.ga K ("WORDS" : Str)))) (t_WORDS : GTup K (He.ga K ("WORDS" : Str)) [.str ("row" : Str),.str ("fix" : Str),.str ("gone" : Str)]) (u_FIELDS : mg ("FIELDS" : Str) = some (.ref (He.ga K ("FIELDS" : Str)))) (t_FIELDS : GTab K w (He.ga K ("FIELDS" : Str)) T_FIELDS) (F : FnP K ("__init__" : Str) ("Form.__init__" : Str) sZ02 [] f fd) (hlen : ∀ xs,sp.pre xs → xs.length = 4)
    (rd : ∀ xs,sp.pre xs → asZ02 J9 Jm spZ0p (U3 [0,1,2,3] sp xs) (Yn 6 xs)) : Fok Pr w K mg base 4 f fd ["self","row","fix","gone"] sp:=by
  refine U8 (N:=["self","row","fix","gone","shapes","word"]) (k:=3) [0,1,2,3] F scZ02 hlen (by decide) (fun cdv Ar outer s H E hr=>⟨asZ02 J9 Jm spZ0p,?_,rd⟩)
  have hx:=fun σ=>passAt (X:=cxOf (L2.CX Pr w) Pr w K mg base ["self","row","fix","gone","shapes","word"] ("Form.__init__" : Str) (defScope sZ02) f cdv Ar outer s H E) (W:=fun cls d _ H=>E cls d H) (takes_of rfl rfl rfl rfl) σ
  have hp : PassesOwn _ _ _ (cxOf (L2.CX Pr w) Pr w K mg base ["self","row","fix","gone","shapes","word"] ("Form.__init__" : Str) (defScope sZ02) f cdv Ar outer s H E).xe:=passes_of rfl
  have tk:=takes_of (X:=cxOf (L2.CX Pr w) Pr w K mg base ["self","row","fix","gone","shapes","word"] ("Form.__init__" : Str) (defScope sZ02) f cdv Ar outer s H E) rfl rfl rfl rfl
  have hu:=hr.units
  have sc:=scZ02
  exact (Jx (Ys (i:=4) sc.nd rfl (by first | exact Or.inl rfl | exact Or.inr rfl) (Ux (JFb (Nt Y9 (qv 1) (Nt Y9 (qv 2) (Nt Y9 (qv 3) JGr))) rfl rfl (by decide) (by decide))) (show 4 ∉ ([0,1,2,3] : List Nat) from by decide))
    (Jx (Jg [] (Zl hp rfl (Wg (Nw u_WORDS t_WORDS rfl rfl)) (Ul (i:=5) sc.nd rfl (by first | exact Or.inl rfl | exact Or.inr rfl) (show 5 ∉ ([0,1,2,3] : List Nat) from by decide)) (Jz (Jg [] (Yv (Ur (Uw (Y8 cZ0p (hr.mono (by decide)) rfl hx (J2 (Yf hu (qv 4) (qv 5)) (J2 (T3 u_FIELDS t_FIELDS rfl (qv 5) (by intro _ _; rfl)) Jd))))) (Jz (Jg [4] (Hw ra_BadForm rfl tk (hr.mono (by decide)) rfl (qv 5)))) U0)))))
    (Jz (Jg [5] (JB3 cl_Form na_Form__shapes (JH6 [(("word" : Str),5)] rfl sc.nd (show BlkOk ["self","row","fix","gone","shapes","word"] (defScope sZ02) _ [(("word" : Str),5)] from blkOk_by (by decide +kernel)) (Wg (Nw u_WORDS t_WORDS rfl rfl)) (fun _ _ _ _ _=>(Ul (i:=5) sc.nd rfl (by first | exact Or.inl rfl | exact Or.inr rfl) (show 5 ∉ ([0,1,2,3] : List Nat) from by decide))) (fun _ _ _ _ _=>Xs) (fun _ _ _ _ _=>(qv 5)) (fun _ _ _ _ _=>(Wk call_tuple_of Av rfl g_tuple PyProof.Rows.boot_tuple (J2 (Yf hu (qv 4) (qv 5)) Jd))) (show ∀ v ∈ ([5] : List Nat),v ∉ ([0,1,2,3] : List Nat) from by decide) (show ∀ i ∈ ([5] : List Nat),i ∈ ([5] : List Nat) from by decide)) (qr 0))))))
abbrev sZ0g : Stmt:=top 28
theorem scZ0g : FnScope ["form","entry","values","word","value","parts","kind"] ["form","entry"] (defScope sZ0g):=⟨rfl,rfl,rfl,by decide +kernel,rfl,by decide +kernel,by decide +kernel⟩
theorem wkZ0g {f : Addr} {fd : FuncData} {sp : ASp} {J9 Y3 : Addr} {spZ0e : ASp} (cZ0e : Cal Pr w K mg base ("check_form" : Str) 3 ["form"] spZ0e) {spZ0o : ASp} (cZ0o : Cal Pr w K mg base ("is_entry" : Str) 3 ["value"] spZ0o) {spZ0i : ASp} (m_Form_shape : CalM Pr w K mg base J9 ("shape" : Str) 3 ["self","word"] spZ0i) (cl_Form : Cls K J9) (ra_BadEntry : Rai Pr w K mg base ("BadEntry" : Str) Y3 ("at" : Str) 1) (dg : PySem.W.nsIn K cStatics "sys.int_max_str_digits" = some none) (g_zip : mg ("zip" : Str) = none) (g_str : mg ("str" : Str) = none) (u_FIELDS : mg ("FIELDS" : Str) = some (.ref (He.ga K ("FIELDS" : Str)))) (t_FIELDS : GTab K w (He.ga K ("FIELDS" : Str)) T_FIELDS) (F : FnP K ("write_line" : Str) ("write_line" : Str) sZ0g [] f fd) (hlen : ∀ xs,sp.pre xs → xs.length = 2)
    (rd : ∀ xs,sp.pre xs → asZ0g J9 Y3 spZ0e spZ0o spZ0i (U3 [0,1] sp xs) (Yn 7 xs)) : Fok Pr w K mg base 4 f fd ["form","entry"] sp:=by
  refine U8 (N:=["form","entry","values","word","value","parts","kind"]) (k:=3) [0,1] F scZ0g hlen (by decide) (fun cdv Ar outer s H E hr=>⟨asZ0g J9 Y3 spZ0e spZ0o spZ0i,?_,rd⟩)
  have hx:=fun σ=>passAt (X:=cxOf (L2.CX Pr w) Pr w K mg base ["form","entry","values","word","value","parts","kind"] ("write_line" : Str) (defScope sZ0g) f cdv Ar outer s H E) (W:=fun cls d _ H=>E cls d H) (takes_of rfl rfl rfl rfl) σ
  have hp : PassesOwn _ _ _ (cxOf (L2.CX Pr w) Pr w K mg base ["form","entry","values","word","value","parts","kind"] ("write_line" : Str) (defScope sZ0g) f cdv Ar outer s H E).xe:=passes_of rfl
  have tk:=takes_of (X:=cxOf (L2.CX Pr w) Pr w K mg base ["form","entry","values","word","value","parts","kind"] ("write_line" : Str) (defScope sZ0g) f cdv Ar outer s H E) rfl rfl rfl rfl
  have hu:=hr.units
  have sc:=scZ0g
  exact (Jx (Xi (Y8 cZ0e (hr.mono (by decide)) rfl hx (J2 (qv 0) Jd)))
    (Jx (Jg [] (Yv (Ur (Uw (Y8 cZ0o (hr.mono (by decide)) rfl hx (J2 (qv 1) Jd)))) (Jz (Jg [] (Hw ra_BadEntry rfl tk (hr.mono (by decide)) rfl Ji))) U0))
    (Jx (Jg [3] (JHc [(("word" : Str),3),(("value" : Str),4)] rfl sc.nd (i:=2) rfl rfl (show 2 ∉ ([0,1] : List Nat) from by decide) (JMu rfl rfl rfl rfl) (show BlkOk ["form","entry","values","word","value","parts","kind"] (defScope sZ0g) _ [(("word" : Str),3),(("value" : Str),4)] from blkOk_by (by decide +kernel)) (JBe rfl g_zip (J2 (Ux (T3 u_FIELDS t_FIELDS rfl (Yf hu (qv 1) Ji) (by intro _ _; rfl))) (J2 (Ux (Bn (qv 1) (Bm Ji) Bg)) Jd))) (fun _ _ _ _ _=>(Gk rfl (Wr (Ul (i:=3) sc.nd rfl (by first | exact Or.inl rfl | exact Or.inr rfl) (show 3 ∉ ([0,1] : List Nat) from by decide)) (Wr (Ul (i:=4) sc.nd rfl (by first | exact Or.inl rfl | exact Or.inr rfl) (show 4 ∉ ([0,1] : List Nat) from by decide)) Gz)))) (fun _ _ _ _ _=>Xs) (fun _ _ _ _ _=>(qv 3)) (fun _ _ _ _ _=>(qv 4)) (show ∀ v ∈ ([3,4] : List Nat),v ∉ ([0,1] : List Nat) from by decide) (show ∀ i ∈ ([3,4] : List Nat),i ∈ ([3,4] : List Nat) from by decide)))
    (Jx (Jg [] (Ys (i:=5) sc.nd rfl (by first | exact Or.inl rfl | exact Or.inr rfl) (W7 Jd) (show 5 ∉ ([0,1] : List Nat) from by decide)))
    (Jx (Jg [] (Zl hp rfl (Wg (JL5 (qv 0) cl_Form m_Form_shape (hr.mono (by decide)) hx (J2 (Yf hu (qv 1) Ji) Jd))) (Gk rfl (Wr (Ul (i:=6) sc.nd rfl (by first | exact Or.inl rfl | exact Or.inr rfl) (show 6 ∉ ([0,1] : List Nat) from by decide)) (Wr (Ul (i:=3) sc.nd rfl (by first | exact Or.inl rfl | exact Or.inr rfl) (show 3 ∉ ([0,1] : List Nat) from by decide)) Gz))) (Fs [3,6] (Jz (Jg [] (Xi (Kr (qr 5) (JNm (U2 (or_eq hu) s_eq (qv 6) Y9 (nomark _)) (qv 3) (Wk (S9 dg) JZ4 rfl g_str PyProof.Rows.boot_str (J2 (Yf hu (qv 2) (qv 3)) Jd))))))))))
    (Jz (Jg [2] (Yi (JFp Y9 (qr 5))))))))))
abbrev sZ0a : Stmt:=top 45
theorem scZ0a : FnScope ["_law_form","_law_entry","_law_told","_law_refused","_law_below","e"] ["_law_form","_law_entry"] (defScope sZ0a):=⟨rfl,rfl,rfl,by decide +kernel,rfl,by decide +kernel,by decide +kernel⟩
theorem wkZ0a {f : Addr} {fd : FuncData} {sp : ASp} {Y3 Jm U7 : Addr} {spZ0g : ASp} (cZ0g : Cal Pr w K mg base ("write_line" : Str) 4 ["form","entry"] spZ0g) (xf_BadEntry : XfC K Y3) (nx_BadEntry : PySem.W.findIn K (.ref Y3) ("at" : Str) = some none) (xf_BadForm : XfC K Jm) (nx_BadForm : PySem.W.findIn K (.ref Jm) ("value" : Str) = some none) (ec_BadEntry : ExcC K Y3) (ec_BadForm : ExcC K Jm) (gc_BadEntry : mg ("BadEntry" : Str) = some (.ref Y3)) (gc_BadForm : mg ("BadForm" : Str) = some (.ref Jm)) (gc_HallError : mg ("HallError" : Str) = some (.ref U7)) (g_isinstance : mg ("isinstance" : Str) = none) (F : FnP K ("_law_asked" : Str) ("_law_asked" : Str) sZ0a [] f fd) (hlen : ∀ xs,sp.pre xs → xs.length = 2)
    (rd : ∀ xs,sp.pre xs → asZ0a K Y3 Jm U7 spZ0g (U3 [0,1] sp xs) (Yn 6 xs)) : Fok Pr w K mg base 5 f fd ["_law_form","_law_entry"] sp:=by
  refine U8 (N:=["_law_form","_law_entry","_law_told","_law_refused","_law_below","e"]) (k:=4) [0,1] F scZ0a hlen (by decide) (fun cdv Ar outer s H E hr=>⟨asZ0a K Y3 Jm U7 spZ0g,?_,rd⟩)
  have hx:=fun σ=>passAt (X:=cxOf (L2.CX Pr w) Pr w K mg base ["_law_form","_law_entry","_law_told","_law_refused","_law_below","e"] ("_law_asked" : Str) (defScope sZ0a) f cdv Ar outer s H E) (W:=fun cls d _ H=>E cls d H) (takes_of rfl rfl rfl rfl) σ
  have hp : PassesOwn _ _ _ (cxOf (L2.CX Pr w) Pr w K mg base ["_law_form","_law_entry","_law_told","_law_refused","_law_below","e"] ("_law_asked" : Str) (defScope sZ0a) f cdv Ar outer s H E).xe:=passes_of rfl
  have tk:=takes_of (X:=cxOf (L2.CX Pr w) Pr w K mg base ["_law_form","_law_entry","_law_told","_law_refused","_law_below","e"] ("_law_asked" : Str) (defScope sZ0a) f cdv Ar outer s H E) rfl rfl rfl rfl
  have hu:=hr.units
  have sc:=scZ0a
  exact (Jx (Ys (i:=2) sc.nd rfl (by first | exact Or.inl rfl | exact Or.inr rfl) Gq (show 2 ∉ ([0,1] : List Nat) from by decide))
    (Jx (Jg [] (Ys (i:=3) sc.nd rfl (by first | exact Or.inl rfl | exact Or.inr rfl) Gq (show 3 ∉ ([0,1] : List Nat) from by decide)))
    (Jx (Jg [] (Ys (i:=4) sc.nd rfl (by first | exact Or.inl rfl | exact Or.inr rfl) Vg (show 4 ∉ ([0,1] : List Nat) from by decide)))
    (Jx (Jg [] (JLd rfl rfl sc.nd tk (fun W pn xe tk2 hp2=>have hx2:=fun σ=>passAt tk2 σ; (Jz (Jg [] (Ys (i:=2) sc.nd rfl (by first | exact Or.inl rfl | exact Or.inr rfl) (Ux (Y8 cZ0g (hr.mono (by decide)) rfl hx2 (J2 (qv 0) (J2 (qv 1) Jd)))) (show 2 ∉ ([0,1] : List Nat) from by decide))))) (QHds.as (i:=5) rfl rfl (show 5 ∉ ([0,1] : List Nat) from by decide) rfl gc_BadEntry (by decide) (fun a oe dd pn ws fs hz hfs=>(Jx (Jg [3,4] (Ys (i:=3) sc.nd rfl (by first | exact Or.inl rfl | exact Or.inr rfl) (Z0 (J2 Y9 (J2 (JZx xf_BadEntry nx_BadEntry hz hfs) Jd))) (show 3 ∉ ([5,0,1] : List Nat) from by decide)))
    (Jz (Jg [] (Ys (i:=4) sc.nd rfl (by first | exact Or.inl rfl | exact Or.inr rfl) (Ae ec_BadEntry hz hfs rfl g_isinstance (Nm rfl gc_HallError)) (show 4 ∉ ([5,0,1] : List Nat) from by decide)))))) (QHds.as (i:=5) rfl rfl (show 5 ∉ ([0,1] : List Nat) from by decide) rfl gc_BadForm (by decide) (fun a oe dd pn ws fs hz hfs=>(Jx (Jg [3,4] (Ys (i:=3) sc.nd rfl (by first | exact Or.inl rfl | exact Or.inr rfl) (Z0 (J2 Y9 (J2 (JZx xf_BadForm nx_BadForm hz hfs) Jd))) (show 3 ∉ ([5,0,1] : List Nat) from by decide)))
    (Jz (Jg [] (Ys (i:=4) sc.nd rfl (by first | exact Or.inl rfl | exact Or.inr rfl) (Ae ec_BadForm hz hfs rfl g_isinstance (Nm rfl gc_HallError)) (show 4 ∉ ([5,0,1] : List Nat) from by decide)))))) QHds.nil))))
    (Jz (Jg [5] (Yi (Z0 (J2 (qv 2) (J2 (qv 3) (J2 (qv 4) Jd)))))))))))
abbrev sZ0t : Stmt:=top 46
theorem scZ0t : FnScope ["_law_script","_law_shapes","_law_word_here","_law_stream_here","_law_form","_law_at","_law_spoil","_law_entry","_law_told","_law_refused","_law_below"] ["_law_script"] (defScope sZ0t):=⟨rfl,rfl,rfl,by decide +kernel,rfl,by decide +kernel,by decide +kernel⟩
theorem wkZ0t {f : Addr} {fd : FuncData} {sp : ASp} {J9 : Addr} {spZ08 : ASp} (cZ08 : Cal Pr w K mg base ("_law_stream" : Str) 1 ["_law_script","_law_k"] spZ08) {spZ0h : ASp} (cZ0h : Cal Pr w K mg base ("_law_shape" : Str) 3 ["_law_stream_here","_law_word_here","_law_signs_here","_law_often","_law_most"] spZ0h) {spZ0f : ASp} (cZ0f : Cal Pr w K mg base ("_law_signs" : Str) 1 [] spZ0f) {spZ0j : ASp} (cZ0j : Cal Pr w K mg base ("_law_draw" : Str) 1 ["_law_stream_here","_law_many"] spZ0j) {spZ0d : ASp} (cZ0d : Cal Pr w K mg base ("_law_drawn" : Str) 3 ["_law_stream_here"] spZ0d) {spZ03 : ASp} (cZ03 : Cal Pr w K mg base ("_law_spoiled" : Str) 2 ["_law_stream_here","_law_entry"] spZ03) {spZ0a : ASp} (cZ0a : Cal Pr w K mg base ("_law_asked" : Str) 5 ["_law_form","_law_entry"] spZ0a) {spZ01 : ASp} (cZ01 : Cal Pr w K mg base ("_law_is_entry" : Str) 2 ["_law_thing"] spZ01) {spZ0n : ASp} (cZ0n : Cal Pr w K mg base ("_law_due" : Str) 2 ["_law_pieces","_law_entry"] spZ0n) {spZ02 : ASp} (mk_Form : CalK Pr w K mg base ("Form" : Str) J9 4 ["self","row","fix","gone"] spZ02) (g_range : mg ("range" : Str) = none) (g_max : mg ("max" : Str) = none) (g_min : mg ("min" : Str) = none) (g_len : mg ("len" : Str) = none) (g_isinstance : mg ("isinstance" : Str) = none) (g_str : mg ("str" : Str) = none) (F : FnP K ("law" : Str) ("law" : Str) sZ0t [] f fd) (hlen : ∀ xs,sp.pre xs → xs.length = 1)
    (rd : ∀ xs,sp.pre xs → asZ0t K J9 spZ08 spZ0h spZ0f spZ0j spZ0d spZ03 spZ0a spZ01 spZ0n spZ02 (U3 [0] sp xs) (Yn 11 xs)) : Fok Pr w K mg base 6 f fd ["_law_script"] sp:=by
  refine U8 (N:=["_law_script","_law_shapes","_law_word_here","_law_stream_here","_law_form","_law_at","_law_spoil","_law_entry","_law_told","_law_refused","_law_below"]) (k:=5) [0] F scZ0t hlen (by decide) (fun cdv Ar outer s H E hr=>⟨asZ0t K J9 spZ08 spZ0h spZ0f spZ0j spZ0d spZ03 spZ0a spZ01 spZ0n spZ02,?_,rd⟩)
  have hx:=fun σ=>passAt (X:=cxOf (L2.CX Pr w) Pr w K mg base ["_law_script","_law_shapes","_law_word_here","_law_stream_here","_law_form","_law_at","_law_spoil","_law_entry","_law_told","_law_refused","_law_below"] ("law" : Str) (defScope sZ0t) f cdv Ar outer s H E) (W:=fun cls d _ H=>E cls d H) (takes_of rfl rfl rfl rfl) σ
  have hp : PassesOwn _ _ _ (cxOf (L2.CX Pr w) Pr w K mg base ["_law_script","_law_shapes","_law_word_here","_law_stream_here","_law_form","_law_at","_law_spoil","_law_entry","_law_told","_law_refused","_law_below"] ("law" : Str) (defScope sZ0t) f cdv Ar outer s H E).xe:=passes_of rfl
  have tk:=takes_of (X:=cxOf (L2.CX Pr w) Pr w K mg base ["_law_script","_law_shapes","_law_word_here","_law_stream_here","_law_form","_law_at","_law_spoil","_law_entry","_law_told","_law_refused","_law_below"] ("law" : Str) (defScope sZ0t) f cdv Ar outer s H E) rfl rfl rfl rfl
  have hu:=hr.units
  have sc:=scZ0t
  exact (Jx (Ys (i:=1) sc.nd rfl (by first | exact Or.inl rfl | exact Or.inr rfl) JZq (show 1 ∉ ([0] : List Nat) from by decide))
    (Jx (Jg [] (Zl hp rfl (Wg (W7 (J2 Y9 (J2 Y9 (J2 Y9 Jd))))) (Ul (i:=2) sc.nd rfl (by first | exact Or.inl rfl | exact Or.inr rfl) (show 2 ∉ ([0] : List Nat) from by decide)) (Fs [2,3] (Jx (Jg [] (Ys (i:=3) sc.nd rfl (by first | exact Or.inl rfl | exact Or.inr rfl) (Y8 cZ08 (hr.mono (by decide)) rfl hx (J2 (qv 0) (J2 (Ux (JWz (W7 (J2 Y9 (J2 Y9 (J2 Y9 Jd)))) (qv 2))) Jd))) (show 3 ∉ ([0] : List Nat) from by decide)))
    (Jz (Jg [] (L6 hu (Y8 cZ0h (hr.mono (by decide)) rfl hx (J2 (qr 3) (J2 (qv 2) (J2 (Ux (JN4 cZ0f (hr.mono (by decide)) rfl hx)) (J2 (Y8 cZ0j (hr.mono (by decide)) rfl hx (J2 (qr 3) (J2 Ji Jd))) (J2 Ji Jd)))))) (qr 1) (qv 2))))))))
    (Jx (Jg [] (Ys (i:=4) sc.nd rfl (by first | exact Or.inl rfl | exact Or.inr rfl) (JKs mk_Form (hr.mono (by decide)) rfl hx (J2 (Yf hu (qr 1) Y9) (J2 (Yf hu (qr 1) Y9) (J2 (Yf hu (qr 1) Y9) Jd)))) (show 4 ∉ ([0] : List Nat) from by decide)))
    (Jx (Jg [] (Zl hp rfl (JPu rfl g_range (J2 Ji (J2 (U6 (call_max2 rfl) JG9 rfl g_max PyProof.Rows.boot_max (J2 Ji (J2 (U6 (call_min2 rfl) JFq rfl g_min PyProof.Rows.boot_min (J2 (U6 V7 V6 rfl g_len boot_len (J2 (qv 0) Jd)) (J2 Ji Jd))) Jd))) Jd))) (Ul (i:=5) sc.nd rfl (by first | exact Or.inl rfl | exact Or.inr rfl) (show 5 ∉ ([0] : List Nat) from by decide)) (Jx (Jg [] (Ys (i:=3) sc.nd rfl (by first | exact Or.inl rfl | exact Or.inr rfl) (Y8 cZ08 (hr.mono (by decide)) rfl hx (J2 (qv 0) (J2 (qv 5) Jd))) (show 3 ∉ ([0] : List Nat) from by decide)))
    (Jx (Jg [5] (Ys (i:=6) sc.nd rfl (by first | exact Or.inl rfl | exact Or.inr rfl) (Y8 cZ0j (hr.mono (by decide)) rfl hx (J2 (qr 3) (J2 Ji Jd))) (show 6 ∉ ([0] : List Nat) from by decide)))
    (Jx (Jg [] (Ys (i:=7) sc.nd rfl (by first | exact Or.inl rfl | exact Or.inr rfl) (Ux (Y8 cZ0d (hr.mono (by decide)) rfl hx (J2 (qr 3) Jd))) (show 7 ∉ ([0] : List Nat) from by decide)))
    (Jx (Jg [] (Yv (U2 (or_eq hu) s_eq (qv 6) Ji (nomark _)) (Jz (Jg [6] (Ys (i:=7) sc.nd rfl (by first | exact Or.inl rfl | exact Or.inr rfl) (Ux (Y8 cZ03 (hr.mono (by decide)) rfl hx (J2 (qr 3) (J2 (qv 7) Jd)))) (show 7 ∉ ([0] : List Nat) from by decide)))) U0))
    (Jx (Jg [3,6] (Eu (Y8 cZ0a (hr.mono (by decide)) rfl hx (J2 (Ux (qr 4)) (J2 (qv 7) Jd))) (Gk rfl (Wr (Ul (i:=8) sc.nd rfl (by first | exact Or.inl rfl | exact Or.inr rfl) (show 8 ∉ ([0] : List Nat) from by decide)) (Wr (Ul (i:=9) sc.nd rfl (by first | exact Or.inl rfl | exact Or.inr rfl) (show 9 ∉ ([0] : List Nat) from by decide)) (Wr (Ul (i:=10) sc.nd rfl (by first | exact Or.inl rfl | exact Or.inr rfl) (show 10 ∉ ([0] : List Nat) from by decide)) Gz))))))
    (Jx (Jg [] (Yv (Uw (Y8 cZ01 (hr.mono (by decide)) rfl hx (J2 (qv 7) Jd))) (Jz (Jg [] (Yv (W2 (V2 (U2 op_notN JH1 (qv 9) Gq (nomark _)) (V2 (Ur (Uw (Vn rfl g_isinstance (qv 8) (Ve rfl g_str Zv)))) (Wf (U2 (F8 hu) Bv (qv 8) (Y8 cZ0n (hr.mono (by decide)) rfl hx (J2 (Yf hu (qr 1) (Yf hu (qv 7) Ji)) (J2 (qv 7) Jd))) (nomark _)))))) (Jz (Jg [1,4,7,8,9,10] (Yi Vg))) U0))) (Jz (Jg [] (Yv (W2 (V2 (U2 (JXz JKy hr) (JLg Bv) (qv 9) (Z0 (J2 Y9 (J2 Ji Jd))) (nomark _)) (Wf (Ur (Uw (qv 10)))))) (Jz (Jg [1,4,7,8,9,10] (Yi Vg))) U0)))))
    (Jx (Jg [] (Eu (Y8 cZ0a (hr.mono (by decide)) rfl hx (J2 (Ux (qr 1)) (J2 (qv 7) Jd))) (Gk rfl (Wr (Ul (i:=8) sc.nd rfl (by first | exact Or.inl rfl | exact Or.inr rfl) (show 8 ∉ ([0] : List Nat) from by decide)) (Wr (Ul (i:=9) sc.nd rfl (by first | exact Or.inl rfl | exact Or.inr rfl) (show 9 ∉ ([0] : List Nat) from by decide)) (Wr (Ul (i:=10) sc.nd rfl (by first | exact Or.inl rfl | exact Or.inr rfl) (show 10 ∉ ([0] : List Nat) from by decide)) Gz))))))
    (Jz (Jg [7] (Yv (W2 (V2 (U2 op_isN JNw (qv 9) Gq (nomark _)) (V2 (U2 (F8 hu) Bv (Yf hu (qv 9) Ji) Y9 (nomark _)) (V2 (U2 (Vs.OpR.or (F8 hu) (JM1 hu)) (JOm Bv JXj) (Yf hu (qv 9) Ji) (qr 1) (nomark _)) (Wf (Ur (Uw (qv 10)))))))) (Jz (Jg [1,4,8,9,10] (Yi Vg))) U0))))))))))))
    (Jz (Jg [1,4,8,9,10] (Yi Vg)))))))
end
end Law
set_option maxHeartbeats 1000000
namespace Law
open PySem PySem.Spec PyProof.Rows L2 Vs
/-- the letters -/
def lets : Str:="abcdefghijklmnopqrstuvwxyz"
def V8 (x : Str) : Bool:=decide (1 ≤ x.length) && decide (x.length ≤ 8) && x.cps.toList.all fun c=>decide (c ∈ lets.cps.toList)
structure Sta where
  s : Str
  k : Str
  m : Int
  a : Int
inductive Ent where
  | row (i : Int) (s k : Str) (m a t : Int)
  | fix (i m a t : Int)
  | gone (i t : Int)
def Sta.d (x : Sta) : D:=.tup [.str x.s,.str x.k,.int x.m,.int x.a]
def Ent.d : Ent → D
  | .row i s k m a t=>.tup [.str ("row" : Str),.int i,.str s,.str k,.int m,.int a,.int t]
  | .fix i m a t=>.tup [.str ("fix" : Str),.int i,.int m,.int a,.int t]
  | .gone i t=>.tup [.str ("gone" : Str),.int i,.int t]
def Ent.i : Ent → Int
  | .row i _ _ _ _ _=>i
  | .fix i _ _ _=>i
  | .gone i _=>i
def Ent.t : Ent → Int
  | .row _ _ _ _ _ t=>t
  | .fix _ _ _ t=>t
  | .gone _ t=>t
theorem Ent.inj {e e' : Ent} (h : e.d = e'.d) : e = e':=by
  cases e <;> cases e' <;> simp [Ent.d] at h ⊢ <;> simp_all
abbrev Sts:=List (Int × Option Sta)
def U4 : Sts → Int → Option (Option Sta)
  | [],_=>none
  | (j,o) :: r,i=>if j = i then some o else U4 r i
def Bz (st : Sts) (i : Int) (o : Option Sta) : Sts:=if (st.any fun p=>decide (p.1 = i)) = true then st.map (fun p=>if p.1 = i then (p.1,o) else p) else st ++ [(i,o)]
theorem Pk : ∀ (st : Sts) (i : Int),(st.any fun p=>decide (p.1 = i)) = (U4 st i).isSome
  | [],_=>rfl
  | (j,o) :: r,i=>by
    simp only [List.any_cons,U4,Pk r i]
    split <;> simp_all
def inT (m t l : Int) : Bool:=decide (m ≤ t) && decide (t ≤ m + l)
def Ent.ok : Ent → Bool
  | .row i s k _ _ _=>decide (0 ≤ i) && (V8 s && V8 k)
  | .fix i _ _ _=>decide (0 ≤ i)
  | .gone i _=>decide (0 ≤ i)
def Of (last : Option Int) (t : Int) : Bool:=match last with
  | none=>true
  | some x=>!decide (t < x)
def Hu (g : Str → Option Int) (st : Sts) (i t : Int) (k : Int → Bool) : Bool:=match U4 st i with
  | some (some o)=>(match g o.s with
    | some l=>!decide (o.m + l < t) && k l
    | none=>false)
  | _=>false
def good (g : Str → Option Int) (st : Sts) (last : Option Int) (e : Ent) : Bool:=e.ok && (Of last e.t && match e with
  | .row i s _ m _ t=>(U4 st i).isNone && (match g s with
    | some l=>inT m t l
    | none=>false)
  | .fix i m _ t=>Hu g st i t fun l=>inT m t l
  | .gone i t=>Hu g st i t fun _=>true)
def behind (st : Sts) : Ent → Option Sta
  | .row _ s k m a _=>some ⟨s,k,m,a⟩
  | .fix i m a _=>(match U4 st i with
    | some (some o)=>some ⟨o.s,o.k,m,a⟩
    | _=>none)
  | .gone _ _=>none
def after (st : Sts) (e : Ent) : Sts:=Bz st e.i (behind st e)
def JOy (st : Sts) (es : List Ent) : Sts:=es.foldl after st
def Pq (g : Str → Option Int) : Sts → Option Int → List Ent → Bool
  | _,_,[]=>true
  | st,last,e :: es=>good g st last e && Pq g (after st e) (some e.t) es
def JOd (last : Option Int) (es : List Ent) : Option Int:=es.foldl (fun _ e=>some e.t) last
theorem P3 (st : Sts) (i j : Int) (o : Option Sta) : U4 (Bz st i o) j = if i = j then some o else U4 st j:=by
  have h1 : ∀ st : Sts,U4 (st.map fun p=>if p.1 = i then (p.1,o) else p) j = if i = j then (U4 st j).map fun _=>o else U4 st j:=by
    intro st
    induction st with
    | nil=>simp [U4]
    | cons p r ih =>
      obtain ⟨a,b⟩:=p
      simp only [List.map_cons]
      by_cases e : a = i
      · subst e
        simp only [if_true,U4]
        split
        · simp
        · rw [ih]
          rename_i ne
          simp [ne]
      · simp only [if_neg e,U4]
        split
        · rename_i e2
          subst e2
          simp [Ne.symm e]
        · exact ih
  have h2 : ∀ st : Sts,U4 (st ++ [(i,o)]) j = (match U4 st j with
      | some x=>some x
      | none=>if i = j then some o else none):=by
    intro st
    induction st with
    | nil=>simp [U4]
    | cons p r ih =>
      obtain ⟨a,b⟩:=p
      simp only [List.cons_append,U4]
      split
      · rfl
      · exact ih
  unfold Bz
  rw [Pk]
  by_cases h : (U4 st i).isSome = true
  · rw [if_pos h,h1]
    by_cases e : i = j
    · subst e
      obtain ⟨x,hx⟩:=Option.isSome_iff_exists.mp h
      simp [hx]
    · simp [e]
  · rw [if_neg h,h2]
    have hn : U4 st i = none:=by simpa using h
    by_cases e : i = j
    · subst e
      simp [hn]
    · simp only [e,if_false]
      cases U4 st j <;> rfl
theorem JNt (st : Sts) (i : Int) (o : Option Sta) : (Bz st i o).map (·.1) = if (U4 st i).isSome = true then st.map (·.1) else st.map (·.1) ++ [i]:=by
  unfold Bz
  rw [Pk]
  split
  · rw [List.map_map]
    refine List.map_congr_left fun p _=>?_
    simp only [Function.comp]
    split <;> rfl
  · simp
theorem Pl : ∀ (st : Sts) (i : Int),U4 st i = none ↔ i ∉ st.map (·.1)
  | [],i=>by simp [U4]
  | (j,o) :: r,i=>by
    simp only [U4,List.map_cons,List.mem_cons,not_or]
    split
    · rename_i e
      simp [e]
    · rename_i e
      rw [Pl r i]
      exact ⟨fun h=>⟨fun z=>e z.symm,h⟩,fun h=>h.2⟩
theorem JOg {st : Sts} {i : Int} {o : Option Sta} (nd : (st.map (·.1)).Nodup) : ((Bz st i o).map (·.1)).Nodup:=by
  rw [JNt]
  split
  · exact nd
  · rename_i h
    have hn : U4 st i = none:=by simpa using h
    have:=(Pl st i).mp hn
    rw [List.nodup_append]
    refine ⟨nd,by simp,fun a ha b hb=>?_⟩
    have : b = i:=by simpa using hb
    subst this
    exact fun e=>(Pl st b).mp hn (e ▸ ha)
theorem JWl : ∀ {st : Sts} {i : Int} {o : Option Sta},(st.map (·.1)).Nodup → (i,o) ∈ st → U4 st i = some o
  | (j,x) :: r,i,o,nd,h=>by
    simp only [List.map_cons,List.nodup_cons] at nd
    simp only [U4]
    rcases List.mem_cons.mp h with h | h
    · cases h
      simp
    · have ne : j ≠ i:=fun e=>nd.1 (by rw [e]; exact List.mem_map.mpr ⟨_,h,rfl⟩)
      rw [if_neg ne]
      exact JWl nd.2 h
theorem get_mem : ∀ {st : Sts} {i : Int} {o : Option Sta},U4 st i = some o → (i,o) ∈ st
  | (j,x) :: r,i,o,h=>by
    simp only [U4] at h
    split at h
    · rename_i e
      cases h
      rw [e]
      exact List.mem_cons_self ..
    · exact List.mem_cons_of_mem _ (get_mem h)
/-- the states' streams are in the book -/
def StOk (g : Str → Option Int) (st : Sts) : Prop:=∀ i o,U4 st i = some (some o) → (g o.s).isSome = true
theorem JY2 {g : Str → Option Int} {st : Sts} {i t : Int} {k : Int → Bool} (h : Hu g st i t k = true) : ∃ o l,U4 st i = some (some o) ∧ g o.s = some l ∧ t ≤ o.m + l ∧ k l = true:=by
  unfold Hu at h
  split at h
  · rename_i o ho
    split at h
    · rename_i l hl
      simp only [Bool.and_eq_true,Bool.not_eq_true',decide_eq_false_iff_not,Int.not_lt] at h
      exact ⟨o,l,ho,hl,h.1,h.2⟩
    · cases h
  · cases h
theorem StOk.after {g : Str → Option Int} {st : Sts} {last : Option Int} {e : Ent} (s : StOk g st) (h : good g st last e = true) : StOk g (after st e):=by
  intro j o ho
  unfold Law.after at ho
  rw [P3] at ho
  split at ho
  · simp only [Option.some.injEq] at ho
    unfold good at h
    simp only [Bool.and_eq_true] at h
    obtain ⟨_,_,h⟩:=h
    cases e with
    | row i s k m a t =>
      simp only [behind,Option.some.injEq] at ho
      subst ho
      simp only [Bool.and_eq_true] at h
      cases hg : g s with
      | none=>rw [hg] at h; exact absurd h.2 (by simp)
      | some l=>rfl
    | fix i m a t =>
      obtain ⟨o',l,h1,h2,_⟩:=JY2 h
      simp only [behind,h1,Option.some.injEq] at ho
      subst ho
      rw [h2]
      rfl
    | gone i t=>simp [behind] at ho
  · exact s _ _ ho
abbrev Row:=Int × Int × Int
def rowOf (s k : Str) (p : Int × Option Sta) : Option Row:=match p.2 with
  | some o=>if o.s = s ∧ o.k = k then some (o.m,p.1,o.a) else none
  | none=>none
def Pi (st : Sts) (s k : Str) : List Row:=st.filterMap (rowOf s k)
end Law
namespace Law
open PySem PySem.Spec PyProof.Rows L2 Vs
variable {g : Str → Option Int} {st : Sts} {last : Option Int} {e : Ent} {es : List Ent}
/-- the states behind good entries -/
structure StG (g : Str → Option Int) (st : Sts) (last : Option Int) : Prop where
  nd : (st.map (·.1)).Nodup
  ok : StOk g st
  id : ∀ i,U4 st i ≠ none → 0 ≤ i
  mo : ∀ i o,U4 st i = some (some o) → ∃ t,last = some t ∧ o.m ≤ t
theorem JMj (h : good g st last e = true) : e.ok = true:=by
  unfold good at h
  simp only [Bool.and_eq_true] at h
  exact h.1
theorem JNo (h : good g st last e = true) : Of last e.t = true:=by
  unfold good at h
  simp only [Bool.and_eq_true] at h
  exact h.2.1
theorem JGz (h : e.ok = true) : 0 ≤ e.i:=by
  cases e <;> simp [Ent.ok] at h <;> first | exact h.1 | exact h
theorem inT_iff {m t l : Int} : inT m t l = true ↔ m ≤ t ∧ t ≤ m + l:=by simp [inT]
theorem StG.after (h : StG g st last) (hg : good g st last e = true) : StG g (after st e) (some e.t) where
  nd:=JOg h.nd
  ok:=h.ok.after hg
  id:=fun i hi=>by
    unfold Law.after at hi
    rw [P3] at hi
    split at hi
    · rename_i e1
      rw [← e1]
      exact JGz (JMj hg)
    · exact h.id i hi
  mo:=fun i o ho=>by
    refine ⟨e.t,rfl,?_⟩
    have hl:=JNo hg
    unfold Law.after at ho
    rw [P3] at ho
    split at ho
    · simp only [Option.some.injEq] at ho
      unfold good at hg
      simp only [Bool.and_eq_true] at hg
      obtain ⟨_,_,hg⟩:=hg
      cases e with
      | row i s k m a t =>
        simp only [behind,Option.some.injEq] at ho
        subst ho
        simp only [Bool.and_eq_true] at hg
        cases hs : g s with
        | none=>rw [hs] at hg; exact absurd hg.2 (by simp)
        | some l =>
          rw [hs] at hg
          exact (inT_iff.mp hg.2).1
      | fix i m a t =>
        obtain ⟨o',l,h1,h2,_,h3⟩:=JY2 hg
        simp only [behind,h1,Option.some.injEq] at ho
        subst ho
        exact (inT_iff.mp h3).1
      | gone i t=>simp [behind] at ho
    · obtain ⟨t,rfl,ht⟩:=h.mo i o ho
      simp only [Of,Bool.not_eq_true',decide_eq_false_iff_not,Int.not_lt] at hl
      omega
theorem StG.run : ∀ {es : List Ent} {st : Sts} {last : Option Int},StG g st last → Pq g st last es = true → StG g (JOy st es) (JOd last es)
  | [],_,_,h,_=>h
  | e :: es,st,last,h,hg=>by
    simp only [Pq,Bool.and_eq_true] at hg
    exact StG.run (es:=es) (h.after hg.1) hg.2
theorem JJt (nd : (st.map (·.1)).Nodup) {s k : Str} {r : Row} : r ∈ Pi st s k ↔ ∃ o,U4 st r.2.1 = some (some o) ∧ o.s = s ∧ o.k = k ∧ r.1 = o.m ∧ r.2.2 = o.a:=by
  unfold Pi
  rw [List.mem_filterMap]
  constructor
  · rintro ⟨⟨i,o⟩,hp,hr⟩
    cases o with
    | none=>simp [rowOf] at hr
    | some o =>
      simp only [rowOf] at hr
      split at hr
      · rename_i h
        simp only [Option.some.injEq] at hr
        subst hr
        exact ⟨o,JWl nd hp,h.1,h.2,rfl,rfl⟩
      · cases hr
  · rintro ⟨o,h1,h2,h3,h4,h5⟩
    refine ⟨(r.2.1,some o),get_mem h1,?_⟩
    simp only [rowOf]
    rw [if_pos ⟨h2,h3⟩,← h4,← h5]
section
variable {s k : Str} {l h fresh : Int} {r : Row}
/-- what is still open at h can be changed at the next arrival -/
structure OpenAt (g : Str → Option Int) (st : Sts) (last : Option Int) (s k : Str) (r : Row) (l h : Int) : Prop where
  G : StG g st last
  hs : g s = some l
  r : r ∈ Pi st s k
  la : ∃ t,last = some t ∧ t ≤ h
theorem OpenAt.id (H : OpenAt g st last s k r l h) : 0 ≤ r.2.1:=by
  obtain ⟨o,h1,_⟩:=(JJt H.G.nd).mp H.r
  exact H.G.id _ (by rw [h1]; simp)
theorem OpenAt.mo (H : OpenAt g st last s k r l h) : r.1 ≤ h:=by
  obtain ⟨o,h1,h2,h3,h4,h5⟩:=(JJt H.G.nd).mp H.r
  obtain ⟨t,e,ht⟩:=H.la
  obtain ⟨t',e',ht'⟩:=H.G.mo _ o h1
  rw [e] at e'
  cases e'
  omega
end
end Law
namespace Law
open PySem PySem.Spec PyProof.Rows L2 Vs
def sle (a b : Str) : Bool:=PySem.W.dataLe false pd (.str a) (.str b)
theorem T5 : PySem.W.TotalLe sle:=by
  have h:=PySem.W.sortLe_total (PyProof.Rows.listOrd PyProof.Rows.itemOrd) false fun r : Str=>PySem.W.keyToks (pd (.str r))
  exact h
theorem JMv {a b : Str} (h1 : sle a b = true) (h2 : sle b a = true) : a = b:=by
  have e : PySem.W.keyToks (pd (.str a)) = PySem.W.keyToks (pd (.str b)):=by
    have h1' : (!(PyProof.Rows.listOrd PyProof.Rows.itemOrd).blt (PySem.W.keyToks (pd (.str b))) (PySem.W.keyToks (pd (.str a)))) = true:=h1
    have h2' : (!(PyProof.Rows.listOrd PyProof.Rows.itemOrd).blt (PySem.W.keyToks (pd (.str a))) (PySem.W.keyToks (pd (.str b)))) = true:=h2
    rw [Bool.not_eq_true'] at h1' h2'
    exact (PyProof.Rows.listOrd PyProof.Rows.itemOrd).total _ _ h2' h1'
  simp only [pd,PySem.W.keyToks,List.cons.injEq,Sum.inr.injEq,and_true] at e
  cases a; cases b
  simp only at e
  congr 1
  exact Array.toList_inj.mp e
theorem JU2 (ss : List Str) : X1 (ss.map D.str) = (ss.mergeSort sle).map D.str:=(List.map_mergeSort (r:=sle) (s:=PySem.W.dataLe false pd) (f:=D.str) fun _ _ _ _=>rfl).symm
theorem JH8 {xs ys : List Str} (h : xs.Perm ys) (h1 : xs.Pairwise (fun a b=>sle a b = true)) (h2 : ys.Pairwise (fun a b=>sle a b = true)) : xs = ys :=
  h.eq_of_pairwise (fun _ _ _ _=>JMv) h1 h2
theorem JZt (rs : List Str) : PySem.W.AllAlike ((rs.map D.str).map pd):=by
  intro a ha b hb
  simp only [List.map_map,List.mem_map,Function.comp] at ha hb
  obtain ⟨x,_,rfl⟩:=ha
  obtain ⟨y,_,rfl⟩:=hb
  simp [pd,PySem.W.alike]
end Law
set_option maxHeartbeats 4000000
namespace Law
open PySem PySem.Spec PyProof.Rows L2 Vs
variable [Tbs]
set_option hygiene false in
local macro_rules | `(tactic| walk_at "vs1")=>`(tactic| ((with_reducible apply Sl)<;>intro hif))
set_option hygiene false in
local macro_rules | `(tactic| walk_at "vs1")=>`(tactic| ((with_reducible refine Eh ?_ ?_);(first|assumption|rfl)))
set_option hygiene false in
local macro_rules | `(tactic| walk_at "vs1")=>`(tactic| ((with_reducible refine Qy ?_ ?_);(first|assumption|rfl)))
set_option hygiene false in
local macro_rules | `(tactic| walk_at "vs1")=>`(tactic| (with_reducible apply JJ7))
set_option hygiene false in
local macro_rules | `(tactic| walk_at "vs1")=>`(tactic| (with_reducible apply JUw))
set_option hygiene false in
local macro_rules | `(tactic| walk_at "vs1")=>`(tactic| ((with_reducible apply JYw);(unfold CMul; first|decide|omega)))
set_option hygiene false in
local macro_rules | `(tactic| walk_at "vs1")=>`(tactic| ((with_reducible apply JZ3);(unfold CPow; decide)))
set_option hygiene false in
local macro_rules | `(tactic| walk_at "vs1")=>`(tactic| ((with_reducible apply JUz);assumption))
set_option hygiene false in
local macro_rules | `(tactic| walk_at "vs1")=>`(tactic| ((with_reducible apply JVo);assumption))
set_option hygiene false in
local macro_rules | `(tactic| walk_at "vs1")=>`(tactic| ((with_reducible apply D2);assumption))
set_option hygiene false in
local macro_rules | `(tactic| walk_at "vs1")=>`(tactic| ((with_reducible apply JVv);assumption))
set_option hygiene false in
local macro_rules | `(tactic| walk_at "vs1")=>`(tactic| exact JJz)
set_option hygiene false in
local macro_rules | `(tactic| walk_at "vs1")=>`(tactic| exact Cb)
set_option hygiene false in
local macro_rules | `(tactic| walk_at "vs1")=>`(tactic| exact T6)
set_option hygiene false in
local macro_rules | `(tactic| walk_at "vs1")=>`(tactic| exact G2)
set_option hygiene false in
local macro_rules | `(tactic| walk_at "vs1")=>`(tactic| exact Q9)
set_option hygiene false in
local macro_rules | `(tactic| walk_at "vs1")=>`(tactic| ((with_reducible apply A3);rfl;rfl;rfl;intro w))
set_option hygiene false in
local macro_rules | `(tactic| walk_at "vs1")=>`(tactic| ((with_reducible apply Lk);rfl;(first|exact Jh|exact Jq rfl|exact Jj|exact Jr rfl|exact Jt|exact Ju rfl|exact Jp|exact Jv rfl|exact Jo rfl rfl|exact Js rfl rfl|exact Jn rfl rfl|exact Jk rfl rfl|exact Jl rfl rfl);rfl;rfl;rfl;intro w))
set_option hygiene false in
local macro_rules | `(tactic| walk_at "vs1")=>`(tactic| ((with_reducible apply JJs);rfl;(first|exact Jh|exact Jq rfl|exact Jj|exact Jr rfl|exact Jt|exact Ju rfl|exact Jp|exact Jv rfl|exact Jo rfl rfl|exact Js rfl rfl|exact Jn rfl rfl|exact Jk rfl rfl|exact Jl rfl rfl);(first|exact (rfl : _ = some (0:Nat))|exact (rfl : _ = some (1:Nat))|exact (rfl : _ = some (2:Nat))|exact (rfl : _ = some (3:Nat))|exact (rfl : _ = some (4:Nat))|exact (rfl : _ = some (5:Nat)));rfl;rfl;intro w))
set_option hygiene false in
local macro_rules | `(tactic| walk_at "vs1")=>`(tactic| ((with_reducible apply Ab);rfl;(first|exact Jh|exact Jq rfl|exact Jj|exact Jr rfl|exact Jt|exact Ju rfl|exact Jp|exact Jv rfl|exact Jo rfl rfl|exact Js rfl rfl|exact Jn rfl rfl|exact Jk rfl rfl|exact Jl rfl rfl);(first|exact (rfl : _ = some (0:Nat))|exact (rfl : _ = some (1:Nat))|exact (rfl : _ = some (2:Nat))|exact (rfl : _ = some (3:Nat))|exact (rfl : _ = some (4:Nat))|exact (rfl : _ = some (5:Nat)));rfl;rfl;intro w))
set_option hygiene false in
local macro_rules | `(tactic| walk_at "vs1")=>`(tactic| ((with_reducible apply JYa);exact Nat.le_of_ble_eq_true rfl))
set_option hygiene false in
local macro_rules | `(tactic| walk_at "vs1")=>`(tactic| ((with_reducible apply JZu);exact Nat.le_of_ble_eq_true rfl))
set_option hygiene false in
local macro_rules | `(tactic| walk_at "vs1")=>`(tactic| ((with_reducible apply JYf);rfl;rfl))
set_option hygiene false in
local macro_rules | `(tactic| walk_at "vs1")=>`(tactic| ((with_reducible apply An);rfl;rfl))
set_option hygiene false in
local macro_rules | `(tactic| walk_at "vs1")=>`(tactic| ((with_reducible apply Pz);(first|exact Jh|exact Jq rfl|exact Jj|exact Jr rfl|exact Jt|exact Ju rfl|exact Jp|exact Jv rfl|exact Jo rfl rfl|exact Js rfl rfl|exact Jn rfl rfl|exact Jk rfl rfl|exact Jl rfl rfl)))
set_option hygiene false in
local macro_rules | `(tactic| walk_at "vs1")=>`(tactic| ((with_reducible apply A5);rfl;(first|assumption|simp);(first|assumption|rfl)))
set_option hygiene false in
local macro_rules | `(tactic| walk_at "vs1")=>`(tactic| ((with_reducible apply Ct);rfl;(first|assumption|simp);(first|assumption|rfl)))
set_option hygiene false in
local macro_rules | `(tactic| walk_at "vs1")=>`(tactic| ((with_reducible apply En);(first|exact Jh|exact Jq rfl|exact Jj|exact Jr rfl|exact Jt|exact Ju rfl|exact Jp|exact Jv rfl|exact Jo rfl rfl|exact Js rfl rfl|exact Jn rfl rfl|exact Jk rfl rfl|exact Jl rfl rfl)))
set_option hygiene false in
local macro_rules | `(tactic| walk_at "vs1")=>`(tactic| ((with_reducible apply JZ1);(first|exact Jh|exact Jq rfl|exact Jj|exact Jr rfl|exact Jt|exact Ju rfl|exact Jp|exact Jv rfl|exact Jo rfl rfl|exact Js rfl rfl|exact Jn rfl rfl|exact Jk rfl rfl|exact Jl rfl rfl);(first|exact Jh|exact Jq rfl|exact Jj|exact Jr rfl|exact Jt|exact Ju rfl|exact Jp|exact Jv rfl|exact Jo rfl rfl|exact Js rfl rfl|exact Jn rfl rfl|exact Jk rfl rfl|exact Jl rfl rfl);rfl))
set_option hygiene false in
local macro_rules | `(tactic| walk_at "vs1")=>`(tactic| ((with_reducible apply Dk);(first|exact Jh|exact Jq rfl|exact Jj|exact Jr rfl|exact Jt|exact Ju rfl|exact Jp|exact Jv rfl|exact Jo rfl rfl|exact Js rfl rfl|exact Jn rfl rfl|exact Jk rfl rfl|exact Jl rfl rfl)))
set_option hygiene false in
local macro_rules | `(tactic| walk_at "vs1")=>`(tactic| ((with_reducible apply Tx);(first|exact Jh|exact Jq rfl|exact Jj|exact Jr rfl|exact Jt|exact Ju rfl|exact Jp|exact Jv rfl|exact Jo rfl rfl|exact Js rfl rfl|exact Jn rfl rfl|exact Jk rfl rfl|exact Jl rfl rfl)))
set_option hygiene false in
local macro_rules | `(tactic| walk_at "vs1")=>`(tactic| ((with_reducible apply Mw);(first|exact Jh|exact Jq rfl|exact Jj|exact Jr rfl|exact Jt|exact Ju rfl|exact Jp|exact Jv rfl|exact Jo rfl rfl|exact Js rfl rfl|exact Jn rfl rfl|exact Jk rfl rfl|exact Jl rfl rfl)))
set_option hygiene false in
local macro_rules | `(tactic| walk_at "vs1")=>`(tactic| ((with_reducible apply P2);(first|exact Jh|exact Jq rfl|exact Jj|exact Jr rfl|exact Jt|exact Ju rfl|exact Jp|exact Jv rfl|exact Jo rfl rfl|exact Js rfl rfl|exact Jn rfl rfl|exact Jk rfl rfl|exact Jl rfl rfl)))
set_option hygiene false in
local macro_rules | `(tactic| walk_at "vs1")=>`(tactic| ((with_reducible apply Sq);rfl))
set_option hygiene false in
local macro_rules | `(tactic| walk_at "vs1")=>`(tactic| ((with_reducible apply JVt);rfl))
set_option hygiene false in
local macro_rules | `(tactic| walk_at "vs1")=>`(tactic| ((with_reducible apply JY1);rfl))
set_option hygiene false in
local macro_rules | `(tactic| walk_at "vs1")=>`(tactic| ((with_reducible apply Ra);rfl;exact Nat.le_of_ble_eq_true rfl))
set_option hygiene false in
local macro_rules | `(tactic| walk_at "vs1")=>`(tactic| ((with_reducible apply O5);(first|exact Jh|exact Jq rfl|exact Jj|exact Jr rfl|exact Jt|exact Ju rfl|exact Jp|exact Jv rfl|exact Jo rfl rfl|exact Js rfl rfl|exact Jn rfl rfl|exact Jk rfl rfl|exact Jl rfl rfl);(first|exact Jh|exact Jq rfl|exact Jj|exact Jr rfl|exact Jt|exact Ju rfl|exact Jp|exact Jv rfl|exact Jo rfl rfl|exact Js rfl rfl|exact Jn rfl rfl|exact Jk rfl rfl|exact Jl rfl rfl);(first|assumption|rfl);(first|assumption|rfl);(first|assumption|rfl)))
set_option hygiene false in
local macro_rules | `(tactic| walk_at "vs1")=>`(tactic| ((with_reducible first|apply JJc|apply Ts);(first|exact Jh|exact Jq rfl|exact Jj|exact Jr rfl|exact Jt|exact Ju rfl|exact Jp|exact Jv rfl|exact Jo rfl rfl|exact Js rfl rfl|exact Jn rfl rfl|exact Jk rfl rfl|exact Jl rfl rfl);(first|exact Jh|exact Jq rfl|exact Jj|exact Jr rfl|exact Jt|exact Ju rfl|exact Jp|exact Jv rfl|exact Jo rfl rfl|exact Js rfl rfl|exact Jn rfl rfl|exact Jk rfl rfl|exact Jl rfl rfl);(first|exact Jh|exact Jq rfl|exact Jj|exact Jr rfl|exact Jt|exact Ju rfl|exact Jp|exact Jv rfl|exact Jo rfl rfl|exact Js rfl rfl|exact Jn rfl rfl|exact Jk rfl rfl|exact Jl rfl rfl)))
set_option hygiene false in
local macro_rules | `(tactic| walk_at "vs1")=>`(tactic| ((with_reducible first|apply Tv|apply Rl);rfl;(first|assumption|rfl)))
set_option hygiene false in
local macro_rules | `(tactic| walk_at "vs1")=>`(tactic| ((with_reducible first|apply JZs|apply JVe);(first|exact Jh|exact Jq rfl|exact Jj|exact Jr rfl|exact Jt|exact Ju rfl|exact Jp|exact Jv rfl|exact Jo rfl rfl|exact Js rfl rfl|exact Jn rfl rfl|exact Jk rfl rfl|exact Jl rfl rfl);(first|exact Jh|exact Jq rfl|exact Jj|exact Jr rfl|exact Jt|exact Ju rfl|exact Jp|exact Jv rfl|exact Jo rfl rfl|exact Js rfl rfl|exact Jn rfl rfl|exact Jk rfl rfl|exact Jl rfl rfl);(first|assumption|rfl);(first|assumption|rfl)))
set_option hygiene false in
local macro_rules | `(tactic| walk_at "vs1")=>`(tactic| ((with_reducible apply JYn);rfl;(first|assumption|simp);(repeat' first|exact Km|exact fs_own _|apply fs_put|apply Sv);exact Nat.le_of_ble_eq_true rfl))
set_option hygiene false in
local macro_rules | `(tactic| walk_at "vs1")=>`(tactic| ((with_reducible first|apply Es|apply Ea);(first|exact Jh|exact Jq rfl|exact Jj|exact Jr rfl|exact Jt|exact Ju rfl|exact Jp|exact Jv rfl|exact Jo rfl rfl|exact Js rfl rfl|exact Jn rfl rfl|exact Jk rfl rfl|exact Jl rfl rfl);(first|assumption|rfl);(first|assumption|rfl)))
set_option hygiene false in
local macro_rules | `(tactic| walk_at "vs1")=>`(tactic| ((with_reducible apply JU8);((try simp only [Zt,Bb,Gv,Lv,Hs,List.getElem?_cons_zero,List.getElem?_cons_succ,List.set_cons_zero,List.set_cons_succ]);rfl)))
set_option hygiene false in
local macro_rules | `(tactic| walk_at "vs1")=>`(tactic| ((with_reducible first|apply Dm|apply Oa);(first|exact Jh|exact Jq rfl|exact Jj|exact Jr rfl|exact Jt|exact Ju rfl|exact Jp|exact Jv rfl|exact Jo rfl rfl|exact Js rfl rfl|exact Jn rfl rfl|exact Jk rfl rfl|exact Jl rfl rfl);rfl;rfl))
set_option hygiene false in
local macro_rules | `(tactic| walk_at "vs1")=>`(tactic| ((with_reducible apply Mm);rfl;(first|exact Jh|exact Jq rfl|exact Jj|exact Jr rfl|exact Jt|exact Ju rfl|exact Jp|exact Jv rfl|exact Jo rfl rfl|exact Js rfl rfl|exact Jn rfl rfl|exact Jk rfl rfl|exact Jl rfl rfl);rfl;exact Nat.le_of_ble_eq_true rfl))
set_option hygiene false in
local macro_rules | `(tactic| walk_at "vs1")=>`(tactic| ((with_reducible apply JJk);rfl;(first|exact Jh|exact Jq rfl|exact Jj|exact Jr rfl|exact Jt|exact Ju rfl|exact Jp|exact Jv rfl|exact Jo rfl rfl|exact Js rfl rfl|exact Jn rfl rfl|exact Jk rfl rfl|exact Jl rfl rfl);(first|exact (rfl : _ = some (0:Nat))|exact (rfl : _ = some (1:Nat))|exact (rfl : _ = some (2:Nat))|exact (rfl : _ = some (3:Nat))|exact (rfl : _ = some (4:Nat))|exact (rfl : _ = some (5:Nat)))))
set_option hygiene false in
local macro_rules | `(tactic| walk_at "vs1")=>`(tactic| ((with_reducible apply Tc);rfl;rfl;(first|exact Jh|exact Jq rfl|exact Jj|exact Jr rfl|exact Jt|exact Ju rfl|exact Jp|exact Jv rfl|exact Jo rfl rfl|exact Js rfl rfl|exact Jn rfl rfl|exact Jk rfl rfl|exact Jl rfl rfl)))
set_option hygiene false in
local macro_rules | `(tactic| walk_at "vs1")=>`(tactic| ((with_reducible first|apply Cd|apply Ey);rfl;(first|exact Jh|exact Jq rfl|exact Jj|exact Jr rfl|exact Jt|exact Ju rfl|exact Jp|exact Jv rfl|exact Jo rfl rfl|exact Js rfl rfl|exact Jn rfl rfl|exact Jk rfl rfl|exact Jl rfl rfl);rfl;rfl))
set_option hygiene false in
local macro_rules | `(tactic| walk_at "vs1")=>`(tactic| ((with_reducible first|apply Lp|apply Qm);(first|assumption|rfl)))
set_option hygiene false in
local macro_rules | `(tactic| walk_at "vs1")=>`(tactic| ((with_reducible apply Tq);rfl;(first|exact Jh|exact Jq rfl|exact Jj|exact Jr rfl|exact Jt|exact Ju rfl|exact Jp|exact Jv rfl|exact Jo rfl rfl|exact Js rfl rfl|exact Jn rfl rfl|exact Jk rfl rfl|exact Jl rfl rfl)))
set_option hygiene false in
local macro_rules | `(tactic| walk_at "vs1")=>`(tactic| ((with_reducible apply JVg);(first|exact Jh|exact Jq rfl|exact Jj|exact Jr rfl|exact Jt|exact Ju rfl|exact Jp|exact Jv rfl|exact Jo rfl rfl|exact Js rfl rfl|exact Jn rfl rfl|exact Jk rfl rfl|exact Jl rfl rfl);(first|exact Jh|exact Jq rfl|exact Jj|exact Jr rfl|exact Jt|exact Ju rfl|exact Jp|exact Jv rfl|exact Jo rfl rfl|exact Js rfl rfl|exact Jn rfl rfl|exact Jk rfl rfl|exact Jl rfl rfl);rfl))
set_option hygiene false in
local macro_rules | `(tactic| walk_at "vs1")=>`(tactic| ((with_reducible first|apply JJ2|apply JZ9|apply Px);(first|exact Jh|exact Jq rfl|exact Jj|exact Jr rfl|exact Jt|exact Ju rfl|exact Jp|exact Jv rfl|exact Jo rfl rfl|exact Js rfl rfl|exact Jn rfl rfl|exact Jk rfl rfl|exact Jl rfl rfl);(first|exact Jh|exact Jq rfl|exact Jj|exact Jr rfl|exact Jt|exact Ju rfl|exact Jp|exact Jv rfl|exact Jo rfl rfl|exact Js rfl rfl|exact Jn rfl rfl|exact Jk rfl rfl|exact Jl rfl rfl);rfl;(first|assumption|rfl)))
set_option hygiene false in
local macro_rules | `(tactic| walk_at "vs1")=>`(tactic| ((with_reducible apply Rn);rfl;(first|exact Km|exact JWs);exact Nat.le_of_ble_eq_true rfl))
set_option hygiene false in
local macro_rules | `(tactic| walk_at "vs1")=>`(tactic| ((with_reducible apply C4);(first|exact Jh|exact Jq rfl|exact Jj|exact Jr rfl|exact Jt|exact Ju rfl|exact Jp|exact Jv rfl|exact Jo rfl rfl|exact Js rfl rfl|exact Jn rfl rfl|exact Jk rfl rfl|exact Jl rfl rfl);rfl))
set_option hygiene false in
local macro_rules | `(tactic| walk_at "vs1")=>`(tactic| ((with_reducible first|apply Rj|apply E9|apply T1|apply De|apply Eg|apply JUa);(first|exact Jh|exact Jq rfl|exact Jj|exact Jr rfl|exact Jt|exact Ju rfl|exact Jp|exact Jv rfl|exact Jo rfl rfl|exact Js rfl rfl|exact Jn rfl rfl|exact Jk rfl rfl|exact Jl rfl rfl);(first|assumption|rfl)))
set_option hygiene false in
local macro_rules | `(tactic| walk_at "vs1")=>`(tactic| ((with_reducible apply JYh);((try simp only [Yj,give,List.set_cons_zero,List.set_cons_succ]);rfl)))
set_option hygiene false in
local macro_rules | `(tactic| walk_at "vs1")=>`(tactic| ((with_reducible first|apply JZj|apply JUc|apply E1|apply K0|apply R6|apply JX7);rfl;rfl))
set_option hygiene false in
local macro_rules | `(tactic| walk_at "vs1")=>`(tactic| ((with_reducible first|apply Vq|apply Qw);(first|exact Jh|exact Jq rfl|exact Jj|exact Jr rfl|exact Jt|exact Ju rfl|exact Jp|exact Jv rfl|exact Jo rfl rfl|exact Js rfl rfl|exact Jn rfl rfl|exact Jk rfl rfl|exact Jl rfl rfl);(first|exact Nn (by first|assumption|rfl) (by decide)|exact Qz (by first|assumption|rfl)|exact Aa (by assumption) (by assumption))))
set_option hygiene false in
local macro_rules | `(tactic| walk_at "vs1")=>`(tactic| ((with_reducible first|apply Rb|apply Sn|apply JUi|apply JYq|apply JVr|apply Do|apply JV3|apply Tw|apply JZw|apply Cc|apply Od|apply Nb|apply Ek|apply JVj|apply JYz|apply R3|apply JZl|apply JJm|apply Rg|apply JJ3|apply JJq|apply Qc|apply Dt|apply JZr|apply Ew);(first|exact Jh|exact Jq rfl|exact Jj|exact Jr rfl|exact Jt|exact Ju rfl|exact Jp|exact Jv rfl|exact Jo rfl rfl|exact Js rfl rfl|exact Jn rfl rfl|exact Jk rfl rfl|exact Jl rfl rfl);(first|exact Jh|exact Jq rfl|exact Jj|exact Jr rfl|exact Jt|exact Ju rfl|exact Jp|exact Jv rfl|exact Jo rfl rfl|exact Js rfl rfl|exact Jn rfl rfl|exact Jk rfl rfl|exact Jl rfl rfl)))
set_option hygiene false in
local macro_rules | `(tactic| walk_at "vs1")=>`(tactic| ((with_reducible first|apply Zw|apply Sx|apply JZ0);(first|exact Jh|exact Jq rfl|exact Jj|exact Jr rfl|exact Jt|exact Ju rfl|exact Jp|exact Jv rfl|exact Jo rfl rfl|exact Js rfl rfl|exact Jn rfl rfl|exact Jk rfl rfl|exact Jl rfl rfl);(first|exact Jh|exact Jq rfl|exact Jj|exact Jr rfl|exact Jt|exact Ju rfl|exact Jp|exact Jv rfl|exact Jo rfl rfl|exact Js rfl rfl|exact Jn rfl rfl|exact Jk rfl rfl|exact Jl rfl rfl);(first|assumption|rfl)))
set_option hygiene false in
local macro_rules | `(tactic| walk_at "vs1")=>`(tactic| ((with_reducible first|apply Sk|apply JVy|apply JYt|apply JYg|apply JVi|apply JZb|apply JUj|apply JJh|apply Sb|apply Dx|apply JUl|apply JVh|apply JJj|apply JW1|apply Tt);(first|exact Jh|exact Jq rfl|exact Jj|exact Jr rfl|exact Jt|exact Ju rfl|exact Jp|exact Jv rfl|exact Jo rfl rfl|exact Js rfl rfl|exact Jn rfl rfl|exact Jk rfl rfl|exact Jl rfl rfl)))
set_option hygiene false in
local macro_rules | `(tactic| walk_at "vs1")=>`(tactic| ((with_reducible first|apply T7|apply Td|apply A6|apply Tf|apply Qa|apply JVb|apply Ds|apply JYu|apply E2|apply JVd|apply JWi|apply JY3|apply JV5|apply JYy|apply El|apply Sa);rfl))
set_option hygiene false in
local macro_rules | `(tactic| walk_at "vs1")=>`(tactic| ((with_reducible apply N9);rfl;(first|exact Jh|exact Jq rfl|exact Jj|exact Jr rfl|exact Jt|exact Ju rfl|exact Jp|exact Jv rfl|exact Jo rfl rfl|exact Js rfl rfl|exact Jn rfl rfl|exact Jk rfl rfl|exact Jl rfl rfl);(first|assumption|rfl)))
set_option hygiene false in
local macro_rules | `(tactic| walk_at "vs1")=>`(tactic| ((with_reducible first|apply JO8|apply JFa|apply JWw|apply JJ5|apply JZa|apply JF9|apply JV1|apply JZ5|apply JJa|apply T4|apply JXx|apply A0|apply JU9|apply JW4|apply JJu|apply JUq|apply JWv|apply JWa|apply Da|apply Dj|apply Ay|apply E7|apply Dc|apply JYl|apply JW6|apply i_c|apply Ca|apply Cy|apply Ti|apply Sy|apply R5|apply Sr|apply JUt|apply JJy|apply D5|apply JU5|apply Te|apply Eb|apply JZn|apply Aq|apply A8|apply Cw|apply Cg|apply JVx|apply JYs|apply D1|apply Q2|apply Ai|apply JJ1|apply Cz|apply Ec|apply Dg|apply Ro|apply Lf|apply JW3|apply JJg|apply JU7|apply Cu|apply D8|apply A4|apply Af|apply Dh|apply JW9|apply Q0|apply JW5|apply Qk|apply JYr|apply JWg|apply Cq|apply JWu|apply JWr|apply Ej|apply JWh|apply Tz|apply JUx|apply R7|apply E8|apply JJ6|apply JY8|apply Qn|apply Rr|apply Qj|apply Ei|apply JZd|apply JX3|apply JX2|apply JVl|apply JVz|apply JZ8|apply JY5|apply JZm|apply JUb|apply Ck|apply JZe|apply JJx|apply JUm|apply Q3|apply JZh|apply Qp|apply JJn|apply Am|apply A7|apply Rm|apply R9|apply Sm|apply JJv|apply JWq|apply Qs|apply JJd|apply C9|apply C8|apply Ta|apply JYj|apply Rc|apply D6|apply T8|apply Df|apply JWf|apply Qv|apply Aj|apply JJl|apply JU1|apply Rk|apply R0|apply JV9|apply C6|apply JVm|apply JWd|apply JZp|apply Re|apply Q5|apply Ex|apply JV7|apply JYk|apply JYe|apply Qr|apply Tn|apply JUy|apply C3|apply Aw|apply JX5|apply Ac|apply JWj)))
set_option hygiene false in
local macro_rules | `(tactic| walk_at "vs2")=>`(tactic| ((with_reducible apply Sl)<;>intro hif))
set_option hygiene false in
local macro_rules | `(tactic| walk_at "vs2")=>`(tactic| ((with_reducible refine Eh ?_ ?_);(first|assumption|rfl)))
set_option hygiene false in
local macro_rules | `(tactic| walk_at "vs2")=>`(tactic| ((with_reducible refine Qy ?_ ?_);(first|assumption|rfl)))
set_option hygiene false in
local macro_rules | `(tactic| walk_at "vs2")=>`(tactic| (with_reducible apply JJ7))
set_option hygiene false in
local macro_rules | `(tactic| walk_at "vs2")=>`(tactic| (with_reducible apply JUw))
set_option hygiene false in
local macro_rules | `(tactic| walk_at "vs2")=>`(tactic| ((with_reducible apply JYw);(unfold CMul; first|decide|omega)))
set_option hygiene false in
local macro_rules | `(tactic| walk_at "vs2")=>`(tactic| ((with_reducible apply JZ3);(unfold CPow; decide)))
set_option hygiene false in
local macro_rules | `(tactic| walk_at "vs2")=>`(tactic| ((with_reducible apply JUz);assumption))
set_option hygiene false in
local macro_rules | `(tactic| walk_at "vs2")=>`(tactic| ((with_reducible apply JVo);assumption))
set_option hygiene false in
local macro_rules | `(tactic| walk_at "vs2")=>`(tactic| ((with_reducible apply D2);assumption))
set_option hygiene false in
local macro_rules | `(tactic| walk_at "vs2")=>`(tactic| ((with_reducible apply JVv);assumption))
set_option hygiene false in
local macro_rules | `(tactic| walk_at "vs2")=>`(tactic| exact JJz)
set_option hygiene false in
local macro_rules | `(tactic| walk_at "vs2")=>`(tactic| exact Cb)
set_option hygiene false in
local macro_rules | `(tactic| walk_at "vs2")=>`(tactic| exact T6)
set_option hygiene false in
local macro_rules | `(tactic| walk_at "vs2")=>`(tactic| exact G2)
set_option hygiene false in
local macro_rules | `(tactic| walk_at "vs2")=>`(tactic| exact Q9)
set_option hygiene false in
local macro_rules | `(tactic| walk_at "vs2")=>`(tactic| ((with_reducible apply A3);rfl;rfl;rfl;intro w))
set_option hygiene false in
local macro_rules | `(tactic| walk_at "vs2")=>`(tactic| ((with_reducible apply Lk);rfl;(first|exact Jh|exact Jq rfl|exact Jj|exact Jr rfl|exact Jt|exact Ju rfl|exact Jp|exact Jv rfl|exact Jo rfl rfl|exact Js rfl rfl|exact Jn rfl rfl|exact Jk rfl rfl|exact Jl rfl rfl);rfl;rfl;rfl;intro w))
set_option hygiene false in
local macro_rules | `(tactic| walk_at "vs2")=>`(tactic| ((with_reducible apply JJs);rfl;(first|exact Jh|exact Jq rfl|exact Jj|exact Jr rfl|exact Jt|exact Ju rfl|exact Jp|exact Jv rfl|exact Jo rfl rfl|exact Js rfl rfl|exact Jn rfl rfl|exact Jk rfl rfl|exact Jl rfl rfl);(first|exact (rfl : _ = some (0:Nat))|exact (rfl : _ = some (1:Nat))|exact (rfl : _ = some (2:Nat))|exact (rfl : _ = some (3:Nat))|exact (rfl : _ = some (4:Nat))|exact (rfl : _ = some (5:Nat)));rfl;rfl;intro w))
set_option hygiene false in
local macro_rules | `(tactic| walk_at "vs2")=>`(tactic| ((with_reducible apply Ab);rfl;(first|exact Jh|exact Jq rfl|exact Jj|exact Jr rfl|exact Jt|exact Ju rfl|exact Jp|exact Jv rfl|exact Jo rfl rfl|exact Js rfl rfl|exact Jn rfl rfl|exact Jk rfl rfl|exact Jl rfl rfl);(first|exact (rfl : _ = some (0:Nat))|exact (rfl : _ = some (1:Nat))|exact (rfl : _ = some (2:Nat))|exact (rfl : _ = some (3:Nat))|exact (rfl : _ = some (4:Nat))|exact (rfl : _ = some (5:Nat)));rfl;rfl;intro w))
set_option hygiene false in
local macro_rules | `(tactic| walk_at "vs2")=>`(tactic| ((with_reducible apply JYa);exact Nat.le_of_ble_eq_true rfl))
set_option hygiene false in
local macro_rules | `(tactic| walk_at "vs2")=>`(tactic| ((with_reducible apply JZu);exact Nat.le_of_ble_eq_true rfl))
set_option hygiene false in
local macro_rules | `(tactic| walk_at "vs2")=>`(tactic| ((with_reducible apply JYf);rfl;rfl))
set_option hygiene false in
local macro_rules | `(tactic| walk_at "vs2")=>`(tactic| ((with_reducible apply An);rfl;rfl))
set_option hygiene false in
local macro_rules | `(tactic| walk_at "vs2")=>`(tactic| ((with_reducible apply Pz);(first|exact Jh|exact Jq rfl|exact Jj|exact Jr rfl|exact Jt|exact Ju rfl|exact Jp|exact Jv rfl|exact Jo rfl rfl|exact Js rfl rfl|exact Jn rfl rfl|exact Jk rfl rfl|exact Jl rfl rfl)))
set_option hygiene false in
local macro_rules | `(tactic| walk_at "vs2")=>`(tactic| ((with_reducible apply A5);rfl;(first|assumption|simp);(first|assumption|rfl)))
set_option hygiene false in
local macro_rules | `(tactic| walk_at "vs2")=>`(tactic| ((with_reducible apply Ct);rfl;(first|assumption|simp);(first|assumption|rfl)))
set_option hygiene false in
local macro_rules | `(tactic| walk_at "vs2")=>`(tactic| ((with_reducible apply En);(first|exact Jh|exact Jq rfl|exact Jj|exact Jr rfl|exact Jt|exact Ju rfl|exact Jp|exact Jv rfl|exact Jo rfl rfl|exact Js rfl rfl|exact Jn rfl rfl|exact Jk rfl rfl|exact Jl rfl rfl)))
set_option hygiene false in
local macro_rules | `(tactic| walk_at "vs2")=>`(tactic| ((with_reducible apply JZ1);(first|exact Jh|exact Jq rfl|exact Jj|exact Jr rfl|exact Jt|exact Ju rfl|exact Jp|exact Jv rfl|exact Jo rfl rfl|exact Js rfl rfl|exact Jn rfl rfl|exact Jk rfl rfl|exact Jl rfl rfl);(first|exact Jh|exact Jq rfl|exact Jj|exact Jr rfl|exact Jt|exact Ju rfl|exact Jp|exact Jv rfl|exact Jo rfl rfl|exact Js rfl rfl|exact Jn rfl rfl|exact Jk rfl rfl|exact Jl rfl rfl);rfl))
set_option hygiene false in
local macro_rules | `(tactic| walk_at "vs2")=>`(tactic| ((with_reducible apply Dk);(first|exact Jh|exact Jq rfl|exact Jj|exact Jr rfl|exact Jt|exact Ju rfl|exact Jp|exact Jv rfl|exact Jo rfl rfl|exact Js rfl rfl|exact Jn rfl rfl|exact Jk rfl rfl|exact Jl rfl rfl)))
set_option hygiene false in
local macro_rules | `(tactic| walk_at "vs2")=>`(tactic| ((with_reducible apply Tx);(first|exact Jh|exact Jq rfl|exact Jj|exact Jr rfl|exact Jt|exact Ju rfl|exact Jp|exact Jv rfl|exact Jo rfl rfl|exact Js rfl rfl|exact Jn rfl rfl|exact Jk rfl rfl|exact Jl rfl rfl)))
set_option hygiene false in
local macro_rules | `(tactic| walk_at "vs2")=>`(tactic| ((with_reducible apply Mw);(first|exact Jh|exact Jq rfl|exact Jj|exact Jr rfl|exact Jt|exact Ju rfl|exact Jp|exact Jv rfl|exact Jo rfl rfl|exact Js rfl rfl|exact Jn rfl rfl|exact Jk rfl rfl|exact Jl rfl rfl)))
set_option hygiene false in
local macro_rules | `(tactic| walk_at "vs2")=>`(tactic| ((with_reducible apply P2);(first|exact Jh|exact Jq rfl|exact Jj|exact Jr rfl|exact Jt|exact Ju rfl|exact Jp|exact Jv rfl|exact Jo rfl rfl|exact Js rfl rfl|exact Jn rfl rfl|exact Jk rfl rfl|exact Jl rfl rfl)))
set_option hygiene false in
local macro_rules | `(tactic| walk_at "vs2")=>`(tactic| ((with_reducible apply Sq);rfl))
set_option hygiene false in
local macro_rules | `(tactic| walk_at "vs2")=>`(tactic| ((with_reducible apply JVt);rfl))
set_option hygiene false in
local macro_rules | `(tactic| walk_at "vs2")=>`(tactic| ((with_reducible apply JY1);rfl))
set_option hygiene false in
local macro_rules | `(tactic| walk_at "vs2")=>`(tactic| ((with_reducible apply Ra);rfl;exact Nat.le_of_ble_eq_true rfl))
set_option hygiene false in
local macro_rules | `(tactic| walk_at "vs2")=>`(tactic| ((with_reducible apply O5);(first|exact Jh|exact Jq rfl|exact Jj|exact Jr rfl|exact Jt|exact Ju rfl|exact Jp|exact Jv rfl|exact Jo rfl rfl|exact Js rfl rfl|exact Jn rfl rfl|exact Jk rfl rfl|exact Jl rfl rfl);(first|exact Jh|exact Jq rfl|exact Jj|exact Jr rfl|exact Jt|exact Ju rfl|exact Jp|exact Jv rfl|exact Jo rfl rfl|exact Js rfl rfl|exact Jn rfl rfl|exact Jk rfl rfl|exact Jl rfl rfl);(first|assumption|rfl);(first|assumption|rfl);(first|assumption|rfl)))
set_option hygiene false in
local macro_rules | `(tactic| walk_at "vs2")=>`(tactic| ((with_reducible first|apply JJc|apply Ts);(first|exact Jh|exact Jq rfl|exact Jj|exact Jr rfl|exact Jt|exact Ju rfl|exact Jp|exact Jv rfl|exact Jo rfl rfl|exact Js rfl rfl|exact Jn rfl rfl|exact Jk rfl rfl|exact Jl rfl rfl);(first|exact Jh|exact Jq rfl|exact Jj|exact Jr rfl|exact Jt|exact Ju rfl|exact Jp|exact Jv rfl|exact Jo rfl rfl|exact Js rfl rfl|exact Jn rfl rfl|exact Jk rfl rfl|exact Jl rfl rfl);(first|exact Jh|exact Jq rfl|exact Jj|exact Jr rfl|exact Jt|exact Ju rfl|exact Jp|exact Jv rfl|exact Jo rfl rfl|exact Js rfl rfl|exact Jn rfl rfl|exact Jk rfl rfl|exact Jl rfl rfl)))
set_option hygiene false in
local macro_rules | `(tactic| walk_at "vs2")=>`(tactic| ((with_reducible first|apply Tv|apply Rl);rfl;(first|assumption|rfl)))
set_option hygiene false in
local macro_rules | `(tactic| walk_at "vs2")=>`(tactic| ((with_reducible first|apply JZs|apply JVe);(first|exact Jh|exact Jq rfl|exact Jj|exact Jr rfl|exact Jt|exact Ju rfl|exact Jp|exact Jv rfl|exact Jo rfl rfl|exact Js rfl rfl|exact Jn rfl rfl|exact Jk rfl rfl|exact Jl rfl rfl);(first|exact Jh|exact Jq rfl|exact Jj|exact Jr rfl|exact Jt|exact Ju rfl|exact Jp|exact Jv rfl|exact Jo rfl rfl|exact Js rfl rfl|exact Jn rfl rfl|exact Jk rfl rfl|exact Jl rfl rfl);(first|assumption|rfl);(first|assumption|rfl)))
set_option hygiene false in
local macro_rules | `(tactic| walk_at "vs2")=>`(tactic| ((with_reducible apply JYn);rfl;(first|assumption|simp);(repeat' first|exact Km|exact fs_own _|apply fs_put|apply Sv);exact Nat.le_of_ble_eq_true rfl))
set_option hygiene false in
local macro_rules | `(tactic| walk_at "vs2")=>`(tactic| ((with_reducible first|apply Es|apply Ea);(first|exact Jh|exact Jq rfl|exact Jj|exact Jr rfl|exact Jt|exact Ju rfl|exact Jp|exact Jv rfl|exact Jo rfl rfl|exact Js rfl rfl|exact Jn rfl rfl|exact Jk rfl rfl|exact Jl rfl rfl);(first|assumption|rfl);(first|assumption|rfl)))
set_option hygiene false in
local macro_rules | `(tactic| walk_at "vs2")=>`(tactic| ((with_reducible apply JU8);((try simp only [Zt,Bb,Gv,Lv,Hs,List.getElem?_cons_zero,List.getElem?_cons_succ,List.set_cons_zero,List.set_cons_succ]);rfl)))
set_option hygiene false in
local macro_rules | `(tactic| walk_at "vs2")=>`(tactic| ((with_reducible first|apply Dm|apply Oa);(first|exact Jh|exact Jq rfl|exact Jj|exact Jr rfl|exact Jt|exact Ju rfl|exact Jp|exact Jv rfl|exact Jo rfl rfl|exact Js rfl rfl|exact Jn rfl rfl|exact Jk rfl rfl|exact Jl rfl rfl);rfl;rfl))
set_option hygiene false in
local macro_rules | `(tactic| walk_at "vs2")=>`(tactic| ((with_reducible apply Mm);rfl;(first|exact Jh|exact Jq rfl|exact Jj|exact Jr rfl|exact Jt|exact Ju rfl|exact Jp|exact Jv rfl|exact Jo rfl rfl|exact Js rfl rfl|exact Jn rfl rfl|exact Jk rfl rfl|exact Jl rfl rfl);rfl;exact Nat.le_of_ble_eq_true rfl))
set_option hygiene false in
local macro_rules | `(tactic| walk_at "vs2")=>`(tactic| ((with_reducible apply JJk);rfl;(first|exact Jh|exact Jq rfl|exact Jj|exact Jr rfl|exact Jt|exact Ju rfl|exact Jp|exact Jv rfl|exact Jo rfl rfl|exact Js rfl rfl|exact Jn rfl rfl|exact Jk rfl rfl|exact Jl rfl rfl);(first|exact (rfl : _ = some (0:Nat))|exact (rfl : _ = some (1:Nat))|exact (rfl : _ = some (2:Nat))|exact (rfl : _ = some (3:Nat))|exact (rfl : _ = some (4:Nat))|exact (rfl : _ = some (5:Nat)))))
set_option hygiene false in
local macro_rules | `(tactic| walk_at "vs2")=>`(tactic| ((with_reducible apply Tc);rfl;rfl;(first|exact Jh|exact Jq rfl|exact Jj|exact Jr rfl|exact Jt|exact Ju rfl|exact Jp|exact Jv rfl|exact Jo rfl rfl|exact Js rfl rfl|exact Jn rfl rfl|exact Jk rfl rfl|exact Jl rfl rfl)))
set_option hygiene false in
local macro_rules | `(tactic| walk_at "vs2")=>`(tactic| ((with_reducible first|apply Cd|apply Ey);rfl;(first|exact Jh|exact Jq rfl|exact Jj|exact Jr rfl|exact Jt|exact Ju rfl|exact Jp|exact Jv rfl|exact Jo rfl rfl|exact Js rfl rfl|exact Jn rfl rfl|exact Jk rfl rfl|exact Jl rfl rfl);rfl;rfl))
set_option hygiene false in
local macro_rules | `(tactic| walk_at "vs2")=>`(tactic| ((with_reducible first|apply Lp|apply Qm);(first|assumption|rfl)))
set_option hygiene false in
local macro_rules | `(tactic| walk_at "vs2")=>`(tactic| ((with_reducible apply Tq);rfl;(first|exact Jh|exact Jq rfl|exact Jj|exact Jr rfl|exact Jt|exact Ju rfl|exact Jp|exact Jv rfl|exact Jo rfl rfl|exact Js rfl rfl|exact Jn rfl rfl|exact Jk rfl rfl|exact Jl rfl rfl)))
set_option hygiene false in
local macro_rules | `(tactic| walk_at "vs2")=>`(tactic| ((with_reducible apply JVg);(first|exact Jh|exact Jq rfl|exact Jj|exact Jr rfl|exact Jt|exact Ju rfl|exact Jp|exact Jv rfl|exact Jo rfl rfl|exact Js rfl rfl|exact Jn rfl rfl|exact Jk rfl rfl|exact Jl rfl rfl);(first|exact Jh|exact Jq rfl|exact Jj|exact Jr rfl|exact Jt|exact Ju rfl|exact Jp|exact Jv rfl|exact Jo rfl rfl|exact Js rfl rfl|exact Jn rfl rfl|exact Jk rfl rfl|exact Jl rfl rfl);rfl))
set_option hygiene false in
local macro_rules | `(tactic| walk_at "vs2")=>`(tactic| ((with_reducible first|apply JJ2|apply JZ9|apply Px);(first|exact Jh|exact Jq rfl|exact Jj|exact Jr rfl|exact Jt|exact Ju rfl|exact Jp|exact Jv rfl|exact Jo rfl rfl|exact Js rfl rfl|exact Jn rfl rfl|exact Jk rfl rfl|exact Jl rfl rfl);(first|exact Jh|exact Jq rfl|exact Jj|exact Jr rfl|exact Jt|exact Ju rfl|exact Jp|exact Jv rfl|exact Jo rfl rfl|exact Js rfl rfl|exact Jn rfl rfl|exact Jk rfl rfl|exact Jl rfl rfl);rfl;(first|assumption|rfl)))
set_option hygiene false in
local macro_rules | `(tactic| walk_at "vs2")=>`(tactic| ((with_reducible apply Rn);rfl;(first|exact Km|exact JWs);exact Nat.le_of_ble_eq_true rfl))
set_option hygiene false in
local macro_rules | `(tactic| walk_at "vs2")=>`(tactic| ((with_reducible apply C4);(first|exact Jh|exact Jq rfl|exact Jj|exact Jr rfl|exact Jt|exact Ju rfl|exact Jp|exact Jv rfl|exact Jo rfl rfl|exact Js rfl rfl|exact Jn rfl rfl|exact Jk rfl rfl|exact Jl rfl rfl);rfl))
set_option hygiene false in
local macro_rules | `(tactic| walk_at "vs2")=>`(tactic| ((with_reducible first|apply Rj|apply E9|apply T1|apply De|apply Eg|apply JUa);(first|exact Jh|exact Jq rfl|exact Jj|exact Jr rfl|exact Jt|exact Ju rfl|exact Jp|exact Jv rfl|exact Jo rfl rfl|exact Js rfl rfl|exact Jn rfl rfl|exact Jk rfl rfl|exact Jl rfl rfl);(first|assumption|rfl)))
set_option hygiene false in
local macro_rules | `(tactic| walk_at "vs2")=>`(tactic| ((with_reducible apply JYh);((try simp only [Yj,give,List.set_cons_zero,List.set_cons_succ]);rfl)))
set_option hygiene false in
local macro_rules | `(tactic| walk_at "vs2")=>`(tactic| ((with_reducible first|apply JZj|apply JUc|apply E1|apply K0|apply R6|apply JX7);rfl;rfl))
set_option hygiene false in
local macro_rules | `(tactic| walk_at "vs2")=>`(tactic| ((with_reducible first|apply Vq|apply Qw);(first|exact Jh|exact Jq rfl|exact Jj|exact Jr rfl|exact Jt|exact Ju rfl|exact Jp|exact Jv rfl|exact Jo rfl rfl|exact Js rfl rfl|exact Jn rfl rfl|exact Jk rfl rfl|exact Jl rfl rfl);(first|exact Nn (by first|assumption|rfl) (by decide)|exact Qz (by first|assumption|rfl)|exact Aa (by assumption) (by assumption))))
set_option hygiene false in
local macro_rules | `(tactic| walk_at "vs2")=>`(tactic| ((with_reducible first|apply Rb|apply Sn|apply JUi|apply JYq|apply JVr|apply Do|apply JV3|apply Tw|apply JZw|apply Cc|apply Od|apply Nb|apply Ek|apply JVj|apply JYz|apply R3|apply JZl|apply JJm|apply Rg|apply JJ3|apply JJq|apply Qc|apply Dt|apply JZr|apply Ew);(first|exact Jh|exact Jq rfl|exact Jj|exact Jr rfl|exact Jt|exact Ju rfl|exact Jp|exact Jv rfl|exact Jo rfl rfl|exact Js rfl rfl|exact Jn rfl rfl|exact Jk rfl rfl|exact Jl rfl rfl);(first|exact Jh|exact Jq rfl|exact Jj|exact Jr rfl|exact Jt|exact Ju rfl|exact Jp|exact Jv rfl|exact Jo rfl rfl|exact Js rfl rfl|exact Jn rfl rfl|exact Jk rfl rfl|exact Jl rfl rfl)))
set_option hygiene false in
local macro_rules | `(tactic| walk_at "vs2")=>`(tactic| ((with_reducible first|apply Zw|apply Sx|apply JZ0);(first|exact Jh|exact Jq rfl|exact Jj|exact Jr rfl|exact Jt|exact Ju rfl|exact Jp|exact Jv rfl|exact Jo rfl rfl|exact Js rfl rfl|exact Jn rfl rfl|exact Jk rfl rfl|exact Jl rfl rfl);(first|exact Jh|exact Jq rfl|exact Jj|exact Jr rfl|exact Jt|exact Ju rfl|exact Jp|exact Jv rfl|exact Jo rfl rfl|exact Js rfl rfl|exact Jn rfl rfl|exact Jk rfl rfl|exact Jl rfl rfl);(first|assumption|rfl)))
set_option hygiene false in
local macro_rules | `(tactic| walk_at "vs2")=>`(tactic| ((with_reducible first|apply Sk|apply JVy|apply JYt|apply JYg|apply JVi|apply JZb|apply JUj|apply JJh|apply Sb|apply Dx|apply JUl|apply JVh|apply JJj|apply JW1|apply Tt);(first|exact Jh|exact Jq rfl|exact Jj|exact Jr rfl|exact Jt|exact Ju rfl|exact Jp|exact Jv rfl|exact Jo rfl rfl|exact Js rfl rfl|exact Jn rfl rfl|exact Jk rfl rfl|exact Jl rfl rfl)))
set_option hygiene false in
local macro_rules | `(tactic| walk_at "vs2")=>`(tactic| ((with_reducible first|apply T7|apply Td|apply A6|apply Tf|apply Qa|apply JVb|apply Ds|apply JYu|apply E2|apply JVd|apply JWi|apply JY3|apply JV5|apply JYy|apply El|apply Sa);rfl))
set_option hygiene false in
local macro_rules | `(tactic| walk_at "vs2")=>`(tactic| ((with_reducible apply N9);rfl;(first|exact Jh|exact Jq rfl|exact Jj|exact Jr rfl|exact Jt|exact Ju rfl|exact Jp|exact Jv rfl|exact Jo rfl rfl|exact Js rfl rfl|exact Jn rfl rfl|exact Jk rfl rfl|exact Jl rfl rfl);(first|assumption|rfl)))
set_option hygiene false in
local macro_rules | `(tactic| walk_at "vs2")=>`(tactic| ((with_reducible first|apply JWw|apply JJ5|apply JZa|apply JV1|apply JZ5|apply JJa|apply T4|apply A0|apply JU9|apply JW4|apply JJu|apply JUq|apply JWv|apply JWa|apply Da|apply Dj|apply Ay|apply E7|apply Dc|apply JYl|apply JW6|apply i_c|apply Ca|apply Cy|apply Ti|apply Sy|apply R5|apply Sr|apply JUt|apply JJy|apply D5|apply JU5|apply Te|apply Eb|apply JZn|apply Aq|apply A8|apply Cw|apply Cg|apply JVx|apply JYs|apply D1|apply Q2|apply Ai|apply JJ1|apply Cz|apply Ec|apply Dg|apply Ro|apply Lf|apply JW3|apply JJg|apply JU7|apply Cu|apply D8|apply A4|apply Af|apply Dh|apply JW9|apply Q0|apply JW5|apply Qk|apply JYr|apply JWg|apply Cq|apply JWu|apply JWr|apply Ej|apply JWh|apply Tz|apply JUx|apply R7|apply E8|apply JJ6|apply JY8|apply Qn|apply Rr|apply Qj|apply Ei|apply JZd|apply JX3|apply JX2|apply JVl|apply JVz|apply JZ8|apply JY5|apply JZm|apply JUb|apply Ck|apply JZe|apply JJx|apply JUm|apply Q3|apply JZh|apply Qp|apply JJn|apply Am|apply A7|apply Rm|apply R9|apply Sm|apply JJv|apply JWq|apply Qs|apply JJd|apply C9|apply C8|apply Ta|apply JYj|apply Rc|apply D6|apply T8|apply Df|apply JWf|apply Qv|apply Aj|apply JJl|apply JU1|apply Rk|apply R0|apply JV9|apply C6|apply JVm|apply JWd|apply JZp|apply Re|apply Q5|apply Ex|apply JV7|apply JYk|apply JYe|apply Qr|apply Tn|apply JUy|apply C3|apply Aw|apply JX5|apply Ac|apply JWj)))
theorem JZ3 {i j : Int} (h : CPow i j) : CPow i j:=h
theorem JYw {i j : Int} (h : CMul i j) : CMul i j:=h
theorem Bj {i : Nat} {ρ : J0} (h : ρ[i]? = some none) : W6 [i] ρ:=fun v hv=>by
  have e : v = i:=by simpa using hv
  subst e
  exact h
section
variable {EA : AX} {ρ ρ' : J0} {Q : AK} {DA : AEnds} {g : Gm} [Gok g]
theorem JVh {x : A} {i : Int} (h1 : dat x ρ = some (.int i)) (k : Q (.v (.int (if i < 0 then -i else i))) ρ) : Hc [x] ρ Q:=⟨x,i,rfl,h1,k⟩
theorem Pz {x : A} {b : Bool} (h : dat x ρ = some (.bl b)) (k : Q (.v (.int (if b then 1 else 0))) ρ) : Ww [x] ρ Q:=⟨x,rfl,.inr ⟨b,h,k⟩⟩
theorem Sv {k : Str} {d : D} {fs : List (Str × A)} (h : ∀ p ∈ fs,∃ d,p.2 = A.v d) : ∀ p ∈ (k,A.v d) :: fs,∃ d,p.2 = A.v d:=fun p hp=>by
  rcases List.mem_cons.mp hp with rfl | hp
  · exact ⟨d,rfl⟩
  · exact h p hp
/-- a loop whose going on is told of by a name -/
theorem Xj {α : Type} {G : J0 → Prop} {ag : AG} {ab : AS} (f : α → D) (W : List α → J0 → Prop) (h0 : ∀ ρ,W [] ρ → G ρ ∧ DA.nx ρ)
    (h1 : ∀ x xs ρ,W (x :: xs) ρ → ∀ K : J0 → Prop,(∀ ρ,W xs ρ → K ρ) → G ρ ∧ ag (f x) ρ fun ρ'=>ab { DA with nx:=K,ct:=K,bk:=DA.nx } ρ') : ∀ (xs : List α) (ρ : J0),W xs ρ → forA G ag ab DA (xs.map f) ρ
  | [],ρ,w=>h0 ρ w
  | x :: xs,ρ,w=>h1 x xs ρ w _ fun ρ' w'=>Xj f W h0 h1 xs ρ' w'
theorem Pd {i : Nat} {x y : Option A} : (ρ.set i x).set i y = ρ.set i y:=List.set_set ..
theorem JVn {i : Nat} {p : A} (hp : ρ[i]? = some (some p)) : pass [.loc i] ρ = some ([p],ρ.set i none):=by
  simp only [pass,hp]
theorem Ks {i : Nat} {p x : A} (hp : ρ[i]? = some (some p)) (hx : Yg x = false) : pass [.loc i,x] ρ = some ([p,x],ρ.set i none):=by
  cases x <;> first | (simp only [pass,hp]; done) | (cases hx; done)
theorem JJ8 {i : Nat} {p x y : A} (hp : ρ[i]? = some (some p)) (hx : Yg x = false) (hy : Yg y = false) : pass [.loc i,x,y] ρ = some ([p,x,y],ρ.set i none):=by
  cases x <;> cases y <;> first | (simp only [pass,hp]; done) | (cases hx; done) | (cases hy; done)
theorem JLn {i j : Int} (h : 0 < j) (h2 : j.natAbs < 2 ^ 200) : CDivW i j:=wide_div (b:=200) h h2 (by decide) (by decide)
theorem JO2 {ns : List Int} {a : Int} (h0 : 0 ≤ a) (h1 : a < ns.length) : ∃ z,itD (.lst (ns.map .int)) (.int a) = some (.int z):=by
  obtain ⟨x,hx,e⟩:=JPc (xs:=ns.map D.int) h0 (by simpa using h1)
  obtain ⟨z,_,rfl⟩:=List.mem_map.mp hx
  exact ⟨z,e⟩
def stA (a b c : Int) : A:=.lst [.int a,.int b,.int c]
def Yo (x : A) : Prop:=∃ a b c : Int,x = stA a b c ∧ 0 ≤ a
theorem JVp {ns : List Int} {k : Nat} (hl : ns.length ≤ 63) : Val (SZ08 g) [.v (.lst (ns.map .int)),.v (.int (k : Nat))] Yo:=fnP rfl fun DA hR hN hX=>by
  show asZ08 DA [some (.v (.lst (ns.map .int))),some (.v (.int (k : Nat))),none]
  have hln : Ue (.lst (ns.map .int)) = some ns.length:=by simp [Ue]
  have fin : ∀ a : Int,0 ≤ a → rsZ08n3 DA [some (.v (.lst (ns.map .int))),some (.v (.int (k : Nat))),some (.v (.int a))]:=fun a ha=>by
    unfold rsZ08n3
    (repeat' walk_at "vs1")
    all_goals first | exact .inl (by decide) | skip
    exact hR _ _ _ rfl ⟨rfl,a,_,_,rfl,ha⟩
  unfold asZ08
  (repeat' walk_at "vs1")
  unfold rsZ08n2
  (repeat' walk_at "vs1")
  · obtain ⟨z,hz⟩:=JO2 (ns:=ns) (a:=(k : Nat)) (by omega) (by simpa using hif)
    refine Zw Jh Jh hz ?_
    (repeat' walk_at "vs1")
    refine fin _ ?_
    split <;> omega
  · exact fin 0 (by omega)
theorem JMf {a m : Int} (hm : 0 < m) (h : m.natAbs < 2 ^ 210) : CDivW a m:=⟨hm,Nat.lt_trans (PySem.Flt.log2_lt_of (by decide) h) (by decide)⟩
theorem JHz {a b c m : Int} {o2 o3 : Option A} (hR : ∀ z p' o2 o3,0 ≤ z → z < m → Yo p' → DA.rt (.v (.int z)) [some p',some (.v (.int m)),o2,o3]) (ha : 0 ≤ a) (hm : 0 < m) : rsZ0jn3 DA [some (stA a b c),some (.v (.int m)),o2,o3]:=by
  unfold rsZ0jn3 rsZ0jn4 rsZ0jn5 rsZ0jn6
  have h0 : ∀ x : Int,0 ≤ x % 2147483647 ∧ x % 2147483647 < 2147483647:=fun x=>⟨Int.emod_nonneg _ (by decide),Int.emod_lt_of_pos _ (by decide)⟩
  unfold stA
  (repeat' walk_at "vs1")
  all_goals first | assumption | exact JLn (by decide) (by decide) | decide | exact .inl (by decide) | exact .inr (by decide) | exact .inl ⟨by have:=h0 ((a + 7919 * c + 1) * 48271); omega,by have:=h0 ((a + 7919 * c + 1) * 48271); omega⟩ | skip
  all_goals first | (refine .inl ⟨?_,?_⟩ <;> (generalize ((a + 7919 * c + 1) * 48271 % 2147483647 * ((a + 7919 * c + 1) * 48271 % 2147483647 / 1009 + 69621)) = y; have:=h0 y; omega)) | skip
  exact hR _ _ _ _ (Int.emod_nonneg _ (by omega)) (Int.emod_lt_of_pos _ hm) ⟨a,b,c,rfl,ha⟩
theorem JX8 {p : A} {m : Int} (hp : Yo p) (hm : 0 < m) (hm2 : m.natAbs < 2 ^ 210) : Sat (SZ0j g) [p,.v (.int m)] (fun r o=>∃ z p',r = .v (.int z) ∧ 0 ≤ z ∧ z < m ∧ Yo p' ∧ o = [p',.v (.int m)]) noO:=by
  obtain ⟨a,b,c,rfl,ha⟩:=hp
  refine fnP rfl fun DA hR hN hX=>?_
  have hR' : ∀ z p' o2 o3,0 ≤ z → z < m → Yo p' → DA.rt (.v (.int z)) [some p',some (.v (.int m)),o2,o3]:=fun z p' o2 o3 h0 h1 h2=>hR _ _ _ (by simp [fin]) ⟨z,p',rfl,h0,h1,h2,rfl⟩
  show asZ0j _ [some (stA a b c),some (.v (.int m)),none,none]
  have g3 : ∀ {o2 o3},rsZ0jn3 DA [some (stA a b (c + 1)),some (.v (.int m)),o2,o3]:=JHz hR' ha hm
  unfold asZ0j
  unfold stA at g3 ⊢
  (repeat' walk_at "vs1")
  unfold rsZ0jn2
  (repeat' walk_at "vs1")
  all_goals first | assumption | exact JMf hm hm2 | exact g3 | skip
  exact hR' _ _ _ _ (Int.emod_nonneg _ (by omega)) (Int.emod_lt_of_pos _ hm) ⟨a / m,b,c + 1,rfl,Int.ediv_nonneg ha (by omega)⟩
theorem Uy {i : Nat} {p : A} {m : Int} (hp : ρ[i]? = some (some p)) (h : Yo p) (h0 : 0 < m) (h1 : m.natAbs < 2 ^ 210) (k : ∀ z p',0 ≤ z → z < m → Yo p' → Q (.v (.int z)) (ρ.set i (some p'))) : U1 (SZ0j g) [.loc i,.v (.int m)] EA ρ Q:=by
  refine Wl (ρ':=ρ.set i none) (Ks hp rfl) (JX8 h h0 h1) (fun r ys' q=>?_) (fun _ _ _ h=>h.elim)
  obtain ⟨z,p',rfl,hz0,hz1,hp',rfl⟩:=q
  show Q _ ((ρ.set i none).set i (some p'))
  rw [Pd]
  exact k z p' hz0 hz1 hp'
end
inductive Wd where
  | row | fix | gone
def Wd.s : Wd → Str
  | .row=>"row"
  | .fix=>"fix"
  | .gone=>"gone"
def Wd.fs : Wd → List Str
  | .row=>["id","stream","key","moment","amount","arrival"]
  | .fix=>["id","moment","amount","arrival"]
  | .gone=>["id","arrival"]
def wdsD : List D:=[.str ("row" : Str),.str ("fix" : Str),.str ("gone" : Str)]
inductive Pc where
  | mk (t : Str) | fd (f : Str) | ot (d : D)
def Pc.d : Pc → D
  | .mk t=>.tup [.str ("mark" : Str),.str t]
  | .fd f=>.tup [.str ("field" : Str),.str f]
  | .ot d=>d
def We (ps : List Pc) : List Str:=ps.filterMap fun p=>match p with
  | .fd f=>some f
  | _=>none
theorem Mr (a b : List Pc) : We (a ++ b) = We a ++ We b:=List.filterMap_append
def Yb (ns : List Str) : List D:=ns.map .str
def Yh (ps : List Pc) : List D:=ps.map Pc.d
theorem Kv {x : Str} {c : Nat} : (x ++ (⟨#[c]⟩ : Str)).cps.toList = x.cps.toList ++ [c]:=by
  show (x.cps ++ #[c]).toList = _
  simp
theorem str_len {x : Str} : x.length = x.cps.toList.length:=by simp [Str.length]
theorem JPb {x y : Str} (h : x.cps.toList = y.cps.toList) : x = y:=by
  cases x
  cases y
  congr 1
  exact Array.toList_inj.mp h
theorem Nq {x : Str} {a : Int} (hl : x.length ≤ 100000) (h0 : 0 ≤ a) (h1 : a < x.length) : ∃ c ∈ x.cps.toList,itD (.str x) (.int a) = some (.str ⟨#[c]⟩):=by
  have hl2 : a < x.cps.toList.length:=by rw [str_len] at h1; exact h1
  have ea : a = ((a.toNat : Nat) : Int):=by omega
  refine ⟨x.cps.toList[a.toNat]'(by omega),List.getElem_mem _,?_⟩
  have h:=G4 (xs:=x.cps.toList) (k:=a.toNat) (by omega)
  rw [← ea,List.getElem?_eq_getElem (by omega)] at h
  show (if x.length ≤ 100000 then (atI x.cps.toList a).map (fun ch=>D.str ⟨#[ch]⟩) else none) = _
  rw [if_pos hl,h]
  rfl
section
variable {EA : AX} {ρ ρ' : J0} {Q : AK} {DA : AEnds} {g : Gm} [Gok g]
theorem JG7 (w : Wd) : Val (SZ09 g) [.v (.str w.s)] (fun r=>r = .lst (Yb w.fs)):=fnP rfl fun DA hR hN hX=>by
  show asZ09 _ [some (.v (.str w.s))]
  unfold asZ09 rsZ09n2 rsZ09n3
  cases w
  all_goals
    simp only [Wd.s]
    (repeat' walk_at "vs1")
    all_goals first
      | exact hR _ _ _ rfl ⟨rfl,rfl⟩
      | (exfalso; revert hif; decide)
theorem Pt {w : Wd} {s : Str} (hs : s = w.s) (k : Q (.lst (Yb w.fs)) ρ) : U1 (SZ09 g) [.v (.str s)] EA ρ Q:=by
  subst hs
  exact Wt rfl (JG7 w) fun r e=>by subst e; exact k
theorem JKe {p : A} {xs : List Str} (hp : Yo p) (hl : xs.length ≤ 20) : Sat (SZ0c g) [p,.v (.lst (Yb xs))] (fun r o=>∃ p' ys,Yo p' ∧ ys.Perm xs ∧ r = .lst (Yb ys) ∧ o = [p',.v (.lst (Yb xs))]) noO:=fnP (by obtain ⟨a,b,c,rfl,_⟩:=hp; rfl) fun DA hR hN hX=>by
  show asZ0c _ _ [some p,some (.v (.lst (Yb xs))),none,none]
  unfold asZ0c rsZ0cn2 rsZ0cn3
  (repeat' walk_at "vs1")
  refine ⟨Yb xs,rfl,?_⟩
  refine Xj (fun s : Str=>D.str s) (fun r ρ=>∃ p ds ys o,Yo p ∧ xs = ds ++ r ∧ ys.Perm ds ∧ ρ = [some p,some (.v (.lst (Yb xs))),some (.lst (Yb ys)),o]) ?_ ?_ xs _ ⟨p,[],[],_,hp,rfl,List.Perm.refl _,rfl⟩
  · rintro ρ ⟨p,ds,ys,o,hp,e,hd,rfl⟩
    refine ⟨trivial,?_⟩
    (repeat' walk_at "vs1")
    exact hR _ _ _ rfl ⟨p,ys,hp,by rw [e,List.append_nil]; exact hd,rfl,rfl⟩
  · rintro x r ρ ⟨p,ds,ys,o,hp,e,hd,rfl⟩ K ih
    refine ⟨trivial,?_⟩
    have hyl : ys.length ≤ 20:=by
      have h1:=hd.length_eq
      have h2:=congrArg List.length e
      simp at h2
      omega
    have hyl2 : (Yb ys).length ≤ 20:=by simpa [Yb] using hyl
    unfold bdZ0cn1
    (repeat' first|((with_reducible apply Uy);rfl;assumption;(first|assumption|decide|omega);(first|assumption|decide|omega);intro zz pp hz0 hz1 hpp)|walk_at "vs1")
    · exact ⟨by assumption,by omega,by omega⟩
    (simp only [Yj,give,List.set_cons_zero,List.set_cons_succ])
    have e2 : (Yb ys).take zz.toNat ++ [D.str x] ++ (Yb ys).drop zz.toNat = Yb (ys.take zz.toNat ++ [x] ++ ys.drop zz.toNat):=by simp [Yb]
    rw [e2]
    refine ih _ ⟨_,ds ++ [x],_,_,hpp,by rw [e]; simp,?_,rfl⟩
    have h1 : (ys.take zz.toNat ++ [x] ++ ys.drop zz.toNat).Perm (x :: ys):=by
      rw [List.append_assoc]
      refine List.perm_middle.trans (List.Perm.cons x ?_)
      show (ys.take zz.toNat ++ ys.drop zz.toNat).Perm ys
      rw [List.take_append_drop]
    exact h1.trans ((List.Perm.cons x hd).trans (List.perm_append_singleton x ds).symm)
/-- a mark as it is drawn -/
structure MkT (sg : Str) (most : Int) (t : Str) : Prop where
  lo : 1 ≤ t.length
  hi : (t.length : Int) ≤ most
  m : ∀ c ∈ t.cps.toList,c ∈ sg.cps.toList
theorem Co {p : A} {sg : Str} {most : Int} (hp : Yo p) (h0 : 1 ≤ most) (h1 : most ≤ 100) (s0 : 1 ≤ sg.length) (s1 : sg.length ≤ 1000) : Sat (SZ0k g) [p,.v (.str sg),.v (.int most)] (fun r o=>∃ p' t,Yo p' ∧ MkT sg most t ∧ r = .v (.str t) ∧ o = [p',.v (.str sg),.v (.int most)]) noO:=fnP (by obtain ⟨a,b,c,rfl,_⟩:=hp; rfl) fun DA hR hN hX=>by
  show asZ0k _ _ [some p,some (.v (.str sg)),some (.v (.int most)),none,none]
  have hln : Ue (.str sg) = some sg.length:=by simp only [Ue,if_pos (show sg.length ≤ 100000 by omega)]
  unfold asZ0k rsZ0kn2 rsZ0kn3
  (repeat' walk_at "vs1")
  refine Tu ?_
  (repeat' first|((with_reducible apply Uy);rfl;assumption;(first|assumption|decide|omega);(first|assumption|decide|omega);intro zz pp hz0 hz1 hpp)|walk_at "vs1")
  refine ⟨_,1 + zz,rfl,rfl,by omega,by omega,?_⟩
  refine Oi (fun ys ρ=>∃ (p : A) (y : Str) (o : Option A),Yo p ∧ (∀ c ∈ y.cps.toList,c ∈ sg.cps.toList) ∧ (y.length : Int) + ys.length = 1 + zz ∧ ρ = [some p,some (.v (.str sg)),some (.v (.int most)),some (.v (.str y)),o]) ?_ ?_ _ _ ⟨pp,"",_,hpp,(fun c hc=>by
    have e : (Str.ofString "").cps.toList = []:=by decide
    rw [e] at hc
    cases hc),(by
    have e : (Str.ofString "").length = 0:=by decide
    rw [e]
    simp only [Wu,List.length_map,List.length_range]
    omega),rfl⟩
  · rintro ρ ⟨p,y,o,hp,hy,hl,rfl⟩
    refine ⟨trivial,?_⟩
    (repeat' walk_at "vs1")
    exact hR _ _ _ rfl ⟨p,y,hp,⟨by simp at hl; omega,by simp at hl; omega,hy⟩,rfl,rfl⟩
  · rintro x ys ρ ⟨p,y,o,hp,hy,hl,rfl⟩ ih
    refine ⟨trivial,?_⟩
    unfold bdZ0kn1
    (repeat' walk_at "vs1")
    refine Uy rfl hp (by omega) (by omega) fun z2 p hz20 hz21 hp=>?_
    obtain ⟨c,hc,e⟩:=Nq (x:=sg) (by omega) hz20 hz21
    refine Zw Jh Jh e ?_
    (repeat' walk_at "vs1")
    · simp only [List.length_cons] at hl
      have : (⟨#[c]⟩ : Str).length = 1:=rfl
      omega
    (simp only [Yj,give,List.set_cons_zero,List.set_cons_succ])
    refine ih _ ⟨p,_,_,hp,fun d hd=>?_,?_,rfl⟩
    · rw [Kv,List.mem_append] at hd
      rcases hd with hd | hd
      · exact hy d hd
      · have : d = c:=by simpa using hd
        rw [this]
        exact hc
    · simp only [List.length_cons] at hl
      have e3 : (y ++ (⟨#[c]⟩ : Str)).length = y.length + 1:=by rw [str_len,Kv,str_len]; simp
      rw [e3]
      push_cast at hl ⊢
      omega
/-- a good shape as it is drawn -/
structure GS (sg : Str) (most : Int) (fs : List Str) (ps : List Pc) : Prop where
  f : (We ps).Perm fs
  m : ∀ p ∈ ps,(∃ f,p = .fd f) ∨ ∃ t,p = .mk t ∧ MkT sg most t
  n : ps.length ≤ 2 * fs.length + 1
theorem JLk {p : A} {w : Wd} {sg : Str} {often most : Int} (hp : Yo p) (h0 : 1 ≤ most) (h1 : most ≤ 100) (s0 : 1 ≤ sg.length) (s1 : sg.length ≤ 1000) : Sat (SZ0h g) [p,.v (.str w.s),.v (.str sg),.v (.int often),.v (.int most)] (fun r o=>∃ p' ps,Yo p' ∧ GS sg most w.fs ps ∧ r = .lst (Yh ps) ∧ o = [p',.v (.str w.s),.v (.str sg),.v (.int often),.v (.int most)]) noO:=fnP (by obtain ⟨a,b,c,rfl,_⟩:=hp; rfl) fun DA hR hN hX=>by
  show asZ0h _ _ _ _ _ [some p,some (.v (.str w.s)),some (.v (.str sg)),some (.v (.int often)),some (.v (.int most)),none,none]
  have hwl : w.fs.length ≤ 6:=by cases w <;> decide
  unfold asZ0h rsZ0hn2 rsZ0hn3 rsZ0hn4
  (repeat' walk_at "vs1")
  refine Pt rfl ?_
  (repeat' walk_at "vs1")
  refine Wl (Ks rfl rfl) (JKe hp (by omega)) (fun r o z=>?_) fun _ _ _ z=>z.elim
  obtain ⟨p1,ys,hp1,hys,rfl,rfl⟩:=z
  (simp only [Yj,give,List.set_cons_zero,List.set_cons_succ])
  refine ⟨Yb ys,rfl,?_⟩
  have hyl:=hys.length_eq
  refine Xj (fun s : Str=>D.str s) (fun r ρ=>∃ p ds ps o,Yo p ∧ ys = ds ++ r ∧ We ps = ds ∧ (∀ p ∈ ps,(∃ f,p = Pc.fd f) ∨ ∃ t,p = .mk t ∧ MkT sg most t) ∧ ps.length ≤ 2 * ds.length ∧ ρ = [some p,some (.v (.str w.s)),some (.v (.str sg)),some (.v (.int often)),some (.v (.int most)),some (.lst (Yh ps)),o]) ?_ ?_ ys _ ⟨p1,[],[],_,hp1,rfl,rfl,(fun _ h=>nomatch h),Nat.le_refl _,rfl⟩
  · rintro ρ ⟨p,ds,ps,o,hp,e,hd,hm,hn,rfl⟩
    refine ⟨trivial,?_⟩
    rw [List.append_nil] at e
    subst e
    have hpl : (Yh ps).length ≤ 100:=by simp only [Yh,List.length_map]; omega
    (repeat' first|((with_reducible apply Uy);rfl;assumption;(first|assumption|decide|omega);(first|assumption|decide|omega);intro zz pp hz0 hz1 hpp)|walk_at "vs1")
    · refine Wl (JJ8 rfl rfl rfl) (Co (by assumption) h0 h1 s0 s1) (fun r o z=>?_) fun _ _ _ z=>z.elim
      obtain ⟨p2,t,hp2,ht,rfl,rfl⟩:=z
      (simp only [Yj,give,List.set_cons_zero,List.set_cons_succ])
      (repeat' walk_at "vs1")
      · omega
      (simp only [Yj,give,List.set_cons_zero,List.set_cons_succ])
      have e2 : Yh ps ++ [D.tup [.str ("mark" : Str),.str t]] = Yh (ps ++ [.mk t]):=by simp [Yh,Pc.d]
      rw [e2]
      refine hR _ _ _ rfl ⟨p2,_,hp2,⟨by rw [Mr,hd]; simpa [We] using hys,fun q hq=>?_,by simp; omega⟩,rfl,rfl⟩
      rcases List.mem_append.mp hq with hq | hq
      · exact hm q hq
      · exact .inr ⟨t,by simpa using hq,ht⟩
    · exact hR _ _ _ rfl ⟨_,_,by assumption,⟨by rw [hd]; exact hys,hm,by omega⟩,rfl,rfl⟩
  · rintro x r ρ ⟨p,ds,ps,o,hp,e,hd,hm,hn,rfl⟩ K ih
    refine ⟨trivial,?_⟩
    have hyd:=congrArg List.length e
    simp only [List.length_append,List.length_cons] at hyd
    have hpl : (Yh ps).length ≤ 100:=by simp only [Yh,List.length_map]; omega
    have fin : ∀ p qs,Yo p → We qs = [] → (∀ p ∈ qs,(∃ f,p = Pc.fd f) ∨ ∃ t,p = .mk t ∧ MkT sg most t) → qs.length ≤ 1 → K [some p,some (.v (.str w.s)),some (.v (.str sg)),some (.v (.int often)),some (.v (.int most)),some (.lst (Yh (ps ++ qs ++ [.fd x]))),none]:=fun p qs hp hd2 hm2 hn2=>by
      refine ih _ ⟨p,ds ++ [x],_,_,hp,by rw [e]; simp,?_,fun q hq=>?_,?_,rfl⟩
      · rw [Mr,Mr,hd,hd2]
        simp [We]
      · rcases List.mem_append.mp hq with hq | hq
        · rcases List.mem_append.mp hq with hq | hq
          · exact hm q hq
          · exact hm2 q hq
        · exact .inl ⟨x,by simpa using hq⟩
      · simp only [List.length_append,List.length_cons,List.length_nil]
        omega
    unfold bdZ0hn1
    (repeat' first|((with_reducible apply Uy);rfl;assumption;(first|assumption|decide|omega);(first|assumption|decide|omega);intro zz pp hz0 hz1 hpp)|walk_at "vs1")
    · refine Wl (JJ8 rfl rfl rfl) (Co (by assumption) h0 h1 s0 s1) (fun r o z=>?_) fun _ _ _ z=>z.elim
      obtain ⟨p2,t,hp2,ht,rfl,rfl⟩:=z
      (simp only [Yj,give,List.set_cons_zero,List.set_cons_succ])
      (repeat' walk_at "vs1")
      · omega
      · rw [List.length_append]
        simp only [List.length_cons,List.length_nil]
        omega
      have e2 : Yh ps ++ [D.tup [.str ("mark" : Str),.str t]] ++ [D.tup [.str ("field" : Str),.str x]] = Yh (ps ++ [.mk t] ++ [.fd x]):=by simp [Yh,Pc.d]
      rw [e2]
      exact fin p2 [.mk t] hp2 rfl (fun q hq=>.inr ⟨t,by simpa using hq,ht⟩) (by simp)
    · omega
    · (simp only [Yj,give,List.set_cons_zero,List.set_cons_succ])
      have e2 : Yh ps ++ [D.tup [.str ("field" : Str),.str x]] = Yh (ps ++ [] ++ [.fd x]):=by simp [Yh,Pc.d]
      rw [e2]
      exact fin _ [] (by assumption) rfl (fun _ h=>nomatch h) (by simp)
end
def gmk (t : Str) : Bool:=decide (1 ≤ t.length) && decide (t.length ≤ 6) && t.cps.toList.all fun c=>decide (32 ≤ c) && decide (c ≤ 126)
def Hh : D → Bool
  | .str t=>gmk t
  | _=>false
def Pc.ok (fs : List Str) : Pc → Bool
  | .mk t=>gmk t
  | .fd f=>decide (f ∈ fs)
  | .ot _=>false
/-- what is no piece -/
def otL : List D:=[.non,.bl true,.int 3,.str ("id" : Str),.tup [.str ("mark" : Str),.int 5],.lst [.str ("mark" : Str),.str ("a" : Str)],.tup [.str ("mark" : Str),.str ("a" : Str),.str ("b" : Str)],.tup [.str ("field" : Str),.non],.tup [.str ("field" : Str),.lst [.str ("id" : Str)]],.tup [.str ("field" : Str)],.tup [],.tup [.str ("Mark" : Str),.str ("a" : Str)],.tup [.non,.str ("a" : Str)],.dic [(.inr ("mark" : Str),.str ("a" : Str))],.tup [.str ("mark" : Str),.non]]
def Pc.Ok : Pc → Prop
  | .mk t=>t.length ≤ 1000
  | .fd f=>f.length ≤ 1000
  | .ot d=>d ∈ otL
section
variable {EA : AX} {ρ ρ' : J0} {Q : AK} {DA : AEnds} {g : Gm} [Gok g]
theorem JKf {xs : List D} {d : D} {x y : A} (h1 : dat x ρ = some d) (h2 : dat y ρ = some (.tup xs)) (h3 : PlD 20 d) (h4 : ∀ z ∈ xs,PlD 20 z) (k : Q (.v (.bl (xs.any fun z=>deq z d))) ρ) : aIn false x y ρ Q:=⟨d,_,_,h1,h2,⟨h3,h4,rfl⟩,k⟩
theorem JNg {xs : List D} {d : D} {x y : A} (h1 : dat x ρ = some d) (h2 : dat y ρ = some (.tup xs)) (h3 : PlD 20 d) (h4 : ∀ z ∈ xs,PlD 20 z) (k : Q (.v (.bl (!xs.any fun z=>deq z d))) ρ) : aIn true x y ρ Q:=⟨d,_,_,h1,h2,⟨h3,h4,rfl⟩,k⟩
theorem Mh (ns : List Str) : ∀ z ∈ Yb ns,PlD 20 z:=fun z hz=>by
  obtain ⟨n,_,rfl⟩:=List.mem_map.mp hz
  exact G2
theorem JKz {ns : List Str} {y : Str} : ((Yb ns).any fun z=>deq z (.str y)) = decide (y ∈ ns):=by
  rw [Bool.eq_iff_iff,decide_eq_true_eq]
  simp only [Yb,List.any_map,List.any_eq_true,Function.comp]
  constructor
  · rintro ⟨x,hx,h⟩
    have : x = y:=by simpa [Zj] using h
    exact this ▸ hx
  · intro h
    exact ⟨y,h,by simp [Zj]⟩
theorem JG8 {d : D} (hd : (tyN d).isSome = true) (hs : ∀ x,d = .str x → x.length ≤ 1000) : Val (SZ04 g) [.v d] (fun r=>r = .v (.bl (Hh d))):=fnP rfl fun DA hR hN hX=>by
  show asZ04 g.K DA [some (.v d),none]
  unfold asZ04
  cases d with
  | str x =>
    have hl : x.length ≤ 100000:=by have:=hs x rfl; omega
    have hln : Ue (.str x) = some x.length:=by simp only [Ue,if_pos hl]
    (repeat' walk_at "vs1")
    · refine hR _ _ _ rfl ⟨rfl,?_⟩
      simp [Hh,gmk] at hif ⊢
      omega
    · unfold rsZ04n2
      (repeat' walk_at "vs1")
      refine ⟨Vz x,rfl,Bj rfl,Fq (fun _=>true) (fun z=>.bl (match z with
        | .str y=>y.cps.toList.all fun c=>decide (32 ≤ c) && decide (c ≤ 126)
        | _=>false)) trivial (by simpa [Vz,Str.length] using hl) (fun z hz R N hR' hN'=>?_) ?_⟩
      · obtain ⟨c,hc,rfl⟩:=List.mem_map.mp hz
        (repeat' walk_at "vs1")
        · have h32 : 32 ≤ c:=by
            simp at hif
            omega
          have e : (D.bl (decide (((⟨#[c]⟩ : Str).cps.getD 0 0 : Nat) ≤ (126 : Int)))) = D.bl ((⟨#[c]⟩ : Str).cps.toList.all fun c=>decide (32 ≤ c) && decide (c ≤ 126)):=by simp [h32]; omega
          exact e ▸ hR' _ rfl rfl
        · have h32 : ¬ 32 ≤ c:=by
            simp at hif
            omega
          have e : D.bl false = D.bl ((⟨#[c]⟩ : Str).cps.toList.all fun c=>decide (32 ≤ c) && decide (c ≤ 126)):=by simp [h32]
          rw [e]
          exact hR' _ rfl rfl
      · rw [Hy]
        (repeat' walk_at "vs1")
        refine Fp (bs:=x.cps.toList.map fun c=>decide (32 ≤ c) && decide (c ≤ 126)) ?_ ?_
        · simp [Vz,dat,Function.comp_def,A.toD]
        · (repeat' walk_at "vs1")
          refine hR _ _ _ rfl ⟨rfl,?_⟩
          rename_i hif1
          simp at hif hif1
          have a1 : 1 ≤ x.length:=by omega
          have a2 : x.length ≤ 6:=by omega
          simp [Hh,gmk,a1,a2,List.all_map,Function.comp_def]
    · refine hR _ _ _ rfl ⟨rfl,?_⟩
      simp at hif
      have a1 : ¬1 ≤ x.length:=by omega
      simp only [Hh,gmk,a1,decide_false,Bool.false_and]
  | ty n=>cases hd
  | obj C fs=>cases hd
  | any=>cases hd
  | _ =>
    (repeat' walk_at "vs1")
    exact hR _ _ _ rfl ⟨rfl,rfl⟩
theorem Qi {d : D} (hd : (tyN d).isSome = true) (hs : ∀ x,d = .str x → x.length ≤ 1000) (k : Q (.v (.bl (Hh d))) ρ) : U1 (SZ04 g) [.v d] EA ρ Q:=Wt rfl (JG8 hd hs) fun r e=>by subst e; exact k
theorem JXc {p : Pc} {fs : List Str} (hp : p.Ok) : Val (SZ0m g) [.v p.d,.v (.tup (Yb fs))] (fun r=>r = .v (.bl (p.ok fs))):=fnP rfl fun DA hR hN hX=>by
  show asZ0m g.K _ DA [some (.v p.d),some (.v (.tup (Yb fs)))]
  cases p with
  | mk t =>
    have h0 : itD (.tup [.str ("mark" : Str),.str t]) (.int 0) = some (.str ("mark" : Str)):=rfl
    have h1 : itD (.tup [.str ("mark" : Str),.str t]) (.int 1) = some (.str t):=rfl
    unfold asZ0m Pc.d
    (repeat' walk_at "vs1")
    unfold rsZ0mn2
    (repeat' walk_at "vs1")
    refine Qi rfl (fun x e=>by cases e; exact hp) ?_
    (repeat' walk_at "vs1")
    exact hR _ _ _ rfl ⟨rfl,rfl⟩
  | fd f =>
    have h0 : itD (.tup [.str ("field" : Str),.str f]) (.int 0) = some (.str ("field" : Str)):=rfl
    have h1 : itD (.tup [.str ("field" : Str),.str f]) (.int 1) = some (.str f):=rfl
    unfold asZ0m Pc.d
    (repeat' walk_at "vs1")
    unfold rsZ0mn2
    (repeat' walk_at "vs1")
    unfold rsZ0mn3
    (repeat' walk_at "vs1")
    refine JKf Jh Jh G2 (Mh fs) ?_
    rw [JKz]
    (repeat' walk_at "vs1")
    exact hR _ _ _ rfl ⟨rfl,rfl⟩
  | ot d =>
    have hd : d ∈ otL:=hp
    show asZ0m g.K _ DA [some (.v d),some (.v (.tup (Yb fs)))]
    have e : (Pc.ot d).ok fs = false:=rfl
    rw [e] at hR
    clear e hp
    have hR' : ∀ ρ,fin [0,1] 0 [.v d,.v (.tup (Yb fs))] ρ = some [.v d,.v (.tup (Yb fs))] → DA.rt (.v (.bl false)) ρ:=fun ρ h=>hR _ _ _ h ⟨rfl,rfl⟩
    clear hR
    unfold asZ0m rsZ0mn2 rsZ0mn3
    simp only [otL,List.mem_cons,List.not_mem_nil,or_false] at hd
    rcases hd with rfl | rfl | rfl | rfl | rfl | rfl | rfl | rfl | rfl | rfl | rfl | rfl | rfl | rfl | rfl
    all_goals
      (repeat' walk_at "vs1")
      all_goals first
        | exact hR' _ rfl
        | (refine Qi rfl (fun x e=>nomatch e) ?_
           (repeat' walk_at "vs1")
           exact hR' _ rfl)
        | (exfalso; revert hif; decide)
        | trace_state
end
/-- what is handed over as a shape -/
inductive Sh where
  | l (ps : List Pc) | t (ps : List Pc) | o (d : D)
def Sh.d : Sh → D
  | .l ps=>.lst (Yh ps)
  | .t ps=>.tup (Yh ps)
  | .o d=>d
def Sh.a : Sh → A
  | .l ps=>.lst (Yh ps)
  | .t ps=>.v (.tup (Yh ps))
  | .o d=>.v d
def shL : List D:=[.non,.str ("id" : Str),.dic [],.int 7]
def Sh.Ok : Sh → Prop
  | .l ps=>ps.length ≤ 1000 ∧ ∀ p ∈ ps,p.Ok
  | .t ps=>ps.length ≤ 1000 ∧ ∀ p ∈ ps,p.Ok
  | .o d=>d ∈ shL
def W5 (fs : List Str) (ps : List Pc) : Bool:=decide (1 ≤ ps.length) && decide (ps.length ≤ 15) && ps.all (Pc.ok fs) && decide ((We ps).mergeSort sle = fs.mergeSort sle)
def Sh.ok (fs : List Str) : Sh → Bool
  | .l ps=>W5 fs ps
  | .t ps=>W5 fs ps
  | .o _=>false
theorem sort_iff {xs ys : List Str} : xs.mergeSort sle = ys.mergeSort sle ↔ xs.Perm ys :=
  ⟨fun h=>(List.mergeSort_perm xs sle).symm.trans (h ▸ List.mergeSort_perm ys sle),fun h=>JH8 (((List.mergeSort_perm xs sle).trans h).trans (List.mergeSort_perm ys sle).symm) (PySem.W.sort_pairwise T5 xs) (PySem.W.sort_pairwise T5 ys)⟩
theorem Dz {i j : Nat} {ρ : J0} (h : ρ[i]? = some none) (h2 : ρ[j]? = some none) : W6 [i,j] ρ:=fun v hv=>by
  rcases List.mem_cons.mp hv with e | hv
  · subst e
    exact h
  · have e : v = j:=by simpa using hv
    subst e
    exact h2
theorem JYi (rs : List Str) : PySem.W.Sortable ((rs.map D.str).map pd):=by
  refine .inr fun a ha=>?_
  simp only [List.map_map,List.mem_map,Function.comp] at ha
  obtain ⟨x,_,rfl⟩:=ha
  exact ⟨(fun e=>by simp [pd] at e),(fun xs e=>by simp [pd] at e)⟩
def F5 : Pc → Bool
  | .fd _=>true
  | _=>false
def Pc.nm : Pc → Str
  | .fd f=>f
  | _=>""
theorem Kf : ∀ ps : List Pc,(ps.filter F5).map (fun p=>D.str p.nm) = Yb (We ps)
  | []=>rfl
  | .mk t :: ps=>by
    have:=Kf ps
    simpa [F5,We,Yb] using this
  | .fd t :: ps=>by
    have:=Kf ps
    have e : (Pc.fd t :: ps).filter F5 = Pc.fd t :: ps.filter F5:=List.filter_cons_of_pos rfl
    rw [e,List.map_cons,this]
    rfl
  | .ot t :: ps=>by
    have:=Kf ps
    simpa [F5,We,Yb] using this
theorem JKa {a b : List Str} : deq (.lst (Yb a)) (.lst (Yb b)) = decide (a = b):=by
  show Zd _ _ = _
  induction a generalizing b with
  | nil=>cases b <;> rfl
  | cons x a ih =>
    cases b with
    | nil=>rfl
    | cons y b =>
      show (deq (.str x) (.str y) && Zd (Yb a) (Yb b)) = _
      rw [ih,Zj]
      simp
section
variable {EA : AX} {ρ ρ' : J0} {Q : AK} {DA : AEnds} {g : Gm} [Gok g]
theorem JNx {d : D} (hd : (tyN d).isSome = true) : Val (SZ0r g) [.v d] (fun r=>r = .v (.bl (Ui d "list" || Ui d "tuple"))):=fnP rfl fun DA hR hN hX=>by
  show asZ0r g.K DA [some (.v d)]
  unfold asZ0r
  (repeat' walk_at "vs1")
  exact hR _ _ _ rfl ⟨rfl,rfl⟩
theorem Ep {d : D} (hd : (tyN d).isSome = true) (k : Q (.v (.bl (Ui d "list" || Ui d "tuple"))) ρ) : U1 (SZ0r g) [.v d] EA ρ Q:=Wt rfl (JNx hd) fun r e=>by subst e; exact k
theorem JKo {p : Pc} {d : D} {fs : List Str} (hd : d = p.d) (hp : p.Ok) (k : Q (.v (.bl (p.ok fs))) ρ) : U1 (SZ0m g) [.v d,.v (.tup (Yb fs))] EA ρ Q:=by
  subst hd
  exact Wt rfl (JXc hp) fun r e=>by subst e; exact k
theorem Ee {ps : List Pc} {d : D} {fs : List Str} (hs : X6 d = some (Yh ps)) (hl : Ue d = some ps.length) (hr : (Ui d "list" || Ui d "tuple") = true) (ht : (tyN d).isSome = true) (h0 : ps.length ≤ 1000) (hp : ∀ p ∈ ps,p.Ok) : Val (SZ0p g) [.v d,.v (.tup (Yb fs))] (fun r=>r = .v (.bl (W5 fs ps))):=fnP rfl fun DA hR hN hX=>by
  have hR' : ∀ b ρ,fin [0,1] 0 [.v d,.v (.tup (Yb fs))] ρ = some [.v d,.v (.tup (Yb fs))] → b = W5 fs ps → DA.rt (.v (.bl b)) ρ:=fun b ρ h e=>hR _ _ _ h ⟨rfl,by rw [e]⟩
  clear hR
  show asZ0p _ _ DA [some (.v d),some (.v (.tup (Yb fs))),none,none,none]
  unfold asZ0p
  (repeat' walk_at "vs1")
  refine Ep ht ?_
  rw [hr]
  (repeat' walk_at "vs1")
  · refine hR' _ _ rfl ?_
    simp at hif
    have : ¬ ps.length ≤ 15:=by omega
    simp [W5,this]
  · unfold rsZ0pn2
    (repeat' walk_at "vs1")
    refine ⟨Yh ps,hs,Bj rfl,Ss Pc.d (fun _=>true) (fun p=>.bl (p.ok fs)) (xs:=ps) trivial (by omega) (fun p hpm R N hR2 hN2=>?_) ?_⟩
    · (repeat' walk_at "vs1")
      refine JKo rfl (hp p hpm) ?_
      (repeat' walk_at "vs1")
      exact hR2 _ rfl rfl
    · have e : (ps.filter fun _=>true) = ps:=List.filter_eq_self.mpr fun _ _=>rfl
      rw [e]
      (repeat' walk_at "vs1")
      refine Fp (bs:=ps.map fun p=>p.ok fs) (by simp [dat,Function.comp_def,A.toD]) ?_
      (repeat' walk_at "vs1")
      · refine hR' _ _ rfl ?_
        have e2 : ps.all (Pc.ok fs) = false:=by
          simp only [List.all_map,Bool.not_eq_true'] at hif
          exact hif
        simp [W5,e2]
      · have hall : ∀ p ∈ ps,p.ok fs = true:=by
          simp only [List.all_map,Bool.not_eq_true',Bool.not_eq_false] at hif
          exact List.all_eq_true.mp hif
        unfold rsZ0pn3
        (repeat' walk_at "vs1")
        refine ⟨Yh ps,hs,Dz rfl rfl,Ss Pc.d F5 (fun p=>.str p.nm) (xs:=ps) trivial (by omega) (fun p hpm R N hR2 hN2=>?_) ?_⟩
        · have hpo:=hall p hpm
          cases p with
          | ot d=>cases hpo
          | mk t =>
            unfold Pc.d
            (repeat' walk_at "vs1")
            exact hN2 _ rfl rfl
          | fd f =>
            unfold Pc.d
            (repeat' walk_at "vs1")
            exact hR2 _ rfl rfl
        · rw [Kf]
          (repeat' walk_at "vs1")
          refine JP9 Jj (Mh _) (JZt _) (JYi _) ?_
          (repeat' walk_at "vs1")
          refine JPg Jh (Mh _) (JZt _) (JYi _) ?_
          rw [Yb,Yb,JU2,JU2]
          have pl : ∀ xs : List Str,PlD 20 (.lst (xs.map D.str)):=fun xs z hz=>by
            obtain ⟨n,_,rfl⟩:=List.mem_map.mp hz
            trivial
          refine Od Jj Jj (pl _) (pl _) ?_
          rw [← Yb,← Yb,JKa]
          (repeat' walk_at "vs1")
          refine hR' _ _ rfl ?_
          rename_i g1 g2
          simp at g1 g2
          have a1 : 1 ≤ ps.length:=by omega
          have a2 : ps.length ≤ 15:=by omega
          have a3 : ps.all (Pc.ok fs) = true:=List.all_eq_true.mpr hall
          simp only [W5,a1,a2,a3,decide_true,Bool.true_and]
  · refine hR' _ _ rfl ?_
    simp at hif
    have : ¬ 1 ≤ ps.length:=by omega
    simp [W5,this]
theorem TZ0p {s : Sh} {fs : List Str} (hs : s.Ok) : Val (SZ0p g) [.v s.d,.v (.tup (Yb fs))] (fun r=>r = .v (.bl (s.ok fs))):=by
  cases s with
  | l ps=>exact Ee rfl (by simp [Ue,Sh.d,Yh]) rfl rfl hs.1 hs.2
  | t ps=>exact Ee rfl (by simp [Ue,Sh.d,Yh]) rfl rfl hs.1 hs.2
  | o d =>
    refine fnP rfl fun DA hR hN hX=>?_
    have hR' : ∀ ρ,fin [0,1] 0 [.v d,.v (.tup (Yb fs))] ρ = some [.v d,.v (.tup (Yb fs))] → DA.rt (.v (.bl false)) ρ:=fun ρ h=>hR _ _ _ h ⟨rfl,rfl⟩
    clear hR
    have hd : d ∈ shL:=hs
    show asZ0p _ _ DA [some (.v d),some (.v (.tup (Yb fs))),none,none,none]
    unfold asZ0p
    simp only [shL,List.mem_cons,List.not_mem_nil,or_false] at hd
    rcases hd with rfl | rfl | rfl | rfl
    all_goals
      (repeat' walk_at "vs1")
      refine Ep rfl ?_
      (repeat' walk_at "vs1")
      exact hR' _ rfl
end
def Sh.ps : Sh → List Pc
  | .l ps=>ps
  | .t ps=>ps
  | .o _=>[]
abbrev Shs:=Wd → Sh
def X4 (S : Shs) : List (Key × D):=[(.inr ("row" : Str),(S .row).d),(.inr ("fix" : Str),(S .fix).d),(.inr ("gone" : Str),(S .gone).d)]
def fmK (F : Wd → List Pc) : List (Key × D):=[(.inr ("row" : Str),.tup (Yh (F .row))),(.inr ("fix" : Str),.tup (Yh (F .fix))),(.inr ("gone" : Str),.tup (Yh (F .gone)))]
def Lc (F : Wd → List Pc) : List (Str × A):=[("_shapes",.v (.dic (fmK F)))]
def V4 (C : Addr) (F : Wd → List Pc) : D:=.obj C [("_shapes",.dic (fmK F))]
def Shs.ps (S : Shs) : Wd → List Pc:=fun w=>(S w).ps
/-- the first word whose shape is none -/
def Zx (S : Shs) : Option Wd:=if (S .row).ok Wd.row.fs = false then some .row else if (S .fix).ok Wd.fix.fs = false then some .fix else if (S .gone).ok Wd.gone.fs = false then some .gone else none
theorem JVq (S : Shs) (w : Wd) : itD (.dic (X4 S)) (.str w.s) = some (S w).d:=by cases w <;> rfl
theorem JUs (w : Wd) : T_FIELDS.lookup w.s = some (Yb w.fs):=by cases w <;> rfl
def Vl : List Wd:=[.row,.fix,.gone]
section
variable {EA : AX} {ρ ρ' : J0} {Q : AK} {DA : AEnds} {g : Gm} [Gok g]
theorem kZ0p {s : Sh} {d : D} {fs : List Str} {ds : List D} (hd : d = s.d) (he : ds = Yb fs) (hs : s.Ok) (k : Q (.v (.bl (s.ok fs))) ρ) : U1 (SZ0p g) [.v d,.v (.tup ds)] EA ρ Q:=by
  subst hd he
  exact Wt rfl (TZ0p hs) fun r e=>by subst e; exact k
theorem JBx {s : Sh} {fs : List Str} {ρ : J0} {Q : AK} (hw : s.ok fs = true) (k : Q (.v (.tup (Yh s.ps))) ρ) : Xw [.v s.d] ρ Q:=by
  cases s with
  | o d=>cases hw
  | l ps=>exact P2 Jh k
  | t ps=>exact Mw Jh k
theorem JHl {S : Shs} (hok : ∀ w,(S w).ok w.fs = true) {o5 : Option A} (k : ∀ o5 ρ,ρ = [some (.obj g.J9 (Lc S.ps)),some (.v (S .row).d),some (.v (S .fix).d),some (.v (S .gone).d),some (.v (.dic (X4 S))),o5] → DA.nx ρ) : rsZ02n3 g.J9 g.Jm (SZ0p g) DA [some (.obj g.J9 []),some (.v (S .row).d),some (.v (S .fix).d),some (.v (S .gone).d),some (.v (.dic (X4 S))),o5]:=by
  unfold rsZ02n3
  (repeat' walk_at "vs1")
  refine ⟨wdsD,rfl,Bj rfl,Nk (W:=fun acc r ρ=>ρ = [some (.obj g.J9 []),some (.v (S .row).d),some (.v (S .fix).d),some (.v (S .gone).d),some (.v (.dic (X4 S))),none] ∧ ∃ dn rs : List Wd,Vl = dn ++ rs ∧ r = rs.map (fun w=>D.str w.s) ∧ acc = dn.map fun w=>(.inr w.s,D.tup (Yh (S w).ps))) (fun acc ρ ⟨e,zs,rs,h1,h2,h3⟩=>?_) (fun acc x r ρ ⟨e,zs,rs,h1,h2,h3⟩ ih=>?_) _ _ _ ⟨rfl,[],Vl,rfl,rfl,rfl⟩⟩
  · subst e h3
    have : rs = []:=by cases rs with
      | nil=>rfl
      | cons _ _=>simp at h2
    subst this
    rw [List.append_nil] at h1
    subst h1
    refine ⟨trivial,?_⟩
    (repeat' walk_at "vs1")
    exact k _ _ rfl
  · subst e h3
    cases rs with
    | nil=>cases h2
    | cons w rs =>
      simp only [List.map_cons,List.cons.injEq] at h2
      obtain ⟨rfl,rfl⟩:=h2
      refine ⟨trivial,?_⟩
      have hat:=JVq S w
      have hput : putD (zs.map fun w=>((.inr w.s : Key),D.tup (Yh (S w).ps))) (.inr w.s) (.tup (Yh (S w).ps)) = (zs ++ [w]).map fun w=>(.inr w.s,D.tup (Yh (S w).ps)):=by
        have hz : zs = [] ∧ w = .row ∨ zs = [.row] ∧ w = .fix ∨ zs = [.row,.fix] ∧ w = .gone:=by
          rcases zs with _ | ⟨z1,_ | ⟨z2,_ | ⟨z3,z4⟩⟩⟩ <;> simp [Vl] at h1 ⊢ <;> simp [h1]
        rcases hz with ⟨rfl,rfl⟩ | ⟨rfl,rfl⟩ | ⟨rfl,rfl⟩ <;> rfl
      have hzl : (zs.map fun w=>((.inr w.s : Key),D.tup (Yh (S w).ps))).length ≤ 100000:=by
        have:=congrArg List.length h1
        simp [Vl] at this
        simp
        omega
      have hw:=hok w
      (repeat' walk_at "vs1")
      refine JBx hw ?_
      (repeat' walk_at "vs1")
      refine ⟨.str w.s,.inr w.s,rfl,rfl,hzl,?_⟩
      rw [hput]
      exact ih _ _ ⟨rfl,zs ++ [w],rs,by rw [h1]; simp,rfl,rfl⟩
theorem JB4 {S : Shs} (hO : ∀ w,(S w).Ok) {o5 : Option A} (k : Zx S = none → ∀ o5 ρ,ρ = [some (.obj g.J9 (Lc S.ps)),some (.v (S .row).d),some (.v (S .fix).d),some (.v (S .gone).d),some (.v (.dic (X4 S))),o5] → DA.nx ρ)
    (kx : ∀ w,Zx S = some w → ∀ ρ o4 o5,ρ = [some (.obj g.J9 []),some (.v (S .row).d),some (.v (S .fix).d),some (.v (S .gone).d),o4,o5] → DA.ex g.Jm [("value",.str w.s)] ρ) : rsZ02n2 g.J9 g.Jm (SZ0p g) DA [some (.obj g.J9 []),some (.v (S .row).d),some (.v (S .fix).d),some (.v (S .gone).d),some (.v (.dic (X4 S))),o5]:=by
  unfold rsZ02n2
  (repeat' walk_at "vs1")
  refine ⟨wdsD,rfl,?_⟩
  refine Xj (fun w : Wd=>D.str w.s) (fun r ρ=>∃ dn o,Vl = dn ++ r ∧ (∀ w ∈ dn,(S w).ok w.fs = true) ∧ ρ = [some (.obj g.J9 []),some (.v (S .row).d),some (.v (S .fix).d),some (.v (S .gone).d),some (.v (.dic (X4 S))),o]) ?_ ?_ Vl _ ⟨[],_,rfl,(fun _ h=>nomatch h),rfl⟩
  · rintro ρ ⟨dn,o,e,hd,rfl⟩
    refine ⟨trivial,?_⟩
    rw [List.append_nil] at e
    subst e
    have hall : ∀ w,(S w).ok w.fs = true:=fun w=>hd w (by cases w <;> simp [Vl])
    refine JHl hall fun o5 ρ e=>k ?_ _ _ e
    unfold Zx
    rw [if_neg (by rw [hall]; simp),if_neg (by rw [hall]; simp),if_neg (by rw [hall]; simp)]
  · rintro w r ρ ⟨dn,o,e,hd,rfl⟩ K ih
    refine ⟨trivial,?_⟩
    have hat:=JVq S w
    have hft:=JUs w
    unfold bdZ02n1
    (repeat' walk_at "vs1")
    refine JUo ?_
    (repeat' walk_at "vs1")
    refine ⟨w.s,Yb w.fs,rfl,hft,?_⟩
    (repeat' walk_at "vs1")
    refine kZ0p rfl rfl (hO w) ?_
    (repeat' walk_at "vs1")
    · refine kx w ?_ _ _ _ rfl
      have hw : (S w).ok w.fs = false:=by simpa using hif
      have hz : dn = [] ∧ w = .row ∨ dn = [.row] ∧ w = .fix ∨ dn = [.row,.fix] ∧ w = .gone:=by
        rcases dn with _ | ⟨z1,_ | ⟨z2,_ | ⟨z3,z4⟩⟩⟩ <;> simp [Vl] at e ⊢ <;> simp [e]
      unfold Zx
      rcases hz with ⟨rfl,rfl⟩ | ⟨rfl,rfl⟩ | ⟨rfl,rfl⟩
      · rw [if_pos hw]
      · rw [if_neg (by rw [hd .row (by simp)]; simp),if_pos hw]
      · rw [if_neg (by rw [hd .row (by simp)]; simp),if_neg (by rw [hd .fix (by simp)]; simp),if_pos hw]
    · refine ih _ ⟨dn ++ [w],_,by rw [e]; simp,fun x hx=>?_,rfl⟩
      rcases List.mem_append.mp hx with hx | hx
      · exact hd x hx
      · have : x = w:=by simpa using hx
        rw [this]
        simpa using hif
/-- what the makers hand over -/
def M3 (S : Shs) : List A:=[.v (S .row).d,.v (S .fix).d,.v (S .gone).d]
theorem O6 {S : Shs} (hO : ∀ w,(S w).Ok) : Sat (SZ02 g) (.obj g.J9 [] :: M3 S) (fun r o=>Zx S = none ∧ r = .v .non ∧ o = .obj g.J9 (Lc S.ps) :: M3 S) (fun C fs o=>∃ w,Zx S = some w ∧ C = g.Jm ∧ fs = [(("value" : Str),D.str w.s)] ∧ o = .obj g.J9 [] :: M3 S):=fnP rfl fun DA hR hN hX=>by
  show asZ02 g.J9 g.Jm _ DA [some (.obj g.J9 []),some (.v (S .row).d),some (.v (S .fix).d),some (.v (S .gone).d),none,none]
  unfold asZ02
  (repeat' walk_at "vs1")
  have em : Kc [(Sum.inr ("row" : Str),(S .row).d),(Sum.inr ("fix" : Str),(S .fix).d),(Sum.inr ("gone" : Str),(S .gone).d)] = X4 S:=rfl
  rw [em]
  refine JB4 hO (fun hb o5 ρ e=>?_) fun w hb ρ o4 o5 e=>?_
  · subst e
    exact hN _ _ rfl ⟨hb,rfl,rfl⟩
  · subst e
    exact hX _ _ _ _ rfl ⟨w,hb,rfl,rfl,rfl⟩
end
theorem JNp (F : Wd → List Pc) (w : Wd) : itD (.dic (fmK F)) (.str w.s) = some (.tup (Yh (F w))):=by cases w <;> rfl
/-- the pieces of a form -/
def FOk (F : Wd → List Pc) : Prop:=∀ w,W5 w.fs (F w) = true
theorem FOk.pc {F : Wd → List Pc} (h : FOk F) {w : Wd} {p : Pc} (hp : p ∈ F w) : p.ok w.fs = true:=by
  have:=h w
  simp only [W5,Bool.and_eq_true,List.all_eq_true] at this
  exact this.1.2 p hp
theorem FOk.len {F : Wd → List Pc} (h : FOk F) (w : Wd) : 1 ≤ (F w).length ∧ (F w).length ≤ 15:=by
  have:=h w
  simp only [W5,Bool.and_eq_true,decide_eq_true_eq] at this
  exact this.1.1
section
variable {EA : AX} {ρ ρ' : J0} {Q : AK} {DA : AEnds} {g : Gm} [Gok g]
theorem JMd {F : Wd → List Pc} {w : Wd} : Val (SZ0i g) [.v (V4 g.J9 F),.v (.str w.s)] (fun r=>r = .v (.tup (Yh (F w)))):=fnP rfl fun DA hR hN hX=>by
  have cl:=Gok.N5 (g:=g)
  show asZ0i g.K g.J9 g.Jm DA [some (.v (V4 g.J9 F)),some (.v (.str w.s))]
  have hat:=JNp F w
  have hin : (wdsD.any fun z=>deq z (.str w.s)) = true:=by cases w <;> rfl
  have hpl : ∀ z ∈ wdsD,PlD 20 z:=fun z hz=>by
    simp only [wdsD,List.mem_cons,List.not_mem_nil,or_false] at hz
    rcases hz with rfl | rfl | rfl <;> trivial
  unfold wdsD at hin hpl
  unfold asZ0i V4
  (repeat' walk_at "vs1")
  refine JNg Jh Jh G2 hpl ?_
  rw [hin]
  (repeat' walk_at "vs1")
  unfold rsZ0in2
  (repeat' walk_at "vs1")
  exact hR _ _ _ rfl ⟨rfl,rfl⟩
theorem JKr {F : Wd → List Pc} {w : Wd} {s : Str} (hs : s = w.s) (k : Q (.v (.tup (Yh (F w)))) ρ) : U1 (SZ0i g) [.v (V4 g.J9 F),.v (.str s)] EA ρ Q:=by
  subst hs
  exact Wt rfl JMd fun r e=>by subst e; exact k
end
section
variable {EA : AX} {ρ ρ' : J0} {Q : AK}  {g : Gm}
theorem JL7 {i : Nat} {ρ : J0} (h : ρ[i]? = some none) : W6 [i] ρ:=fun v hv=>by
  have e : v = i:=by simpa using hv
  subst e
  exact h
def Ug : D → Bool
  | .int _=>true
  | _=>false
def Wh (d : D) : List A:=[.v d]
def okT (d : D) : Prop:=(tyN d).isSome = true
theorem JLe : ∀ d,okT d → Fn (SZ0b g) (Wh d) (.rt (.v (.bl (Ug d)))) (Wh d):=fun d hd=>fnI rfl fun DA hR hN hX=>by
  have hd' : (tyN d).isSome = true:=hd
  show asZ0b g.K _ [some (.v d)]
  unfold asZ0b
  (repeat' walk_at "vs1")
  all_goals (refine hR _ _ rfl (congrArg (fun b=>RX.rt (.v (.bl b))) ?_); cases d <;> first | (cases hd'; done) | rfl | (simp only [Ui] at hif; exact absurd hif (by decide)))
def JV0 (ys : List D) : List A:=[.v (.tup ys)]
def Uz : D → Bool
  | .str x=>V8 x
  | _=>false
def okN (d : D) : Prop:=(tyN d).isSome = true ∧ ∀ x,d = .str x → x.length ≤ 100000
theorem JL8 : ∀ d,okN d → Fn (SZ0q g) (Wh d) (.rt (.v (.bl (Uz d)))) (Wh d):=fun d ⟨hd,hs⟩=>fnI rfl fun DA hR hN hX=>by
  show asZ0q g.K _ [some (.v d),none]
  unfold asZ0q
  cases d with
  | str x =>
    have hl : x.length ≤ 100000:=hs x rfl
    have hln : Ue (.str x) = some x.length:=by simp only [Ue,if_pos hl]
    (repeat' walk_at "vs1")
    · refine hR _ _ rfl ?_
      simp [Uz,V8] at hif ⊢
      simp_all
      omega
    · show rsZ0qn2 g.K _ _
      unfold rsZ0qn2
      (repeat' walk_at "vs1")
      refine ⟨Vz x,rfl,JL7 rfl,Fq (fun _=>true) (fun z=>.bl (match z with
        | .str y=>y.cps.toList.all fun c=>decide (c ∈ lets.cps.toList)
        | _=>false)) trivial (by simpa [Vz,Str.length] using hl) (fun z hz R N hR' hN'=>?_) ?_⟩
      · obtain ⟨c,hc,rfl⟩:=List.mem_map.mp hz
        (repeat' walk_at "vs1")
        refine JPe Jh Jh ?_
        (repeat' walk_at "vs1")
        have e2 : (D.bl (decide (c ∈ (Str.ofString "abcdefghijklmnopqrstuvwxyz").cps.toList))) = D.bl ((⟨#[c]⟩ : Str).cps.toList.all fun c=>decide (c ∈ lets.cps.toList)):=by simp [lets]
        rw [e2]
        exact hR' _ rfl rfl
      · rw [Hy]
        (repeat' walk_at "vs1")
        refine Fp (bs:=x.cps.toList.map fun c=>decide (c ∈ lets.cps.toList)) ?_ ?_
        · simp [Vz,dat,Function.comp_def,A.toD]
        · (repeat' walk_at "vs1")
          refine hR _ _ rfl ?_
          rename_i hif1
          simp at hif hif1
          have a1 : 1 ≤ x.length:=by omega
          have a2 : x.length ≤ 8:=by omega
          simp [Uz,V8,a1,a2]
    · refine hR _ _ rfl ?_
      simp at hif
      have a1 : ¬1 ≤ x.length:=by omega
      simp only [Uz,V8,a1,decide_false,Bool.false_and]
  | ty n=>cases hd
  | obj C fs=>cases hd
  | _ =>
    (repeat' walk_at "vs1")
    exact hR _ _ rfl rfl
theorem Q8 {x : Str} (h : V8 x = true) : x.length ≤ 8:=by
  simp only [V8,Bool.and_eq_true,decide_eq_true_eq] at h
  exact h.1.2
end
section
variable {EA : AX} {ρ ρ' : J0} {Q : AK} {g : Gm} [Gok g]
def Xz : D → Bool
  | .int i=>decide (0 ≤ i)
  | _=>false
structure OkC (d : D) : Prop where
  ty : (tyN d).isSome = true
  st : ∀ x,d = .str x → x.length ≤ 100000
theorem OkC.isi {d : D} (h : OkC d) {u : String} (hu : u = "int" ∨ u = "bool" ∨ u = "str" ∨ u = "list" ∨ u = "tuple" ∨ u = "dict") : Wi g.K d [.type u] (Ui d u):=Nn h.ty hu
theorem JGu {d : D} (h : OkC d) : Fn (SZ0b g) (Wh d) (.rt (.v (.bl (Ug d)))) (Wh d):=JLe d h.ty
theorem O0 {d : D} (h : OkC d) (k : Q (.v (.bl (Ug d))) ρ) : U1 (SZ0b g) [.v d] EA ρ Q:=Ge (JGu h) rfl rfl k
theorem JO7 {d : D} (h : OkC d) : Fn (SZ0q g) (Wh d) (.rt (.v (.bl (Uz d)))) (Wh d):=JL8 d ⟨h.ty,h.st⟩
theorem K1 {d : D} (h : OkC d) (k : Q (.v (.bl (Uz d))) ρ) : U1 (SZ0q g) [.v d] EA ρ Q:=Ge (JO7 h) rfl rfl k
theorem JN6 {d : D} (h : OkC d) : Fn (SZ0s g) (Wh d) (.rt (.v (.bl (Xz d)))) (Wh d):=by
  refine fnI rfl fun DA hR hN hX=>?_
  show asZ0s _ _ [some (.v d)]
  unfold asZ0s
  cases d with
  | int i =>
    (repeat' first|((with_reducible apply O0);(first|assumption|rfl))|walk_at "vs1")
    exact hR _ _ rfl rfl
  | _ =>
    (repeat' first|((with_reducible apply O0);(first|assumption|rfl))|walk_at "vs1")
    exact hR _ _ rfl rfl
theorem K4 {d : D} (h : OkC d) (k : Q (.v (.bl (Xz d))) ρ) : U1 (SZ0s g) [.v d] EA ρ Q:=Ge (JN6 h) rfl rfl k
theorem JO5 {ys : List D} (hl : ys.length ≤ 1000) (hy : ∀ y ∈ ys,OkC y) : Fn (SZ05 g) (JV0 ys) (.rt (.v (.bl (ys.all Ug)))) (JV0 ys):=fnI rfl fun DA hR hN hX=>by
  show asZ05 _ _ [some (.v (.tup ys)),none]
  unfold asZ05
  (repeat' walk_at "vs1")
  refine ⟨ys,rfl,Bj rfl,Fq (fun _=>true) (fun z=>.bl (Ug z)) trivial (by omega) (fun x hx R N hR' hN'=>?_) ?_⟩
  · have hx':=hy x hx
    (repeat' first|((with_reducible apply O0);(first|assumption|rfl))|walk_at "vs1")
    exact hR' _ rfl rfl
  · rw [Hy]
    (repeat' walk_at "vs1")
    refine Fp (bs:=ys.map Ug) ?_ ?_
    · show some (D.lst (ys.map fun z=>.bl (Ug z))) = _
      rw [List.map_map]
      rfl
    · (repeat' walk_at "vs1")
      exact hR _ _ rfl (by simp [List.all_map,Function.comp_def])
theorem M4 {ys : List D} (hl : ys.length ≤ 1000) (hy : ∀ y ∈ ys,OkC y) (k : Q (.v (.bl (ys.all Ug))) ρ) : U1 (SZ05 g) [.v (.tup ys)] EA ρ Q:=Ge (JO5 hl hy) rfl rfl k
end
def Vu (i : Int) : List D → Option Ent
  | [.str s,.str k,.int m,.int a,.int t]=>if V8 s && V8 k then some (.row i s k m a t) else none
  | _=>none
def Wj (i : Int) : List D → Option Ent
  | [.int m,.int a,.int t]=>some (.fix i m a t)
  | _=>none
def Wz (i : Int) : List D → Option Ent
  | [.int t]=>some (.gone i t)
  | _=>none
def Vb : D → Option Ent
  | .tup (.str w :: .int i :: r)=>if i < 0 then none else if w = ("row" : Str) then Vu i r else if w = ("fix" : Str) then Wj i r else if w = ("gone" : Str) then Wz i r else none
  | _=>none
theorem JFc {i : Int} {r : List D} {e : Ent} (h : Vu i r = some e) (hi : 0 ≤ i) : D.tup (.str ("row" : Str) :: .int i :: r) = e.d ∧ e.ok = true:=by
  unfold Vu at h
  split at h
  · split at h
    · rename_i hn
      cases h
      exact ⟨rfl,by simp only [Ent.ok,hn,decide_eq_true hi]; rfl⟩
    · cases h
  · cases h
theorem JBo {i : Int} {r : List D} {e : Ent} (h : Wj i r = some e) (hi : 0 ≤ i) : D.tup (.str ("fix" : Str) :: .int i :: r) = e.d ∧ e.ok = true:=by
  unfold Wj at h
  split at h
  · cases h
    exact ⟨rfl,decide_eq_true hi⟩
  · cases h
theorem JKw {i : Int} {r : List D} {e : Ent} (h : Wz i r = some e) (hi : 0 ≤ i) : D.tup (.str ("gone" : Str) :: .int i :: r) = e.d ∧ e.ok = true:=by
  unfold Wz at h
  split at h
  · cases h
    exact ⟨rfl,decide_eq_true hi⟩
  · cases h
theorem JMt {d : D} {e : Ent} (h : Vb d = some e) : d = e.d ∧ e.ok = true:=by
  unfold Vb at h
  split at h
  · rename_i w i r
    split at h
    · cases h
    · rename_i hi
      have hi : 0 ≤ i:=by omega
      split at h
      · rename_i e1; subst e1; exact JFc h hi
      · split at h
        · rename_i e1; subst e1; exact JBo h hi
        · split at h
          · rename_i e1; subst e1; exact JKw h hi
          · cases h
  · cases h
section
variable {EA : AX} {ρ ρ' : J0} {Q : AK} {g : Gm} [Gok g]
structure OkE (d : D) : Prop where
  c : OkC d
  t : ∀ ds,d = .tup ds → ds.length ≤ 1000 ∧ ∀ x ∈ ds,OkC x
theorem JY0 {i : Int} {a b c d e : D} : (Vu i [a,b,c,d,e]).isSome = (Uz a && (Uz b && [c,d,e].all Ug)):=by
  cases a <;> try (simp [Vu,Uz]; done)
  cases b <;> try (simp [Vu,Uz]; done)
  cases c <;> try (simp [Vu,Uz,Ug]; done)
  cases d <;> try (simp [Vu,Uz,Ug]; done)
  cases e <;> try (simp [Vu,Uz,Ug]; done)
  rename_i s k _ _ _
  simp only [Vu,Uz,Ug,List.all_cons,List.all_nil,Bool.and_true]
  cases V8 s <;> cases V8 k <;> rfl
theorem Gn {i : Int} {r : List D} (h : r.length ≠ 5) : Vu i r = none:=by
  unfold Vu
  split
  · exact absurd rfl h
  · rfl
theorem Sf {i : Int} {a b c : D} : (Wj i [a,b,c]).isSome = [a,b,c].all Ug:=by
  cases a <;> try (simp [Wj,Ug]; done)
  cases b <;> try (simp [Wj,Ug]; done)
  cases c <;> simp [Wj,Ug]
theorem Gb {i : Int} {r : List D} (h : r.length ≠ 3) : Wj i r = none:=by
  unfold Wj
  split
  · exact absurd rfl h
  · rfl
theorem Rv {i : Int} {a : D} : (Wz i [a]).isSome = [a].all Ug:=by
  cases a <;> simp [Wz,Ug]
theorem G6 {i : Int} {r : List D} (h : r.length ≠ 1) : Wz i r = none:=by
  unfold Wz
  split
  · exact absurd rfl h
  · rfl
/-- what is_entry and the law's own is_kind see of a tuple -/
theorem Hb {w : Str} {y : D} {r : List D} : (Vb (.tup (.str w :: y :: r))).isSome = (Xz y && (if w = ("row" : Str) then (Vu 0 r).isSome else if w = ("fix" : Str) then (Wj 0 r).isSome else if w = ("gone" : Str) then (Wz 0 r).isSome else false)):=by
  have hR : ∀ i j : Int,(Vu i r).isSome = (Vu j r).isSome:=fun i j=>by
    unfold Vu
    split <;> (try split) <;> rfl
  have hF : ∀ i j : Int,(Wj i r).isSome = (Wj j r).isSome:=fun i j=>by
    unfold Wj
    split <;> rfl
  have hG : ∀ i j : Int,(Wz i r).isSome = (Wz j r).isSome:=fun i j=>by
    unfold Wz
    split <;> rfl
  cases y with
  | int i =>
    simp only [Vb,Xz]
    by_cases hi : i < 0
    · have : ¬ 0 ≤ i:=by omega
      simp [hi,this]
    · have h0 : 0 ≤ i:=by omega
      rw [if_neg hi]
      simp only [decide_eq_true h0,Bool.true_and]
      split
      · exact hR _ _
      · split
        · exact hF _ _
        · split
          · exact hG _ _
          · rfl
  | _=>simp [Vb,Xz]
theorem JWy {x y : D} {r : List D} (h : Ui x "str" = false) : Vb (.tup (x :: y :: r)) = none:=by
  cases x <;> first | rfl | (simp [Ui] at h)
theorem Wb {ds : List D} {k : Nat} {x : D} (h : ds[k]? = some x) : itD (.tup ds) (.int (k : Nat)) = some x:=by
  have hk : k < ds.length:=by
    rcases Nat.lt_or_ge k ds.length with q | q
    · exact q
    · rw [List.getElem?_eq_none q] at h; cases h
  show atI _ _ = _
  rw [G4 hk,h]
theorem JP5 {DA : AEnds} {w : Str} {y z : D} {r : List D} (hl : (D.str w :: y :: z :: r).length ≤ 1000) (hx : ∀ x ∈ D.str w :: y :: z :: r,OkC x) (hR : ∀ (a : A) (ρ : J0),fin [0] 0 (Wh (.tup (.str w :: y :: z :: r))) ρ = some (Wh (.tup (.str w :: y :: z :: r))) → RX.rt (.v (.bl (Vb (.tup (.str w :: y :: z :: r))).isSome)) = .rt a → DA.rt a ρ) :
    rsZ0on2 g.K (SZ0s g) (SZ0q g) (SZ05 g) DA [some (.v (.tup (.str w :: y :: z :: r)))]:=by
  have h2:=hx y (by simp)
  have hz:=hx z (by simp)
  rw [Hb] at hR
  have e1 : ¬ ("fix" : Str) = ("row" : Str):=by decide
  have e2 : ¬ ("gone" : Str) = ("row" : Str):=by decide
  have e3 : ¬ ("gone" : Str) = ("fix" : Str):=by decide
  have it0 : itD (.tup (.str w :: y :: z :: r)) (.int 0) = some (.str w):=Wb (k:=0) rfl
  have it1 : itD (.tup (.str w :: y :: z :: r)) (.int 1) = some y:=Wb (k:=1) rfl
  have it2 : itD (.tup (.str w :: y :: z :: r)) (.int 2) = some z:=Wb (k:=2) rfl
  unfold rsZ0on2 rsZ0on3 rsZ0on4 rsZ0on5
  have hln : Ue (.tup (.str w :: y :: z :: r)) = some (.str w :: y :: z :: r : List D).length:=rfl
  have hk : ∀ n : Nat,(D.str w :: y :: z :: r).length ≠ n → decide (((D.str w :: y :: z :: r).length : Int) = (n : Int)) = false:=fun n hn=>decide_eq_false (fun e=>hn (Int.ofNat_inj.mp e))
  by_cases h7 : r.length = 4
  · match r,h7 with
    | [a,b,c,d],_ =>
      have ha:=hx a (by simp)
      have hc2 : ∀ q ∈ [b,c,d],OkC q:=fun q hq=>hx q (by simp at hq ⊢; simp [hq])
      have it3 : itD (.tup [.str w,y,z,a,b,c,d]) (.int 3) = some a:=Wb (k:=3) rfl
      have hcut : Vs.cutD [D.str w,y,z,a,b,c,d] (some 4) none = [b,c,d]:=rfl
      (repeat' first|((with_reducible apply K4);(first|assumption|rfl))|((with_reducible apply K1);(first|assumption|rfl))|walk_at "vs1")
      all_goals try (rw [hcut]; refine M4 (by simp) hc2 ?_; (repeat' walk_at "vs1"))
      all_goals (refine hR _ _ rfl ?_; simp only [Zj,decide_eq_true_eq,Bool.not_eq_true',Bool.not_eq_true] at *; simp_all [JY0,Gb,G6])
  by_cases h5 : r.length = 2
  · match r,h5 with
    | [a,b],_ =>
      have hc2 : ∀ q ∈ [z,a,b],OkC q:=fun q hq=>hx q (by simp at hq ⊢; simp [hq])
      have hcut : Vs.cutD [D.str w,y,z,a,b] (some 2) none = [z,a,b]:=rfl
      (repeat' first|((with_reducible apply K4);(first|assumption|rfl))|((with_reducible apply K1);(first|assumption|rfl))|walk_at "vs1")
      all_goals try (rw [hcut]; refine M4 (by simp) hc2 ?_; (repeat' walk_at "vs1"))
      all_goals (refine hR _ _ rfl ?_; simp only [Zj,decide_eq_true_eq,Bool.not_eq_true',Bool.not_eq_true] at *; simp_all [Sf,Gn,G6])
  by_cases h3 : r.length = 0
  · match r,h3 with
    | [],_ =>
      have hc2 : ∀ q ∈ [z],OkC q:=fun q hq=>hx q (by simp at hq ⊢; simp [hq])
      have hcut : Vs.cutD [D.str w,y,z] (some 2) none = [z]:=rfl
      (repeat' first|((with_reducible apply K4);(first|assumption|rfl))|((with_reducible apply K1);(first|assumption|rfl))|walk_at "vs1")
      all_goals try (rw [hcut]; refine M4 (by simp) hc2 ?_; (repeat' walk_at "vs1"))
      all_goals (refine hR _ _ rfl ?_; simp only [Zj,decide_eq_true_eq,Bool.not_eq_true',Bool.not_eq_true] at *; simp_all [Rv,Gn,Gb])
  · have q7:=hk 7 (fun e=>h7 (by simp only [List.length_cons] at e; omega))
    have q5:=hk 5 (fun e=>h5 (by simp only [List.length_cons] at e; omega))
    have q3:=hk 3 (fun e=>h3 (by simp only [List.length_cons] at e; omega))
    (repeat' first|((with_reducible apply K4);(first|assumption|rfl))|((with_reducible apply K1);(first|assumption|rfl))|walk_at "vs1")
    all_goals (refine hR _ _ rfl ?_; simp only [Zj,decide_eq_true_eq,Bool.not_eq_true',Bool.not_eq_true] at *; simp_all [G6,Gn,Gb])
theorem JLa {d : D} (h : OkE d) : Fn (SZ0o g) (Wh d) (.rt (.v (.bl (Vb d).isSome))) (Wh d):=by
  refine fnI rfl fun DA hR hN hX=>?_
  have ht:=h.c.isi (g:=g) (u:="tuple") (by simp)
  show asZ0o g.K _ _ _ _ [some (.v d)]
  cases d with
  | tup ds =>
    obtain ⟨hl,hx⟩:=h.t ds rfl
    have hln : Ue (.tup ds) = some ds.length:=rfl
    match ds,hl,hx with
    | [],_,_ =>
      unfold asZ0o
      (repeat' first|((with_reducible apply Vq);(first|exact Jh|exact Jq rfl|exact Jj|exact Jr rfl|exact Jt|exact Ju rfl|exact Jp|exact Jv rfl|exact Jo rfl rfl|exact Js rfl rfl|exact Jn rfl rfl|exact Jk rfl rfl|exact Jl rfl rfl);(first|assumption|rfl))|walk_at "vs1")
      exact hR _ _ rfl rfl
    | [a],_,_ =>
      unfold asZ0o
      (repeat' first|((with_reducible apply Vq);(first|exact Jh|exact Jq rfl|exact Jj|exact Jr rfl|exact Jt|exact Ju rfl|exact Jp|exact Jv rfl|exact Jo rfl rfl|exact Js rfl rfl|exact Jn rfl rfl|exact Jk rfl rfl|exact Jl rfl rfl);(first|assumption|rfl))|walk_at "vs1")
      exact hR _ _ rfl (by cases a <;> rfl)
    | [a,b],_,_ =>
      unfold asZ0o
      (repeat' first|((with_reducible apply Vq);(first|exact Jh|exact Jq rfl|exact Jj|exact Jr rfl|exact Jt|exact Ju rfl|exact Jp|exact Jv rfl|exact Jo rfl rfl|exact Js rfl rfl|exact Jn rfl rfl|exact Jk rfl rfl|exact Jl rfl rfl);(first|assumption|rfl))|walk_at "vs1")
      refine hR _ _ rfl ?_
      cases a <;> first | rfl | skip
      rw [Hb,Gn (by simp),Gb (by simp),G6 (by simp)]
      simp
    | x :: y :: z :: r,hl,hx =>
      have h1:=hx x (by simp)
      have h2:=hx y (by simp)
      have i1:=h1.isi (g:=g) (u:="str") (by simp)
      have it0 : itD (.tup (x :: y :: z :: r)) (.int 0) = some x:=Wb (k:=0) rfl
      have it1 : itD (.tup (x :: y :: z :: r)) (.int 1) = some y:=Wb (k:=1) rfl
      have it2 : itD (.tup (x :: y :: z :: r)) (.int 2) = some z:=Wb (k:=2) rfl
      have l3 : decide (((x :: y :: z :: r).length : Int) < 3) = false:=decide_eq_false (by simp; omega)
      by_cases hs : Ui x "str" = true
      · obtain ⟨w,rfl⟩ : ∃ w,x = .str w:=by
          cases x <;> first | exact ⟨_,rfl⟩ | (simp [Ui] at hs)
        unfold asZ0o
        (repeat' first|((with_reducible apply Vq);(first|exact Jh|exact Jq rfl|exact Jj|exact Jr rfl|exact Jt|exact Ju rfl|exact Jp|exact Jv rfl|exact Jo rfl rfl|exact Js rfl rfl|exact Jn rfl rfl|exact Jk rfl rfl|exact Jl rfl rfl);(first|assumption|rfl))|walk_at "vs1")
        exact JP5 (g:=g) hl hx hR
      · rw [JWy (by simpa using hs)] at hR
        unfold asZ0o
        have hs' : (!Ui x "str") = true:=by simpa using hs
        (repeat' first|((with_reducible apply Vq);(first|exact Jh|exact Jq rfl|exact Jj|exact Jr rfl|exact Jt|exact Ju rfl|exact Jp|exact Jv rfl|exact Jo rfl rfl|exact Js rfl rfl|exact Jn rfl rfl|exact Jk rfl rfl|exact Jl rfl rfl);(first|assumption|rfl))|walk_at "vs1")
        exact hR _ _ rfl rfl
  | _ =>
    unfold asZ0o
    (repeat' first|((with_reducible apply Vq);(first|exact Jh|exact Jq rfl|exact Jj|exact Jr rfl|exact Jt|exact Ju rfl|exact Jp|exact Jv rfl|exact Jo rfl rfl|exact Js rfl rfl|exact Jn rfl rfl|exact Jk rfl rfl|exact Jl rfl rfl);(first|assumption|rfl))|walk_at "vs1")
    exact hR _ _ rfl rfl
end
def wdE : Ent → Wd
  | .row ..=>.row
  | .fix ..=>.fix
  | .gone ..=>.gone
def dsE : Ent → List D
  | .row i s k m a t=>[.int i,.str s,.str k,.int m,.int a,.int t]
  | .fix i m a t=>[.int i,.int m,.int a,.int t]
  | .gone i t=>[.int i,.int t]
def Fx : List Str → List D → Str → D
  | f :: fs,d :: ds,x=>if f = x then d else Fx fs ds x
  | _,_,_=>.non
def tfE (e : Ent) (f : Str) : D:=Fx (wdE e).fs (dsE e) f
def sT : D → Str
  | .int i=>Str.ofString (toString i)
  | .str s=>s
  | _=>Str.ofString ""
def tt (e : Ent) (f : Str) : Str:=sT (tfE e f)
theorem E5 (w : Wd) : w.fs.Nodup:=by cases w <;> decide
theorem Er : ∀ {fs : List Str} {ds : List D},fs.Nodup → fs.length = ds.length → fs.map (Fx fs ds) = ds
  | [],[],_,_=>rfl
  | f :: fs,d :: ds,h,hl=>by
    obtain ⟨h1,h2⟩:=List.nodup_cons.mp h
    have ih:=Er (fs:=fs) (ds:=ds) h2 (by simpa using hl)
    rw [List.map_cons]
    congr 1
    · rw [Fx,if_pos rfl]
    · conv=>rhs; rw [← ih]
      refine List.map_congr_left fun x hx=>?_
      rw [Fx,if_neg (fun z=>h1 (by rw [z]; exact hx))]
theorem Em (e : Ent) : (wdE e).fs.map (tfE e) = dsE e:=Er (E5 _) (by cases e <;> rfl)
theorem Tg (e : Ent) : e.d = .tup (.str (wdE e).s :: (wdE e).fs.map (tfE e)):=by rw [Em]; cases e <;> rfl
def Z3 (i : Int) : Prop:=i.natAbs < 10 ^ 1001
def ItB : D → Prop
  | .int i=>Z3 i
  | .str s=>V8 s = true
  | _=>False
def EntB (e : Ent) : Prop:=∀ d ∈ dsE e,ItB d
theorem Ov {n : Nat} (h : n < 10 ^ 1001) : (Nat.toDigits 10 n).length ≤ 1001:=(Nat.length_toDigits_le_iff (by decide) (by decide)).mpr h
theorem JPz {i : Int} (h : Z3 i) : (Str.ofString (toString i)).length ≤ 1002:=by
  rw [str_len]
  rcases Int.eq_nat_or_neg i with ⟨m,rfl | rfl⟩
  · have hm : m < 10 ^ 1001:=by
      have h2 : ((m : Nat) : Int).natAbs < 10 ^ 1001:=h
      rw [Int.natAbs_natCast] at h2
      exact h2
    rw [PySem.W.KIN.signs_num,List.length_map]
    exact Nat.le_succ_of_le (Ov hm)
  · have hm : m < 10 ^ 1001:=by
      have h2 : (-((m : Nat) : Int)).natAbs < 10 ^ 1001:=h
      rw [Int.natAbs_neg,Int.natAbs_natCast] at h2
      exact h2
    cases m with
    | zero=>
      have e : (-(((0 : Nat) : Int))) = ((0 : Nat) : Int):=rfl
      rw [e,PySem.W.KIN.signs_num,List.length_map]
      exact Nat.le_succ_of_le (Ov hm)
    | succ m =>
      have e1 : toString (-(((m + 1 : Nat) : Int))) = "-" ++ toString (((m + 1 : Nat) : Int)):=rfl
      have e : (Str.ofString (toString (-(((m + 1 : Nat) : Int))))).cps.toList = 45 :: (Nat.toDigits 10 (m + 1)).map Char.toNat:=by
        rw [e1,← PySem.W.KIN.signs_num,PyProof.Rows.signs_ofString,PyProof.Rows.signs_ofString,String.toList_append]
        rfl
      rw [e,List.length_cons,List.length_map]
      exact Nat.succ_le_succ (Ov hm)
theorem Ow {e : Ent} (hb : EntB e) {f : Str} (hf : f ∈ (wdE e).fs) : (∃ s,tfE e f = .str s ∧ tt e f = s ∧ s.length ≤ 1002) ∨ ∃ i,tfE e f = .int i ∧ Z3 i ∧ tt e f = Str.ofString (toString i) ∧ (tt e f).length ≤ 1002:=by
  have hm : tfE e f ∈ dsE e:=by rw [← Em]; exact List.mem_map.mpr ⟨f,hf,rfl⟩
  have h:=hb _ hm
  have ht : tt e f = sT (tfE e f):=rfl
  rw [ht]
  generalize tfE e f = d at h
  cases d with
  | int i=>exact .inr ⟨i,rfl,h,rfl,JPz h⟩
  | str s =>
    have:=Q8 h
    exact .inl ⟨s,rfl,rfl,by omega⟩
  | _=>exact h.elim
theorem JOe {e : Ent} (hb : EntB e) {f : Str} (hf : f ∈ (wdE e).fs) : (tt e f).length ≤ 1002:=by
  rcases Ow hb hf with ⟨s,_,h,hl⟩ | ⟨i,_,_,_,hl⟩
  · rw [h]; exact hl
  · exact hl
def pcX (e : Ent) : Pc → Str
  | .mk t=>t
  | .fd f=>tt e f
  | .ot _=>Str.ofString ""
def lnX (ps : List Pc) (e : Ent) : Str:=Txt.join (Str.ofString "") (ps.map (pcX e))
theorem JF1 : ∀ ys : List Str,(Txt.join (Str.ofString "") ys).cps.toList = ys.flatMap fun y=>y.cps.toList:=fun ys=>by
  rw [show ∀ a ys,Txt.join a ys = Str.join a ys from fun a ys=>StrLaws.glued_eq_join a ys]
  induction ys with
  | nil=>rfl
  | cons a l ih =>
    cases l with
    | nil=>simp [Str.join]
    | cons b l =>
      rw [List.flatMap_cons,← ih]
      show ((a.cps ++ (Str.ofString "").cps) ++ (Str.join (Str.ofString "") (b :: l)).cps).toList = _
      have e : (Str.ofString "").cps = #[]:=by decide
      rw [e]
      simp
theorem JNy (x y : Str) : (x ++ y).length = x.length + y.length:=by
  rw [str_len,str_len,str_len]
  show (x.cps ++ y.cps).toList.length = _
  rw [Array.toList_append,List.length_append]
theorem JP4 (x y : Str) : (x ++ y).cps.toList = x.cps.toList ++ y.cps.toList:=by
  show (x.cps ++ y.cps).toList = _
  rw [Array.toList_append]
/-- a good shape -/
structure ShG (w : Wd) (ps : List Pc) : Prop where
  p : ∀ p ∈ ps,(∃ f,p = .fd f ∧ f ∈ w.fs) ∨ ∃ t,p = .mk t ∧ t.length ≤ 6
  l : ps.length ≤ 15
theorem FOk.sg {F : Wd → List Pc} (h : FOk F) (w : Wd) : ShG w (F w):=by
  have h2:=h w
  simp only [W5,Bool.and_eq_true,decide_eq_true_eq,List.all_eq_true] at h2
  refine ⟨fun p hp=>?_,h2.1.1.2⟩
  have:=h2.1.2 p hp
  cases p with
  | ot d=>cases this
  | mk t =>
    simp only [Pc.ok,gmk,Bool.and_eq_true,decide_eq_true_eq] at this
    exact .inr ⟨t,rfl,this.1.2⟩
  | fd f =>
    simp only [Pc.ok,decide_eq_true_eq] at this
    exact .inl ⟨f,rfl,this⟩
theorem JJr {e : Ent} (hb : EntB e) {p : Pc} (hp : (∃ f,p = .fd f ∧ f ∈ (wdE e).fs) ∨ ∃ t,p = .mk t ∧ t.length ≤ 6) : (pcX e p).length ≤ 1002:=by
  rcases hp with ⟨f,rfl,hf⟩ | ⟨t,rfl,ht⟩
  · exact JOe hb hf
  · show t.length ≤ 1002
    omega
theorem JX6 {i : Int} (h : Z3 i) : i.natAbs < 10 ^ 4300:=Nat.lt_of_lt_of_le h (Nat.pow_le_pow_right (by decide) (by decide))
theorem Pv {kvs : List (Key × D)} {k : Key} {d : D} (h : k ∉ kvs.map (·.1)) : putD kvs k d = kvs ++ [(k,d)]:=by
  unfold putD
  rw [if_neg]
  intro z
  obtain ⟨p,hp,e⟩:=List.any_eq_true.mp z
  exact h (List.mem_map.mpr ⟨p,hp,by simpa using e⟩)
def tfK (e : Ent) (fs : List Str) : List (Key × D):=fs.map fun f=>(.inr f,tfE e f)
theorem Rh (e : Ent) : ∀ {l : List Str} {f : Str},f ∈ l → valD (tfK e l) (.inr f) = some (tfE e f)
  | a :: l,f,h=>by
    show (if (Sum.inr a : Key) = .inr f then some (tfE e a) else valD (tfK e l) (.inr f)) = _
    by_cases q : a = f
    · rw [if_pos (by rw [q]),q]
    · rw [if_neg (fun z=>q (by injection z))]
      rcases List.mem_cons.mp h with rfl | h
      · exact absurd rfl q
      · exact Rh e h
theorem JB9 (e : Ent) : X5 (Yb (wdE e).fs) ((wdE e).fs.map (tfE e)) = (wdE e).fs.map fun f=>D.tup [.str f,tfE e f]:=by
  unfold X5 Yb
  induction (wdE e).fs with
  | nil=>rfl
  | cons a l ih=>simpa using ih
section
variable {EA : AX} {ρ ρ' : J0} {Q : AK} {DA : AEnds} {g : Gm} [Gok g]
theorem TZ0e {F : Wd → List Pc} : Ev (SZ0e g) [.v (V4 g.J9 F)] (.v .non):=evI rfl fun DA hR hN=>by
  have cl:=Gok.N5 (g:=g)
  have kk:=Gok.JHs (g:=g)
  show asZ0e g.K g.Jm g.J9 DA [some (.v (V4 g.J9 F))]
  unfold asZ0e V4
  (repeat' walk_at "vs1")
  exact hN _ rfl rfl
theorem JMm {kvs : List (Key × D)} : Rz (SZ0e g) [.v (.dic kvs)] g.Jm [(("value" : Str),.dic kvs)]:=fnP rfl fun DA hR hN hX=>by
  have h1 : Wi g.K (.dic kvs) [.ref g.J9] false:=⟨_,rfl,(fun C fs e=>nomatch e),kitAny_cons (Gok.JN9 (g:=g)) (fun _=>Vs.kitAny_nil) fun z=>z⟩
  show asZ0e g.K g.Jm g.J9 DA [some (.v (.dic kvs))]
  unfold asZ0e
  (repeat' first|((with_reducible apply Vq);(first|exact Jh|exact Jq rfl|exact Jj|exact Jr rfl|exact Jt|exact Ju rfl|exact Jp|exact Jv rfl|exact Jo rfl rfl|exact Js rfl rfl|exact Jn rfl rfl|exact Jk rfl rfl|exact Jl rfl rfl);(first|assumption|rfl))|walk_at "vs1")
  exact hX _ _ _ _ rfl ⟨rfl,rfl,rfl⟩
theorem JLb {kvs : List (Key × D)} {x : D} : Rz (SZ0g g) [.v (.dic kvs),.v x] g.Jm [(("value" : Str),.dic kvs)]:=fnP rfl fun DA hR hN hX=>by
  show asZ0g g.J9 g.Y3 (SZ0e g) (SZ0o g) (SZ0i g) DA [some (.v (.dic kvs)),some (.v x),none,none,none,none,none]
  unfold asZ0g
  (repeat' walk_at "vs1")
  refine kRz rfl JMm ?_
  exact hX _ _ _ _ rfl ⟨rfl,rfl,rfl⟩
theorem JW8 {d : D} {b : Bool} (h : OkE d) (hb : (Vb d).isSome = b) (k : Q (.v (.bl b)) ρ) : U1 (SZ0o g) [.v d] EA ρ Q:=by
  subst hb
  exact Ge (JLa h) rfl rfl k
theorem JXb {F : Wd → List Pc} {x : D} (h : OkE x) (hx : Vb x = none) : Rz (SZ0g g) [.v (V4 g.J9 F),.v x] g.Y3 [(("at" : Str),.int 0)]:=fnP rfl fun DA hR hN hX=>by
  show asZ0g g.J9 g.Y3 (SZ0e g) (SZ0o g) (SZ0i g) DA [some (.v (V4 g.J9 F)),some (.v x),none,none,none,none,none]
  unfold asZ0g
  (repeat' walk_at "vs1")
  refine kEv rfl TZ0e ?_
  (repeat' walk_at "vs1")
  unfold rsZ0gn2
  (repeat' walk_at "vs1")
  refine JW8 h (b:=false) (by rw [hx]; rfl) ?_
  (repeat' walk_at "vs1")
  exact hX _ _ _ _ rfl ⟨rfl,rfl,rfl⟩
theorem TZ0g {F : Wd → List Pc} {e : Ent} (hF : FOk F) (hd : Vb e.d = some e) (hE : OkE e.d) (hb : EntB e) : Ev (SZ0g g) [.v (V4 g.J9 F),.v e.d] (.v (.str (lnX (F (wdE e)) e))):=fnP rfl fun DA hR hN hX=>by
  obtain ⟨g1,g2⟩:=hF.sg (wdE e)
  have hft:=JUs (wdE e)
  have hwl : (wdE e).fs.length ≤ 6:=(by intro w; cases w <;> decide : ∀ w : Wd,w.fs.length ≤ 6) _
  show asZ0g g.J9 g.Y3 (SZ0e g) (SZ0o g) (SZ0i g) DA [some (.v (V4 g.J9 F)),some (.v e.d),none,none,none,none,none]
  unfold asZ0g
  (repeat' walk_at "vs1")
  refine kEv rfl TZ0e ?_
  (repeat' walk_at "vs1")
  unfold rsZ0gn2
  (repeat' walk_at "vs1")
  refine JW8 hE (b:=true) (by rw [hd]; rfl) ?_
  (repeat' walk_at "vs1")
  clear hd hE
  have hR' : ∀ ρ,fin [0,1] 0 [.v (V4 g.J9 F),.v e.d] ρ = some [.v (V4 g.J9 F),.v e.d] → DA.rt (.v (.str (lnX (F (wdE e)) e))) ρ:=fun ρ h=>hR _ _ _ h ⟨rfl,rfl⟩
  clear hR hN hX
  rw [Tg] at hR' ⊢
  have h0 : itD (.tup (.str (wdE e).s :: (wdE e).fs.map (tfE e))) (.int 0) = some (.str (wdE e).s):=by
    show atI (.str (wdE e).s :: (wdE e).fs.map (tfE e)) ((0 : Nat) : Int) = _
    rw [G4 (by simp)]
    rfl
  unfold rsZ0gn3
  (repeat' walk_at "vs1")
  refine JPa ?_
  (repeat' walk_at "vs1")
  refine JUo ?_
  (repeat' walk_at "vs1")
  refine ⟨(wdE e).s,Yb (wdE e).fs,rfl,hft,?_⟩
  (repeat' walk_at "vs1")
  have hcut : Vs.cutD (.str (wdE e).s :: (wdE e).fs.map (tfE e)) (some 1) none = (wdE e).fs.map (tfE e):=by cases e <;> rfl
  rw [hcut]
  refine ⟨Yb (wdE e).fs,(wdE e).fs.map (tfE e),rfl,?_⟩
  rw [JB9]
  refine ⟨Dz rfl rfl,Nk (W:=fun acc r ρ=>ρ = [some (.v (V4 g.J9 F)),some (.v (.tup (.str (wdE e).s :: (wdE e).fs.map (tfE e)))),none,none,none,none,none] ∧ ∃ dn rs : List Str,(wdE e).fs = dn ++ rs ∧ r = rs.map (fun f=>D.tup [.str f,tfE e f]) ∧ acc = tfK e dn) (fun acc ρ ⟨e1,zs,rs,h1,h2,h3⟩=>?_) (fun acc y r ρ ⟨e1,zs,rs,h1,h2,h3⟩ ih=>?_) _ _ _ ⟨rfl,[],(wdE e).fs,rfl,rfl,rfl⟩⟩
  · subst e1 h3
    have : rs = []:=by cases rs with
      | nil=>rfl
      | cons _ _=>simp at h2
    subst this
    rw [List.append_nil] at h1
    subst h1
    refine ⟨trivial,?_⟩
    (repeat' walk_at "vs1")
    unfold rsZ0gn4
    (repeat' walk_at "vs1")
    unfold rsZ0gn5
    (repeat' walk_at "vs1")
    refine JKr rfl ?_
    (repeat' walk_at "vs1")
    refine ⟨Yh (F (wdE e)),rfl,?_⟩
    refine Xj Pc.d (fun r ρ=>∃ dn,F (wdE e) = dn ++ r ∧ ρ = [some (.v (V4 g.J9 F)),some (.v (.tup (.str (wdE e).s :: (wdE e).fs.map (tfE e)))),some (.v (.dic (tfK e (wdE e).fs))),none,none,some (.lst (Yb (dn.map (pcX e)))),none]) ?_ ?_ (F (wdE e)) _ ⟨[],rfl,rfl⟩
    · rintro ρ ⟨dn,e1,rfl⟩
      refine ⟨trivial,?_⟩
      rw [List.append_nil] at e1
      unfold rsZ0gn6
      unfold Yb
      (repeat' walk_at "vs1")
      · have el : (Str.ofString "").length = 0:=by decide
        have hs : ((dn.map (pcX e)).map fun y=>y.length).sum ≤ 1002 * dn.length:=by
          have key : ∀ l : List Pc,(∀ p ∈ l,p ∈ F (wdE e)) → ((l.map (pcX e)).map fun y=>y.length).sum ≤ 1002 * l.length:=fun l=>by
            induction l with
            | nil=>intro _; simp
            | cons p l ih =>
              intro h
              have h1:=JJr hb (g1 p (h p List.mem_cons_self))
              have h2:=ih fun x hx=>h x (List.mem_cons_of_mem _ hx)
              simp only [List.map_cons,List.sum_cons,List.length_cons] at h2 ⊢
              omega
          exact key dn fun p hp=>by rw [e1]; exact hp
        have hl : dn.length ≤ 15:=by rw [← e1]; exact g2
        rw [el]
        try omega
      · rw [← e1]
        exact hR' _ rfl
    · rintro p r ρ ⟨dn,e1,rfl⟩ K ih
      refine ⟨trivial,?_⟩
      have hdl : (Yb (dn.map (pcX e))).length ≤ 100000:=by
        rw [e1] at g2
        simp [Yb] at g2 ⊢
        omega
      have hpm : p ∈ F (wdE e):=by rw [e1]; simp
      have fin : ∀ s : Str,s = pcX e p → K [some (.v (V4 g.J9 F)),some (.v (.tup (.str (wdE e).s :: (wdE e).fs.map (tfE e)))),some (.v (.dic (tfK e (wdE e).fs))),none,none,some (.lst (Yb (dn.map (pcX e)) ++ [.str s])),none]:=fun s hs=>by
        have e3 : Yb (dn.map (pcX e)) ++ [D.str s] = Yb ((dn ++ [p]).map (pcX e)):=by simp [Yb,hs]
        rw [e3]
        exact ih _ ⟨dn ++ [p],by rw [e1]; simp,rfl⟩
      rcases g1 p hpm with ⟨f,rfl,hf⟩ | ⟨t,rfl,ht⟩
      · have hit : itD (.dic (tfK e (wdE e).fs)) (.str f) = some (tfE e f):=Rh e hf
        unfold Pc.d
        rcases Ow hb hf with ⟨s,h5,h6,_⟩ | ⟨i,h5,h6,h7,_⟩
        · rw [h5] at hit
          (repeat' walk_at "vs1")
          unfold bdZ0gn1
          (repeat' walk_at "vs1")
          all_goals first
            | (exfalso; revert hif; decide)
            | skip
          refine JZf Jh ?_
          (repeat' walk_at "vs1")
          exact fin _ h6.symm
        · rw [h5] at hit
          (repeat' walk_at "vs1")
          unfold bdZ0gn1
          (repeat' walk_at "vs1")
          all_goals first
            | (exfalso; revert hif; decide)
            | skip
          refine JJe Jh (JX6 h6) ?_
          (repeat' walk_at "vs1")
          exact fin _ h7.symm
      · unfold Pc.d
        (repeat' walk_at "vs1")
        unfold bdZ0gn1
        (repeat' walk_at "vs1")
        all_goals first
          | (exfalso; revert hif; decide)
          | skip
        exact fin t rfl
  · subst e1 h3
    cases rs with
    | nil=>cases h2
    | cons f rs =>
      simp only [List.map_cons,List.cons.injEq] at h2
      obtain ⟨rfl,rfl⟩:=h2
      refine ⟨trivial,?_⟩
      have hnf : f ∉ zs:=by
        have hn:=E5 (wdE e)
        rw [h1,List.nodup_append] at hn
        exact fun z=>hn.2.2 f z f List.mem_cons_self rfl
      have hput : putD (tfK e zs) (.inr f) (tfE e f) = tfK e (zs ++ [f]):=by
        rw [Pv]
        · simp [tfK]
        · simpa [tfK] using hnf
      have hzl : (tfK e zs).length ≤ 100000:=by
        have:=congrArg List.length h1
        simp at this
        simp [tfK]
        omega
      (repeat' walk_at "vs1")
      refine ⟨.str f,.inr f,rfl,rfl,hzl,?_⟩
      rw [hput]
      exact ih _ _ ⟨rfl,zs ++ [f],rs,by rw [h1]; simp,rfl,rfl⟩
end
def lts : List Nat:=(Str.ofString "abcdefghijklmnopqrstuvwxyz").cps.toList
theorem JXq (cs : List Nat) (h : PySem.NumText.AllDigits cs) : PySem.NumText.digitsVal cs < 10 ^ cs.length:=by
  have key : ∀ (cs : List Nat) (a : Nat),(∀ c ∈ cs,48 ≤ c ∧ c ≤ 57) → cs.foldl (fun acc c=>acc * 10 + (c - 48)) a < (a + 1) * 10 ^ cs.length:=fun cs=>by
    induction cs with
    | nil=>intro a _; simp
    | cons c cs ih =>
      intro a h
      have h1:=h c List.mem_cons_self
      have h2:=ih (a * 10 + (c - 48)) fun x hx=>h x (List.mem_cons_of_mem _ hx)
      rw [List.foldl_cons,List.length_cons,Nat.pow_succ]
      refine Nat.lt_of_lt_of_le h2 ?_
      rw [Nat.mul_comm (10 ^ cs.length) 10,← Nat.mul_assoc]
      exact Nat.mul_le_mul_right _ (by omega)
  have:=key cs 0 h
  rw [Nat.zero_add,Nat.one_mul] at this
  exact this
theorem JNz {c : Nat} (h : 48 ≤ c ∧ c ≤ 57) : ∃ n,PySem.W.KIN.LongT (Txt.mul (⟨#[c]⟩ : Str) 1000) n ∧ n.natAbs < 10 ^ 1000:=by
  have hL : (Txt.mul (⟨#[c]⟩ : Str) 1000).cps.toList = List.replicate 1000 c:=PyProof.Rows.mul_one_list c 1000
  generalize Txt.mul (⟨#[c]⟩ : Str) 1000 = x at hL
  have hlen : x.cps.toList.length = 1000:=by rw [hL,List.length_replicate]
  have hx : x.length = 1000:=by rw [str_len,hlen]
  have hd : PySem.NumText.AllDigits x.cps.toList:=fun d hd=>by
    rw [hL] at hd
    rw [List.eq_of_mem_replicate hd]
    exact h
  obtain ⟨e1,e2⟩:=numText_signs (x:=x) fun d hm=>Or.inr (hd d hm)
  have hne : x.cps.toList ≠ []:=fun z=>by rw [z] at hlen; cases hlen
  have hn:=intText_digits hd hne (by omega)
  rcases read4300 x (by rw [hx,sizeLine_eq]; omega) with ⟨n,h1,h2,h3⟩ | ⟨h1,_⟩
  · refine ⟨n,⟨by rw [e2,hlen]; decide,h3,h2⟩,?_⟩
    rw [hn] at h1
    injection h1 with h1
    rw [← h1,Int.natAbs_natCast]
    have:=JXq _ hd
    rw [hlen] at this
    exact this
  · rw [hn] at h1
    cases h1
theorem O1 {i : Int} (h : i.natAbs < 10 ^ 61) : Z3 i:=Nat.lt_of_lt_of_le h (Nat.pow_le_pow_right (by decide) (by decide))
theorem JOw {n s : Int} (h : n.natAbs < 10 ^ 1000) (hs : s.natAbs ≤ 1) : Z3 (n * s):=by
  show (n * s).natAbs < 10 ^ 1001
  rw [Int.natAbs_mul]
  refine Nat.lt_of_le_of_lt (Nat.mul_le_mul_left _ hs) ?_
  rw [Nat.mul_one]
  exact Nat.lt_of_lt_of_le h (Nat.pow_le_pow_right (by decide) (by decide))
theorem JHu {n : Nat} (h : n < 10 ^ 1000) : n.log2 < 4000:=by
  refine PySem.Flt.log2_lt_of (by decide) (Nat.lt_of_lt_of_le h ?_)
  decide +kernel
def dgS : Str:=Str.ofString "123456789"
theorem dgS_ok : (∀ c ∈ dgS.cps.toList,48 ≤ c ∧ c ≤ 57) ∧ dgS.length = 9:=by decide
/-- a word as it is drawn -/
structure WdT (most : Int) (t : Str) : Prop where
  lo : 1 ≤ t.length
  hi : (t.length : Int) ≤ most
  m : ∀ c ∈ t.cps.toList,c ∈ lts
section
variable {EA : AX} {ρ ρ' : J0} {Q : AK} {DA : AEnds} {g : Gm} [Gok g]
theorem JOt {p : A} {most : Int} (hp : Yo p) (h0 : 1 ≤ most) (h1 : most ≤ 50) : Sat (SZ0l g) [p,.v (.int most)] (fun r o=>∃ p' t,Yo p' ∧ WdT most t ∧ r = .v (.str t) ∧ o = [p',.v (.int most)]) noO:=fnP (by obtain ⟨a,b,c,rfl,_⟩:=hp; rfl) fun DA hR hN hX=>by
  show asZ0l _ _ [some p,some (.v (.int most)),none,none]
  have e26 : (Str.ofString "abcdefghijklmnopqrstuvwxyz").length = 26:=by decide
  unfold asZ0l rsZ0ln2 rsZ0ln3
  (repeat' walk_at "vs1")
  refine Tu ?_
  (repeat' first|((with_reducible apply Uy);rfl;assumption;(first|assumption|decide|omega);(first|assumption|decide|omega);intro zz pp hz0 hz1 hpp)|walk_at "vs1")
  refine ⟨_,1 + zz,rfl,rfl,by omega,by omega,?_⟩
  refine Oi (fun ys ρ=>∃ (p : A) (y : Str) (o : Option A),Yo p ∧ (∀ c ∈ y.cps.toList,c ∈ lts) ∧ (y.length : Int) + ys.length = 1 + zz ∧ ρ = [some p,some (.v (.int most)),some (.v (.str y)),o]) ?_ ?_ _ _ ⟨pp,"",_,hpp,(fun c hc=>by
    have e : (Str.ofString "").cps.toList = []:=by decide
    rw [e] at hc
    cases hc),(by
    have e : (Str.ofString "").length = 0:=by decide
    rw [e]
    simp only [Wu,List.length_map,List.length_range]
    omega),rfl⟩
  · rintro ρ ⟨p,y,o,hp,hy,hl,rfl⟩
    refine ⟨trivial,?_⟩
    (repeat' walk_at "vs1")
    exact hR _ _ _ rfl ⟨p,y,hp,⟨by simp at hl; omega,by simp at hl; omega,hy⟩,rfl,rfl⟩
  · rintro x ys ρ ⟨p,y,o,hp,hy,hl,rfl⟩ ih
    refine ⟨trivial,?_⟩
    unfold bdZ0ln1
    (repeat' walk_at "vs1")
    refine Uy rfl hp (by omega) (by omega) fun z2 p hz20 hz21 hp=>?_
    obtain ⟨c,hc,e⟩:=Nq (x:=Str.ofString "abcdefghijklmnopqrstuvwxyz") (by rw [e26]; decide) hz20 (by rw [e26]; exact hz21)
    refine Zw Jh Jh e ?_
    (repeat' walk_at "vs1")
    · simp only [List.length_cons] at hl
      have : (⟨#[c]⟩ : Str).length = 1:=rfl
      omega
    (simp only [Yj,give,List.set_cons_zero,List.set_cons_succ])
    refine ih _ ⟨p,_,_,hp,fun d hd=>?_,?_,rfl⟩
    · rw [Kv,List.mem_append] at hd
      rcases hd with hd | hd
      · exact hy d hd
      · have : d = c:=by simpa using hd
        rw [this]
        exact hc
    simp only [List.length_cons] at hl
    have e3 : (y ++ (⟨#[c]⟩ : Str)).length = y.length + 1:=by rw [str_len,Kv,str_len]; simp
    rw [e3]
    push_cast at hl ⊢
    omega
theorem Rx {i : Nat} {p : A} {m : Int} (hp : ρ[i]? = some (some p)) (h : Yo p) (h0 : 1 ≤ m) (h1 : m ≤ 50) (k : ∀ t p',WdT m t → Yo p' → Q (.v (.str t)) (ρ.set i (some p'))) : U1 (SZ0l g) [.loc i,.v (.int m)] EA ρ Q:=by
  refine Wl (ρ':=ρ.set i none) (Ks hp rfl) (JOt h h0 h1) (fun r ys' q=>?_) (fun _ _ _ h=>h.elim)
  obtain ⟨p',t,hp',ht,rfl,rfl⟩:=q
  show Q _ ((ρ.set i none).set i (some p'))
  rw [Pd]
  exact k t p' ht hp'
theorem Qt {most : Int} {t : Str} (h : WdT most t) (h8 : most ≤ 8) : V8 t = true:=by
  simp only [V8,Bool.and_eq_true,decide_eq_true_eq,List.all_eq_true]
  exact ⟨⟨h.lo,by have:=h.hi; omega⟩,fun c hc=>h.m c hc⟩
theorem JHp {p : A} (hp : Yo p) : Sat (SZ06 g) [p] (fun r o=>∃ i p',Yo p' ∧ Z3 i ∧ r = .v (.int i) ∧ o = [p']) noO:=fnP (by obtain ⟨a,b,c,rfl,_⟩:=hp; rfl) fun DA hR hN hX=>by
  show asZ06 (SZ0j g) DA [some p,none]
  have fin : ∀ i p o,Yo p → Z3 i → DA.rt (.v (.int i)) [some p,o]:=fun i p o h1 h2=>hR _ _ _ rfl ⟨i,p,h1,h2,rfl,rfl⟩
  clear hR hN hX
  unfold asZ06
  (repeat' walk_at "vs1")
  refine Uy rfl hp (by decide) (by decide) fun z p hz0 hz1 hp=>?_
  (repeat' walk_at "vs1")
  · refine Uy rfl hp (by decide) (by decide) fun z p hz0 hz1 hp=>?_
    obtain ⟨c,hc,e⟩:=Nq (x:=dgS) (by rw [dgS_ok.2]; decide) hz0 (by rw [dgS_ok.2]; exact hz1)
    obtain ⟨n,hn,hb⟩:=JNz (dgS_ok.1 c hc)
    refine Zw Jh Jh e ?_
    (repeat' walk_at "vs1")
    refine O5 (a:=⟨#[c]⟩) Jh Jh (by show 1 ≤ 16; decide) (by decide) (by decide) ?_
    (repeat' walk_at "vs1")
    refine JPx Jh hn ?_
    (repeat' walk_at "vs1")
    refine Uy rfl hp (by decide) (by decide) fun y p hy0 hy1 hp=>?_
    (repeat' walk_at "vs1")
    have hw : CMulW 2 y:=wide_mul (a:=4) (b:=4) (by decide) (by omega) (by decide) (by decide) (by decide)
    refine Mp Jh Jh hw ?_
    (repeat' walk_at "vs1")
    have hw2 : CMulW n (1 - 2 * y):=by
      have h1:=JHu hb
      have h2 : (1 - 2 * y).natAbs.log2 < 4:=PySem.Flt.log2_lt_of (by decide) (by omega)
      show n.natAbs.log2 + (1 - 2 * y).natAbs.log2 < 1000000
      omega
    refine Mp Jh Jh hw2 ?_
    (repeat' walk_at "vs1")
    exact fin _ _ _ hp (JOw hb (by omega))
  · unfold rsZ06n2
    (repeat' walk_at "vs1")
    refine Uy rfl hp (by decide) (by decide) fun z p hz0 hz1 hp=>?_
    have hm : ∃ m : Int,itD (.lst [.int 10,.int 1000,.int (10 ^ 20),.int (10 ^ 60)]) (.int z) = some (.int m) ∧ 0 < m ∧ m ≤ 10 ^ 60:=by
      have hz : z = 0 ∨ z = 1 ∨ z = 2 ∨ z = 3:=by omega
      rcases hz with rfl | rfl | rfl | rfl
      · exact ⟨10,rfl,by decide,by decide⟩
      · exact ⟨1000,rfl,by decide,by decide⟩
      · exact ⟨10 ^ 20,rfl,by decide,by decide⟩
      · exact ⟨10 ^ 60,rfl,by decide,by decide⟩
    obtain ⟨m,hm,hm0,hm1⟩:=hm
    (repeat' walk_at "vs1")
    (simp only [Yj,give,List.set_cons_zero,List.set_cons_succ])
    unfold rsZ06n3
    (repeat' walk_at "vs1")
    have hw : CMulW 2 m:=wide_mul (a:=4) (b:=210) (by decide) (by
      have : (10 : Int) ^ 60 < 2 ^ 210:=by decide
      omega) (by decide) (by decide) (by decide)
    refine Mp Jh Jh hw ?_
    (repeat' walk_at "vs1")
    refine Uy rfl hp (by omega) (by
      have : (10 : Int) ^ 60 * 2 < 2 ^ 210:=by decide
      omega) fun y p hy0 hy1 hp=>?_
    (repeat' walk_at "vs1")
    refine fin _ _ _ hp (O1 ?_)
    have : (10 : Int) ^ 61 = 10 * 10 ^ 60:=by decide
    omega
theorem X7 {i : Nat} {p : A} (hi : ρ[i]? = some (some p)) (h : Yo p) (k : ∀ n p',Z3 n → Yo p' → Q (.v (.int n)) (ρ.set i (some p'))) : U1 (SZ06 g) [.loc i] EA ρ Q:=by
  refine Wl (ρ':=ρ.set i none) (JVn hi) (JHp h) (fun r ys' q=>?_) (fun _ _ _ h=>h.elim)
  obtain ⟨n,p',hp',hn,rfl,rfl⟩:=q
  show Q _ ((ρ.set i none).set i (some p'))
  rw [Pd]
  exact k n p' hn hp'
theorem JBt {z : Int} (h0 : 0 ≤ z) (h1 : z < 3) : ∃ w : Wd,itD (.lst [.str ("row" : Str),.str ("fix" : Str),.str ("gone" : Str)]) (.int z) = some (.str w.s):=by
  have h : z = 0 ∨ z = 1 ∨ z = 2:=by omega
  rcases h with rfl | rfl | rfl
  · exact ⟨.row,rfl⟩
  · exact ⟨.fix,rfl⟩
  · exact ⟨.gone,rfl⟩
theorem JP7 {p : A} (hp : Yo p) : Sat (SZ0d g) [p] (fun r o=>∃ e p',Yo p' ∧ e.ok = true ∧ EntB e ∧ r = .v e.d ∧ o = [p']) noO:=fnP (by obtain ⟨a,b,c,rfl,_⟩:=hp; rfl) fun DA hR hN hX=>by
  show asZ0d (SZ0j g) (SZ06 g) (SZ0l g) DA [some p,none,none,none]
  have fin : ∀ e p o1 o2 o3,Yo p → e.ok = true → EntB e → DA.rt (.v e.d) [some p,o1,o2,o3]:=fun e p o1 o2 o3 h1 h2 h3=>hR _ _ _ rfl ⟨e,p,h1,h2,h3,rfl,rfl⟩
  clear hR hN hX
  unfold asZ0d
  (repeat' walk_at "vs1")
  refine Uy rfl hp (by decide) (by decide) fun z p hz0 hz1 hp=>?_
  obtain ⟨w,hw⟩:=JBt hz0 hz1
  (repeat' walk_at "vs1")
  unfold rsZ0dn2
  (repeat' walk_at "vs1")
  refine X7 rfl hp fun n p hn hp=>?_
  (repeat' walk_at "vs1")
  generalize hq : (if n < 0 then -n else n) = q
  have hn0 : 0 ≤ q:=by rw [← hq]; split <;> omega
  have hnb : Z3 q:=by
    have e : q.natAbs = n.natAbs:=by rw [← hq]; split <;> omega
    show q.natAbs < _
    rw [e]
    exact hn
  clear hq hn
  unfold rsZ0dn3
  cases w with
  | row =>
    (repeat' walk_at "vs1")
    all_goals first
      | (exfalso; revert hif; decide)
      | skip
    refine Rx rfl hp (by decide) (by decide) fun s p hs hp=>?_
    (repeat' walk_at "vs1")
    refine Rx rfl hp (by decide) (by decide) fun t p ht hp=>?_
    have hs:=Qt hs (by decide)
    have ht:=Qt ht (by decide)
    have h0 : itD (.lst [.str s,.str t]) (.int 0) = some (.str s):=rfl
    have h1 : itD (.lst [.str s,.str t]) (.int 1) = some (.str t):=rfl
    (repeat' walk_at "vs1")
    refine X7 rfl hp fun a p ha hp=>?_
    (repeat' walk_at "vs1")
    refine X7 rfl hp fun b p hb hp=>?_
    (repeat' walk_at "vs1")
    refine X7 rfl hp fun c p hc hp=>?_
    (repeat' walk_at "vs1")
    refine fin (.row q s t a b c) _ _ _ _ hp ?_ ?_
    · simp only [Ent.ok,Bool.and_eq_true,decide_eq_true_eq]
      exact ⟨hn0,hs,ht⟩
    · intro d hd
      simp only [dsE,List.mem_cons,List.not_mem_nil,or_false] at hd
      rcases hd with rfl | rfl | rfl | rfl | rfl | rfl <;> assumption
  | fix =>
    (repeat' walk_at "vs1")
    all_goals first
      | (exfalso; revert hif; decide)
      | skip
    unfold rsZ0dn4
    (repeat' walk_at "vs1")
    all_goals first
      | (exfalso; revert hif; decide)
      | skip
    refine X7 rfl hp fun a p ha hp=>?_
    (repeat' walk_at "vs1")
    refine X7 rfl hp fun b p hb hp=>?_
    (repeat' walk_at "vs1")
    refine X7 rfl hp fun c p hc hp=>?_
    (repeat' walk_at "vs1")
    refine fin (.fix q a b c) _ _ _ _ hp (decide_eq_true hn0) ?_
    intro d hd
    simp only [dsE,List.mem_cons,List.not_mem_nil,or_false] at hd
    rcases hd with rfl | rfl | rfl | rfl <;> assumption
  | gone =>
    (repeat' walk_at "vs1")
    all_goals first
      | (exfalso; revert hif; decide)
      | skip
    unfold rsZ0dn4
    (repeat' walk_at "vs1")
    all_goals first
      | (exfalso; revert hif; decide)
      | skip
    unfold rsZ0dn5
    (repeat' walk_at "vs1")
    refine X7 rfl hp fun a p ha hp=>?_
    (repeat' walk_at "vs1")
    refine fin (.gone q a) _ _ _ _ hp (decide_eq_true hn0) ?_
    intro d hd
    simp only [dsE,List.mem_cons,List.not_mem_nil,or_false] at hd
    rcases hd with rfl | rfl <;> assumption
end
inductive ItD : D → Prop
  | int {i : Int} (h : Z3 i) : ItD (.int i)
  | str {s : Str} (h : s.length ≤ 100) : ItD (.str s)
  | non : ItD .non
  | bl {b : Bool} : ItD (.bl b)
  | l : ItD (.lst [.int 1])
  | t : ItD (.tup [.int 1])
  | d : ItD (.dic [])
inductive Th : D → Prop
  | i {d : D} (h : ItD d) : Th d
  | t {ds : List D} (hl : ds.length ≤ 8) (h : ∀ x ∈ ds,ItD x) : Th (.tup ds)
  | l {ds : List D} (hl : ds.length ≤ 8) (h : ∀ x ∈ ds,ItD x) : Th (.lst ds)
theorem ItD.c {d : D} (h : ItD d) : OkC d:=by
  cases h with
  | str h=>exact ⟨rfl,fun x e=>by cases e; omega⟩
  | _=>exact ⟨rfl,fun _ e=>by cases e⟩
theorem Th.e {d : D} (h : Th d) : OkE d:=by
  cases h with
  | i h =>
    refine ⟨h.c,fun ds e=>?_⟩
    subst e
    cases h
    exact ⟨by simp,fun x hx=>by
      have : x = .int 1:=by simpa using hx
      rw [this]
      exact ⟨rfl,fun _ e=>by cases e⟩⟩
  | t hl h=>exact ⟨⟨rfl,fun _ e=>by cases e⟩,fun ds e=>by cases e; exact ⟨by omega,fun x hx=>(h x hx).c⟩⟩
  | l hl h=>exact ⟨⟨rfl,fun _ e=>by cases e⟩,fun ds e=>by cases e⟩
theorem EntB.it {e : Ent} (h : EntB e) : ∀ x ∈ D.str (wdE e).s :: dsE e,ItD x:=fun x hx=>by
  rcases List.mem_cons.mp hx with rfl | hx
  · refine .str ?_
    cases e <;> exact Nat.le_of_ble_eq_true rfl
  · have:=h x hx
    cases x with
    | int i=>exact .int this
    | str s =>
      have:=Q8 this
      exact .str (by omega)
    | _=>exact this.elim
theorem Mg (e : Ent) : e.d = .tup (.str (wdE e).s :: dsE e):=by cases e <;> rfl
theorem EntB.th {e : Ent} (h : EntB e) : Th e.d:=by
  rw [Mg]
  exact .t (by cases e <;> exact Nat.le_of_ble_eq_true rfl) h.it
/-- a thing that is an entry -/
theorem Qd {d : D} {e : Ent} (h : Th d) (he : Vb d = some e) : d = e.d ∧ EntB e:=by
  obtain ⟨h1,h2⟩:=JMt he
  refine ⟨h1,?_⟩
  subst h1
  rw [Mg] at h
  have key : ∀ x ∈ D.str (wdE e).s :: dsE e,ItD x:=by
    generalize hd : D.tup (D.str (wdE e).s :: dsE e) = d at h
    cases h with
    | i h =>
      subst hd
      cases e <;> cases h
    | t hl h=>cases hd; exact h
    | l hl h=>cases hd
  intro x hx
  have hi:=key x (List.mem_cons_of_mem _ hx)
  cases e with
  | row i s k m a t =>
    simp only [Ent.ok,Bool.and_eq_true,decide_eq_true_eq] at h2
    simp only [dsE,List.mem_cons,List.not_mem_nil,or_false] at hx
    rcases hx with rfl | rfl | rfl | rfl | rfl | rfl
    · cases hi; assumption
    · exact h2.2.1
    · exact h2.2.2
    · cases hi; assumption
    · cases hi; assumption
    · cases hi; assumption
  | fix i m a t =>
    simp only [dsE,List.mem_cons,List.not_mem_nil,or_false] at hx
    rcases hx with rfl | rfl | rfl | rfl <;> (cases hi; assumption)
  | gone i t =>
    simp only [dsE,List.mem_cons,List.not_mem_nil,or_false] at hx
    rcases hx with rfl | rfl <;> (cases hi; assumption)
def Xn : List D:=[.non,.bl true,.str ("1" : Str),.str ("" : Str),.str ("abcdefghi" : Str),.str ("Ab" : Str),.int (-1),.lst [.int 1],.tup [.int 1],.dic [],.str ("gone" : Str),.int 5,.str ("a" : Str)]
theorem JPn : ∀ x ∈ Xn,ItD x:=fun x hx=>by
  simp only [Xn,List.mem_cons,List.not_mem_nil,or_false] at hx
  rcases hx with rfl | rfl | rfl | rfl | rfl | rfl | rfl | rfl | rfl | rfl | rfl | rfl | rfl
  · exact .non
  · exact .bl
  · exact .str (by decide)
  · exact .str (by decide)
  · exact .str (by decide)
  · exact .str (by decide)
  · exact .int (O1 (by decide))
  · exact .l
  · exact .t
  · exact .d
  · exact .str (by decide)
  · exact .int (O1 (by decide))
  · exact .str (by decide)
theorem JHg {ds : List D} {z : Int} (h0 : 0 ≤ z) (h1 : z < ds.length) : ∃ x ∈ ds,itD (.lst ds) (.int z) = some x:=by
  refine ⟨ds[z.toNat]'(by omega),List.getElem_mem _,?_⟩
  have e : z = ((z.toNat : Nat) : Int):=by omega
  have h:=G4 (xs:=ds) (k:=z.toNat) (by omega)
  rw [← e] at h
  show atI ds z = _
  rw [h,List.getElem?_eq_getElem (by omega)]
theorem JB5 {ds : List D} {k : Nat} {x : D} (h : ∀ y ∈ ds,ItD y) (hx : ItD x) : ∀ y ∈ ds.set k x,ItD y:=fun y hy=>by
  rcases List.mem_or_eq_of_mem_set hy with hy | rfl
  · exact h y hy
  · exact hx
theorem JGy {ds : List D} {k : Nat} {x : D} (hk : k < ds.length) : F2 (.lst ds) (.int (k : Nat)) x = some (.lst (ds.set k x)):=by
  show ((ixN ds.length (k : Nat)).map fun n=>A.lst (ds.set n x)) = _
  have : ixN ds.length ((k : Nat) : Int) = some k:=by simp [ixN,hk]
  rw [this]
  rfl
section
variable {EA : AX} {ρ ρ' : J0} {Q : AK} {DA : AEnds} {g : Gm} [Gok g]
theorem Og {z : Int} {X Y : A} (h1 : dat X ρ = some (.lst Xn)) (h2 : dat Y ρ = some (.int z)) (h3 : 0 ≤ z) (h4 : z < 13) (k : ∀ x,ItD x → Q (.v x) ρ) : aIx X Y ρ Q:=by
  obtain ⟨x,hx,hi⟩:=JHg (ds:=Xn) h3 h4
  exact Zw h1 h2 hi (k x (JPn x hx))
theorem JKx {p : A} {e : Ent} (hp : Yo p) (hb : EntB e) : Sat (SZ03 g) [p,.v e.d] (fun r o=>∃ d p',Yo p' ∧ Th d ∧ (r = .v d ∨ ∃ ds,r = .lst ds ∧ d = .lst ds) ∧ o = [p',.v e.d]) noO:=fnP (by obtain ⟨a,b,c,rfl,_⟩:=hp; rfl) fun DA hR hN hX=>by
  show asZ03 (SZ0j g) DA [some p,some (.v e.d),none,none,none]
  have fv : ∀ d p o2 o3 o4,Yo p → Th d → DA.rt (.v d) [some p,some (.v e.d),o2,o3,o4]:=fun d p o2 o3 o4 h1 h2=>hR _ _ _ rfl ⟨d,p,h1,h2,.inl rfl,rfl⟩
  have fl : ∀ ds p o2 o3 o4,Yo p → Th (.lst ds) → DA.rt (.lst ds) [some p,some (.v e.d),o2,o3,o4]:=fun ds p o2 o3 o4 h1 h2=>hR _ _ _ rfl ⟨.lst ds,p,h1,h2,.inr ⟨ds,rfl,rfl⟩,rfl⟩
  clear hR hN hX
  have hit:=hb.it
  have hlen : (D.str (wdE e).s :: dsE e).length ≤ 7 ∧ 3 ≤ (D.str (wdE e).s :: dsE e).length:=by cases e <;> exact ⟨Nat.le_of_ble_eq_true rfl,Nat.le_of_ble_eq_true rfl⟩
  rw [Mg] at fv fl ⊢
  generalize D.str (wdE e).s :: dsE e = ds at fv fl hit hlen ⊢
  obtain ⟨hl,hl3⟩:=hlen
  unfold asZ03
  (repeat' walk_at "vs1")
  unfold rsZ03n2
  (repeat' walk_at "vs1")
  unfold rsZ03n3
  (repeat' walk_at "vs1")
  refine Uy rfl hp (by decide) (by decide) fun c p hc0 hc1 hp=>?_
  (repeat' walk_at "vs1")
  have hln : Ue (.lst ds) = some ds.length:=rfl
  have tl : ∀ {xs : List D},xs.length ≤ 8 → (∀ x ∈ xs,ItD x) → ∀ p (o3 o4 : Option A),Yo p → rsZ03n9 (SZ0j g) DA [some p,some (.v (.tup ds)),some (.lst xs),o3,o4]:=fun {xs} h1 h2 p o3 o4 h3=>by
    unfold rsZ03n9
    (repeat' walk_at "vs1")
    exact fv _ _ _ _ _ h3 (.t h1 h2)
  have t5 : ∀ {xs : List D} {c : Int},xs.length ≤ 8 → (∀ x ∈ xs,ItD x) → (c = 0 ∨ c = 5) → ∀ p,Yo p → rsZ03n5 (SZ0j g) DA [some p,some (.v (.tup ds)),some (.lst xs),some (.v (.lst Xn)),some (.v (.int c))]:=fun {xs c} h1 h2 hc p h3=>by
    rcases hc with rfl | rfl
    all_goals
      unfold rsZ03n5
      (repeat' walk_at "vs1")
      unfold rsZ03n6
      (repeat' walk_at "vs1")
      unfold rsZ03n7
      (repeat' walk_at "vs1")
      unfold rsZ03n8
      (repeat' walk_at "vs1")
      exact tl h1 h2 _ _ _ h3
  have t6 : ∀ {xs : List D},xs.length ≤ 8 → (∀ x ∈ xs,ItD x) → ∀ p,Yo p → rsZ03n6 (SZ0j g) DA [some p,some (.v (.tup ds)),some (.lst xs),some (.v (.lst Xn)),some (.v (.int 1))]:=fun {xs} h1 h2 p h3=>by
    unfold rsZ03n6
    (repeat' walk_at "vs1")
    unfold rsZ03n7
    (repeat' walk_at "vs1")
    unfold rsZ03n8
    (repeat' walk_at "vs1")
    exact tl h1 h2 _ _ _ h3
  have t7 : ∀ {xs : List D},xs.length ≤ 8 → (∀ x ∈ xs,ItD x) → ∀ p,Yo p → rsZ03n7 (SZ0j g) DA [some p,some (.v (.tup ds)),some (.lst xs),some (.v (.lst Xn)),some (.v (.int 2))]:=fun {xs} h1 h2 p h3=>by
    unfold rsZ03n7
    (repeat' walk_at "vs1")
    unfold rsZ03n8
    (repeat' walk_at "vs1")
    exact tl h1 h2 _ _ _ h3
  unfold rsZ03n4
  have hc : c = 0 ∨ c = 1 ∨ c = 2 ∨ c = 3 ∨ c = 4 ∨ c = 5:=by omega
  rcases hc with rfl | rfl | rfl | rfl | rfl | rfl
  · (repeat' walk_at "vs1")
    refine Uy rfl hp (by decide) (by decide) fun z p hz0 hz1 hp=>?_
    (repeat' walk_at "vs1")
    refine Og Jh Jh hz0 hz1 fun x hx=>?_
    (repeat' walk_at "vs1")
    refine Uy rfl hp (by omega) (by omega) fun y p hy0 hy1 hp=>?_
    obtain ⟨k,rfl⟩ : ∃ k : Nat,y = (k : Nat):=⟨y.toNat,by omega⟩
    have hk : k < ds.length:=by omega
    refine N9 rfl Jh (JGy hk) (by simp only [Bf]; omega) ?_
    (simp only [Yj,give,List.set_cons_zero,List.set_cons_succ])
    exact t5 (by rw [List.length_set]; omega) (JB5 hit hx) (.inl rfl) _ hp
  · (repeat' walk_at "vs1")
    unfold rsZ03n5
    (repeat' walk_at "vs1")
    refine Uy rfl hp (by omega) (by omega) fun y p hy0 hy1 hp=>?_
    (repeat' walk_at "vs1")
    refine Uy rfl hp (by decide) (by decide) fun z p hz0 hz1 hp=>?_
    (repeat' walk_at "vs1")
    refine Og Jh Jh hz0 hz1 fun x hx=>?_
    (repeat' walk_at "vs1")
    · exact ⟨hy0,by omega,by omega⟩
    (simp only [Yj,give,List.set_cons_zero,List.set_cons_succ])
    refine t6 (by simp; omega) (fun q hq=>?_) _ hp
    simp only [List.mem_append,List.mem_singleton] at hq
    rcases hq with (hq | rfl) | hq
    · exact hit q (List.mem_of_mem_take hq)
    · exact hx
    · exact hit q (List.mem_of_mem_drop hq)
  · (repeat' walk_at "vs1")
    unfold rsZ03n5
    (repeat' walk_at "vs1")
    unfold rsZ03n6
    (repeat' first|((with_reducible apply JG5))|walk_at "vs1")
    refine Uy rfl hp (by omega) (by omega) fun y p hy0 hy1 hp=>?_
    obtain ⟨k,rfl⟩ : ∃ k : Nat,y = (k : Nat):=⟨y.toNat,by omega⟩
    have hk : k < ds.length:=by omega
    refine JOk rfl Jh (by omega) (List.getElem?_eq_getElem hk) ?_
    (simp only [Yj,give,List.set_cons_zero,List.set_cons_succ])
    refine t7 (by rw [List.length_eraseIdx]; split <;> omega) (fun q hq=>hit q (List.mem_of_mem_eraseIdx hq)) _ hp
  · (repeat' walk_at "vs1")
    unfold rsZ03n5
    (repeat' walk_at "vs1")
    unfold rsZ03n6
    (repeat' walk_at "vs1")
    unfold rsZ03n7
    (repeat' walk_at "vs1")
    refine Uy rfl hp (by decide) (by decide) fun z p hz0 hz1 hp=>?_
    (repeat' walk_at "vs1")
    refine Og Jh Jh hz0 hz1 fun x hx=>?_
    (repeat' walk_at "vs1")
    exact fv _ _ _ _ _ hp (.i hx)
  · (repeat' walk_at "vs1")
    unfold rsZ03n5
    (repeat' walk_at "vs1")
    unfold rsZ03n6
    (repeat' walk_at "vs1")
    unfold rsZ03n7
    (repeat' walk_at "vs1")
    unfold rsZ03n8
    (repeat' walk_at "vs1")
    exact fl _ _ _ _ _ hp (.l (by omega) hit)
  · (repeat' walk_at "vs1")
    exact t5 (by omega) hit (.inr rfl) _ hp
end
def sgF (l : List Nat) : D → Bool:=fun z=>match z with
  | .str y=>y.cps.toList.all fun c=>decide (c ∉ l)
  | _=>false
theorem JF5 {l : List Nat} {y : Str} : (List.map (fun z=>z) (List.filter (sgF l) (Vz y))).length = (y.cps.toList.filter fun c=>decide (c ∉ l)).length:=by
  rw [List.length_map,Vz,List.filter_map,List.length_map]
  congr 1
  refine List.filter_congr fun c _=>?_
  simp [sgF]
theorem JLs {l : List Nat} {y : Str} (h : (y.cps.toList.filter fun c=>decide (c ∉ l)).length = 0) : (y.cps.toList.all fun c=>decide (c ∈ l)) = true:=by
  have h0:=List.eq_nil_of_length_eq_zero h
  rw [List.all_eq_true]
  intro c hc
  rw [List.filter_eq_nil_iff] at h0
  have:=h0 c hc
  simpa using this
theorem JK4 {l : List Nat} {y : Str} (h : 0 < (y.cps.toList.filter fun c=>decide (c ∉ l)).length) : (y.cps.toList.all fun c=>decide (c ∈ l)) = false:=by
  obtain ⟨c,hc⟩:=List.exists_mem_of_length_pos h
  obtain ⟨h1,h2⟩:=List.mem_filter.mp hc
  rw [Bool.eq_false_iff]
  intro z
  rw [List.all_eq_true] at z
  have:=z c h1
  simp at this h2
  exact h2 this
theorem JVs (v : Str) : ([D.str ("row" : Str),.str ("fix" : Str),.str ("gone" : Str)].any fun z=>deq z (.str v)) = true ↔ ∃ w : Wd,v = w.s:=by
  simp only [List.any_cons,List.any_nil,Bool.or_false,Bool.or_eq_true,Zj,decide_eq_true_eq]
  constructor
  · rintro (h | h | h)
    · exact ⟨.row,h.symm⟩
    · exact ⟨.fix,h.symm⟩
    · exact ⟨.gone,h.symm⟩
  · rintro ⟨w,rfl⟩
    cases w
    · exact .inl rfl
    · exact .inr (.inl rfl)
    · exact .inr (.inr rfl)
theorem JP2 {v : Str} {y : D} {r : List D} (h : ∀ w : Wd,v ≠ w.s) : (Vb (.tup (.str v :: y :: r))).isSome = false:=by
  rw [Hb,if_neg (show ¬ v = Str.ofString "row" from h .row),if_neg (show ¬ v = Str.ofString "fix" from h .fix),if_neg (show ¬ v = Str.ofString "gone" from h .gone),Bool.and_false]
theorem JFv {w : Wd} {y : D} {r : List D} (h : r.length + 1 ≠ w.fs.length) : (Vb (.tup (.str w.s :: y :: r))).isSome = false:=by
  rw [Hb]
  cases w with
  | row =>
    rw [if_pos (show Wd.row.s = Str.ofString "row" from rfl),Gn (fun z=>h (by rw [z]; rfl))]
    exact Bool.and_false _
  | fix =>
    rw [if_neg (show ¬ Wd.fix.s = Str.ofString "row" by decide),if_pos (show Wd.fix.s = Str.ofString "fix" from rfl),Gb (fun z=>h (by rw [z]; rfl))]
    exact Bool.and_false _
  | gone =>
    rw [if_neg (show ¬ Wd.gone.s = Str.ofString "row" by decide),if_neg (show ¬ Wd.gone.s = Str.ofString "fix" by decide),if_pos (show Wd.gone.s = Str.ofString "gone" from rfl),G6 (fun z=>h (by rw [z]; rfl))]
    exact Bool.and_false _
theorem JF7 : ∀ z ∈ [D.str ("row" : Str),.str ("fix" : Str),.str ("gone" : Str)],PlD 20 z:=fun z hz=>by
  simp only [List.mem_cons,List.not_mem_nil,or_false] at hz
  rcases hz with rfl | rfl | rfl <;> trivial
section
variable {EA : AX} {ρ ρ' : J0} {Q : AK} {DA : AEnds} {g : Gm} [Gok g]
theorem JF3 {d : D} (h : OkC d) : Val (SZ00 g) [.v d] (fun r=>r = .v (.bl (Ug d))):=fnP rfl fun DA hR hN hX=>by
  have h1:=h.isi (g:=g) (u:="int") (by simp)
  have h2:=h.isi (g:=g) (u:="bool") (by simp)
  show asZ00 g.K DA [some (.v d)]
  unfold asZ00
  cases d
  all_goals
    (repeat' first|((with_reducible apply Vq);(first|exact Jh|exact Jq rfl|exact Jj|exact Jr rfl|exact Jt|exact Ju rfl|exact Jp|exact Jv rfl|exact Jo rfl rfl|exact Js rfl rfl|exact Jn rfl rfl|exact Jk rfl rfl|exact Jl rfl rfl);(first|assumption|rfl))|walk_at "vs1")
    exact hR _ _ _ rfl ⟨rfl,rfl⟩
theorem JV6 {d : D} (h : OkC d) (k : Q (.v (.bl (Ug d))) ρ) : U1 (SZ00 g) [.v d] EA ρ Q:=Wt rfl (JF3 h) fun r e=>by subst e; exact k
theorem JPj {d : D} (h : OkC d) : Val (SZ07 g) [.v d] (fun r=>r = .v (.bl (Uz d))):=fnP rfl fun DA hR hN hX=>by
  have h1:=h.isi (g:=g) (u:="str") (by simp)
  have hs:=h.st
  show asZ07 g.K DA [some (.v d),none]
  unfold asZ07
  cases d with
  | str y =>
    have hy:=hs y rfl
    have hln : Ue (.str y) = some y.length:=by simp only [Ue,if_pos hy]
    have fin : ∀ b ρ,ρ[0]? = some (some (.v (.str y))) → ρ.length = 2 → b = V8 y → DA.rt (.v (.bl b)) ρ:=fun b ρ h0 h1 hb=>by
      rcases ρ with _ | ⟨r0,_ | ⟨r1,_ | ⟨r2,rr⟩⟩⟩
      all_goals simp at h0 h1
      subst h0 hb
      exact hR _ _ _ rfl ⟨rfl,rfl⟩
    (repeat' first|((with_reducible apply Vq);(first|exact Jh|exact Jq rfl|exact Jj|exact Jr rfl|exact Jt|exact Ju rfl|exact Jp|exact Jv rfl|exact Jo rfl rfl|exact Js rfl rfl|exact Jn rfl rfl|exact Jk rfl rfl|exact Jl rfl rfl);(first|assumption|rfl))|walk_at "vs1")
    · refine fin _ _ rfl rfl ?_
      have:=of_decide_eq_true hif
      have h1 : ¬ 1 ≤ y.length:=by omega
      simp [V8,h1]
    · refine fin _ _ rfl rfl ?_
      have:=of_decide_eq_true hif
      have h1 : ¬ y.length ≤ 8:=by omega
      simp [V8,h1]
    · rename_i hA
      have hB:=hif
      have hA : ¬ ((y.length : Nat) : Int) < 1:=fun z=>hA (decide_eq_true z)
      have hB : ¬ (8 : Int) < ((y.length : Nat) : Int):=fun z=>hB (decide_eq_true z)
      unfold rsZ07n2
      (repeat' walk_at "vs1")
      refine ⟨Vz y,rfl,Bj rfl,Fq (sgF lts) (fun z=>z) trivial (by simpa [Vz,Str.length] using (show y.length ≤ 100000 by omega)) (fun z hz R N hR' hN'=>?_) ?_⟩
      · obtain ⟨c,hc,rfl⟩:=List.mem_map.mp hz
        (repeat' walk_at "vs1")
        refine JXh (b:=decide (c ∈ lts)) Jh Jh ⟨c,rfl,rfl⟩ ?_
        (repeat' walk_at "vs1")
        · refine hR' _ rfl ?_
          have h:=hif
          simpa [sgF] using h
        · refine hN' _ rfl ?_
          have h:=hif
          simpa [sgF] using h
      · (repeat' walk_at "vs1")
        refine fin _ _ rfl rfl ?_
        rw [Mj,JF5]
        have e8 : V8 y = (y.cps.toList.all fun c=>decide (c ∈ lts)):=by
          have l1 : decide (1 ≤ y.length) = true:=decide_eq_true (by omega)
          have l2 : decide (y.length ≤ 8) = true:=decide_eq_true (by omega)
          unfold V8
          rw [l1,l2,Bool.true_and,Bool.true_and]
          rfl
        rw [e8]
        by_cases h0 : (y.cps.toList.filter fun c=>decide (c ∉ lts)).length = 0
        · rw [JLs h0,h0]
          rfl
        · rw [JK4 (by omega)]
          exact decide_eq_false (by omega)
  | _ =>
    (repeat' first|((with_reducible apply Vq);(first|exact Jh|exact Jq rfl|exact Jj|exact Jr rfl|exact Jt|exact Ju rfl|exact Jp|exact Jv rfl|exact Jo rfl rfl|exact Js rfl rfl|exact Jn rfl rfl|exact Jk rfl rfl|exact Jl rfl rfl);(first|assumption|rfl))|walk_at "vs1")
    exact hR _ _ _ rfl ⟨rfl,rfl⟩
theorem Q6 {d : D} (h : OkC d) (k : Q (.v (.bl (Uz d))) ρ) : U1 (SZ07 g) [.v d] EA ρ Q:=Wt rfl (JPj h) fun r e=>by subst e; exact k
theorem JF2 {w : Wd} {y : D} {r : List D} (hl : r.length + 1 = w.fs.length) (hx : ∀ x ∈ D.str w.s :: y :: r,OkC x) (hR : ∀ b ρ,fin [0] 0 [.v (.tup (.str w.s :: y :: r))] ρ = some [.v (.tup (.str w.s :: y :: r))] → b = (Vb (.tup (.str w.s :: y :: r))).isSome → DA.rt (.v (.bl b)) ρ) : rsZ01n3 g.K (SZ09 g) (SZ00 g) (SZ07 g) DA [some (.v (.tup (.str w.s :: y :: r))),none,none]:=by
  have hy:=hx y (by simp)
  have hr : ∀ x ∈ r,OkC x:=fun x h=>hx x (by simp [h])
  have it0 : itD (.tup (.str w.s :: y :: r)) (.int 0) = some (.str w.s):=Wb (k:=0) rfl
  have it1 : itD (.tup (.str w.s :: y :: r)) (.int 1) = some y:=Wb (k:=1) rfl
  rw [Hb] at hR
  unfold rsZ01n3
  (repeat' walk_at "vs1")
  refine JV6 hy ?_
  have hno : ∀ ρ,fin [0] 0 [.v (.tup (.str w.s :: y :: r))] ρ = some [.v (.tup (.str w.s :: y :: r))] → Xz y = false → DA.rt (.v (.bl false)) ρ:=fun ρ h1 h2=>hR _ _ h1 (by rw [h2]; rfl)
  cases y with
  | int i =>
    (repeat' walk_at "vs1")
    · refine hno _ rfl ?_
      have:=of_decide_eq_true hif
      exact decide_eq_false (by omega)
    · have hi : Xz (.int i) = true:=by
        have : ¬ i < 0:=fun z=>hif (decide_eq_true z)
        exact decide_eq_true (by omega)
      clear hif
      rw [hi] at hR
      have all_ok : ∀ (ys : List D) (ρ : J0),ρ = [some (.v (.tup (.str w.s :: .int i :: r))),some (.v (.tup ys)),none] → ys.length ≤ 10 → (∀ x ∈ ys,OkC x) → (∀ ρ,fin [0] 0 [.v (.tup (.str w.s :: .int i :: r))] ρ = some [.v (.tup (.str w.s :: .int i :: r))] → DA.rt (.v (.bl (ys.all Ug))) ρ) → rsZ01n6 g.K (SZ09 g) (SZ00 g) (SZ07 g) DA ρ:=fun ys ρ e hyl hys hfin=>by
        subst e
        unfold rsZ01n6
        (repeat' walk_at "vs1")
        refine ⟨ys,rfl,Bj rfl,Fq (fun _=>true) (fun z=>.bl (Ug z)) trivial (by omega) (fun x hx R N hR' hN'=>?_) ?_⟩
        · (repeat' walk_at "vs1")
          refine JV6 (hys x hx) ?_
          (repeat' walk_at "vs1")
          exact hR' _ rfl rfl
        · rw [Hy]
          (repeat' walk_at "vs1")
          refine Fp (bs:=ys.map Ug) ?_ ?_
          · show some (D.lst (ys.map fun z=>.bl (Ug z))) = _
            rw [List.map_map]
            rfl
          · (repeat' walk_at "vs1")
            have e2 : (ys.map Ug).all id = ys.all Ug:=by simp [List.all_map,Function.comp_def]
            rw [e2]
            exact hfin _ rfl
      unfold rsZ01n4
      cases w with
      | row =>
        match r,hl,hr with
        | [a,b,c,d,e],_,hr =>
          have ha:=hr a (by simp)
          have hb:=hr b (by simp)
          have it2 : itD (.tup [.str Wd.row.s,.int i,a,b,c,d,e]) (.int 2) = some a:=Wb (k:=2) rfl
          have it3 : itD (.tup [.str Wd.row.s,.int i,a,b,c,d,e]) (.int 3) = some b:=Wb (k:=3) rfl
          have hcut : Vs.cutD [D.str Wd.row.s,.int i,a,b,c,d,e] (some 4) none = [c,d,e]:=rfl
          have hR2 : ∀ bb ρ,fin [0] 0 [.v (.tup [.str Wd.row.s,.int i,a,b,c,d,e])] ρ = some [.v (.tup [.str Wd.row.s,.int i,a,b,c,d,e])] → bb = (Uz a && (Uz b && [c,d,e].all Ug)) → DA.rt (.v (.bl bb)) ρ:=fun bb ρ h1 h2=>hR _ _ h1 (by rw [h2,Bool.true_and,if_pos (show Wd.row.s = Str.ofString "row" from rfl),JY0])
          (repeat' walk_at "vs1")
          unfold rsZ01n5
          (repeat' walk_at "vs1")
          all_goals first
            | (exfalso; revert hif; decide)
            | skip
          refine Q6 ha ?_
          (repeat' walk_at "vs1")
          · refine hR2 _ _ rfl ?_
            have h1 : Uz a = false:=by simpa using hif
            rw [h1]
            rfl
          · refine Q6 hb ?_
            have h1 : Uz a = true:=by simpa using hif
            (repeat' walk_at "vs1")
            · refine hR2 _ _ rfl ?_
              have h2 : Uz b = false:=by simpa using hif
              rw [h1,h2]
              rfl
            · have h2 : Uz b = true:=by simpa using hif
              rw [hcut]
              refine all_ok [c,d,e] _ rfl (by simp) (fun x hx=>hr x (by simp at hx ⊢; simp [hx])) fun ρ h=>?_
              exact hR2 _ _ h (by rw [h1,h2]; rfl)
      | fix =>
        match r,hl,hr with
        | [a,b,c],_,hr =>
          have hcut : Vs.cutD [D.str Wd.fix.s,.int i,a,b,c] (some 2) none = [a,b,c]:=rfl
          (repeat' walk_at "vs1")
          unfold rsZ01n5
          (repeat' walk_at "vs1")
          all_goals first
            | (exfalso; revert hif; decide)
            | skip
          rw [hcut]
          refine all_ok [a,b,c] _ rfl (by simp) (fun x hx=>hr x hx) fun ρ h=>?_
          exact hR _ _ h (by rw [Bool.true_and,if_neg (show ¬ Wd.fix.s = Str.ofString "row" by decide),if_pos (show Wd.fix.s = Str.ofString "fix" from rfl),Sf])
      | gone =>
        match r,hl,hr with
        | [a],_,hr =>
          have hcut : Vs.cutD [D.str Wd.gone.s,.int i,a] (some 2) none = [a]:=rfl
          (repeat' walk_at "vs1")
          unfold rsZ01n5
          (repeat' walk_at "vs1")
          all_goals first
            | (exfalso; revert hif; decide)
            | skip
          rw [hcut]
          refine all_ok [a] _ rfl (by simp) (fun x hx=>hr x hx) fun ρ h=>?_
          exact hR _ _ h (by rw [Bool.true_and,if_neg (show ¬ Wd.gone.s = Str.ofString "row" by decide),if_neg (show ¬ Wd.gone.s = Str.ofString "fix" by decide),if_pos (show Wd.gone.s = Str.ofString "gone" from rfl),Rv])
  | _ =>
    (repeat' walk_at "vs1")
    exact hno _ rfl rfl
theorem JL9 {d : D} (h : OkE d) : Val (SZ01 g) [.v d] (fun r=>r = .v (.bl (Vb d).isSome)):=fnP rfl fun DA hR hN hX=>by
  have ht:=h.c.isi (g:=g) (u:="tuple") (by simp)
  have h2:=h.t
  show asZ01 g.K (SZ09 g) (SZ00 g) (SZ07 g) DA [some (.v d),none,none]
  unfold asZ01
  cases d with
  | tup ds =>
    obtain ⟨hl,hx⟩:=h2 ds rfl
    have hln : Ue (.tup ds) = some ds.length:=rfl
    match ds,hl,hx with
    | [],_,_ =>
      (repeat' first|((with_reducible apply Vq);(first|exact Jh|exact Jq rfl|exact Jj|exact Jr rfl|exact Jt|exact Ju rfl|exact Jp|exact Jv rfl|exact Jo rfl rfl|exact Js rfl rfl|exact Jn rfl rfl|exact Jk rfl rfl|exact Jl rfl rfl);(first|assumption|rfl))|walk_at "vs1")
      exact hR _ _ _ rfl ⟨rfl,rfl⟩
    | x :: r,hl,hx =>
      have h1:=hx x (by simp)
      have i1:=h1.isi (g:=g) (u:="str") (by simp)
      have it0 : itD (.tup (x :: r)) (.int 0) = some x:=Wb (k:=0) rfl
      have l1 : decide (((x :: r).length : Int) < 1) = false:=decide_eq_false (by simp; omega)
      by_cases hs : Ui x "str" = true
      · obtain ⟨v,rfl⟩ : ∃ w,x = .str w:=by
          cases x <;> first | exact ⟨_,rfl⟩ | (simp [Ui] at hs)
        (repeat' first|((with_reducible apply Vq);(first|exact Jh|exact Jq rfl|exact Jj|exact Jr rfl|exact Jt|exact Ju rfl|exact Jp|exact Jv rfl|exact Jo rfl rfl|exact Js rfl rfl|exact Jn rfl rfl|exact Jk rfl rfl|exact Jl rfl rfl);(first|assumption|rfl))|walk_at "vs1")
        unfold rsZ01n2
        (repeat' walk_at "vs1")
        refine JFg Jh Jj trivial JF7 ?_
        by_cases hw : ∃ w : Wd,v = w.s
        · rw [(JVs v).mpr hw]
          obtain ⟨w,rfl⟩:=hw
          (repeat' walk_at "vs1")
          refine Pt rfl ?_
          have hlf : Ue (.lst (Yb w.fs)) = some w.fs.length:=by simp [Ue,Yb]
          (repeat' walk_at "vs1")
          · refine hR _ _ _ rfl ⟨rfl,?_⟩
            congr 2
            rw [Mj] at hif
            have hne : (D.str w.s :: r).length ≠ w.fs.length + 1:=fun z=>by
              rw [z] at hif
              simp at hif
            cases r with
            | nil=>rfl
            | cons y r=>exact (JFv fun z=>hne (by simp only [List.length_cons]; omega)).symm
          · rw [Mj] at hif
            have hne : (D.str w.s :: r).length = w.fs.length + 1:=by
              have : (((D.str w.s :: r).length : Nat) : Int) = ((w.fs.length : Nat) : Int) + 1:=by simpa using hif
              omega
            cases r with
            | nil=>exfalso; cases w <;> cases hne
            | cons y r =>
              refine JF2 (by simp only [List.length_cons] at hne; omega) hx fun b ρ h1 h2=>?_
              exact hR _ _ _ h1 ⟨rfl,by rw [h2]⟩
        · have : ([D.str ("row" : Str),.str ("fix" : Str),.str ("gone" : Str)].any fun z=>deq z (.str v)) = false:=by
            rw [Bool.eq_false_iff]
            exact fun z=>hw ((JVs v).mp z)
          rw [this]
          (repeat' walk_at "vs1")
          refine hR _ _ _ rfl ⟨rfl,?_⟩
          congr 2
          cases r with
          | nil=>rfl
          | cons y r=>exact (JP2 fun w z=>hw ⟨w,z⟩).symm
      · have hs' : (!Ui x "str") = true:=by simpa using hs
        (repeat' first|((with_reducible apply Vq);(first|exact Jh|exact Jq rfl|exact Jj|exact Jr rfl|exact Jt|exact Ju rfl|exact Jp|exact Jv rfl|exact Jo rfl rfl|exact Js rfl rfl|exact Jn rfl rfl|exact Jk rfl rfl|exact Jl rfl rfl);(first|assumption|rfl))|walk_at "vs1")
        refine hR _ _ _ rfl ⟨rfl,?_⟩
        congr 2
        cases r with
        | nil=>cases x <;> rfl
        | cons y r=>rw [JWy (by simpa using hs)]; rfl
  | _ =>
    (repeat' first|((with_reducible apply Vq);(first|exact Jh|exact Jq rfl|exact Jj|exact Jr rfl|exact Jt|exact Ju rfl|exact Jp|exact Jv rfl|exact Jo rfl rfl|exact Js rfl rfl|exact Jn rfl rfl|exact Jk rfl rfl|exact Jl rfl rfl);(first|assumption|rfl))|walk_at "vs1")
    exact hR _ _ _ rfl ⟨rfl,rfl⟩
theorem JNv {ps : List Pc} {e : Ent} (hs : ShG (wdE e) ps) (hb : EntB e) : Ev (SZ0n g) [.v (.lst (Yh ps)),.v e.d] (.v (.str (lnX ps e))):=fnP rfl fun DA hR hN hX=>by
  obtain ⟨g1,g2⟩:=hs
  show asZ0n (SZ09 g) DA [some (.v (.lst (Yh ps))),some (.v e.d),none,none,none,none]
  have hR' : ∀ ρ,fin [0,1] 0 [.v (.lst (Yh ps)),.v e.d] ρ = some [.v (.lst (Yh ps)),.v e.d] → DA.rt (.v (.str (lnX ps e))) ρ:=fun ρ h=>hR _ _ _ h ⟨rfl,rfl⟩
  clear hR hN hX
  rw [Tg] at hR' ⊢
  have h0 : itD (.tup (.str (wdE e).s :: (wdE e).fs.map (tfE e))) (.int 0) = some (.str (wdE e).s):=Wb (k:=0) rfl
  unfold asZ0n
  (repeat' walk_at "vs1")
  refine Pt rfl ?_
  (repeat' walk_at "vs1")
  unfold rsZ0nn2
  (repeat' walk_at "vs1")
  unfold rsZ0nn3
  (repeat' walk_at "vs1")
  refine ⟨Yh ps,rfl,?_⟩
  refine Xj Pc.d (fun r ρ=>∃ dn t,ps = dn ++ r ∧ t.length ≤ 1002 * dn.length ∧ t.cps.toList = dn.flatMap (fun p=>(pcX e p).cps.toList) ∧ ρ = [some (.v (.lst (Yh ps))),some (.v (.tup (.str (wdE e).s :: (wdE e).fs.map (tfE e)))),some (.v (.lst (Yb (wdE e).fs))),some (.v (.str t)),none,none]) ?_ ?_ ps _ ⟨[],Str.ofString "",rfl,by decide,(by show (Str.ofString "").cps.toList = []; decide),rfl⟩
  · rintro ρ ⟨dn,t,e1,ht,htt,rfl⟩
    refine ⟨trivial,?_⟩
    rw [List.append_nil] at e1
    subst e1
    unfold rsZ0nn4
    (repeat' walk_at "vs1")
    have e2 : t = lnX ps e:=JPb (by rw [htt,lnX,JF1,List.flatMap_map])
    rw [e2]
    exact hR' _ rfl
  · rintro p r ρ ⟨dn,t,e1,ht,htt,rfl⟩ K ih
    refine ⟨trivial,?_⟩
    have hpm : p ∈ ps:=by rw [e1]; simp
    have hdl : dn.length < 15:=by
      rw [e1] at g2
      simp at g2
      omega
    have hpl:=JJr hb (g1 p hpm)
    have fin : ∀ s : Str,s = pcX e p → K [some (.v (.lst (Yh ps))),some (.v (.tup (.str (wdE e).s :: (wdE e).fs.map (tfE e)))),some (.v (.lst (Yb (wdE e).fs))),some (.v (.str (t ++ s))),none,none]:=fun s hs=>by
      refine ih _ ⟨dn ++ [p],t ++ s,by rw [e1]; simp,?_,?_,rfl⟩
      · rw [JNy,List.length_append,List.length_singleton,hs]
        omega
      · rw [JP4,htt,List.flatMap_append,hs]
        simp
    rcases g1 p hpm with ⟨f,rfl,hf⟩ | ⟨m,rfl,hm⟩
    · have i0 : itD (.tup [.str ("field" : Str),.str f]) (.int 0) = some (.str ("field" : Str)):=rfl
      have i1 : itD (.tup [.str ("field" : Str),.str f]) (.int 1) = some (.str f):=rfl
      have hix : itD (.tup (.str (wdE e).s :: (wdE e).fs.map (tfE e))) (.int (1 + (((wdE e).fs.idxOf f : Nat) : Int))) = some (tfE e f):=by
        have h1:=(Oe hf).1
        rw [show (1 + (((wdE e).fs.idxOf f : Nat) : Int)) = (((wdE e).fs.idxOf f + 1 : Nat) : Int) by omega]
        refine Wb ?_
        rw [List.getElem?_cons_succ,List.getElem?_map,h1]
        rfl
      unfold Pc.d
      (repeat' walk_at "vs1")
      unfold bdZ0nn1
      (repeat' walk_at "vs1")
      all_goals first
        | (exfalso; revert hif; decide)
        | skip
      refine ⟨(wdE e).fs,f,rfl,rfl,hf,?_⟩
      have hfin:=fin (tt e f) rfl
      have htl : (tt e f).length ≤ 1002:=hpl
      rcases Ow hb hf with ⟨s,h5,h6,_⟩ | ⟨i,h5,h6,h7,_⟩
      · rw [h5] at hix
        rw [h6] at hfin htl
        (repeat' walk_at "vs1")
        refine JZf Jh ?_
        (repeat' walk_at "vs1")
        · omega
        · exact hfin
      · rw [h5] at hix
        rw [h7] at hfin htl
        (repeat' walk_at "vs1")
        refine JJe Jh (JX6 h6) ?_
        (repeat' walk_at "vs1")
        · omega
        · exact hfin
    · have i0 : itD (.tup [.str ("mark" : Str),.str m]) (.int 0) = some (.str ("mark" : Str)):=rfl
      have i1 : itD (.tup [.str ("mark" : Str),.str m]) (.int 1) = some (.str m):=rfl
      unfold Pc.d
      (repeat' walk_at "vs1")
      unfold bdZ0nn1
      (repeat' walk_at "vs1")
      all_goals first
        | (exfalso; revert hif; decide)
        | skip
      · omega
      · exact fin m rfl
end
def JVc (x : Str) : D:=.tup [.str x,.non,.bl true]
def Nj : D:=.tup [.non,.tup [.str ("entry" : Str),.int 0],.bl true]
def O4 (d : D) : D:=.tup [.non,.tup [.str ("form" : Str),d],.bl true]
section
variable {EA : AX} {ρ ρ' : J0} {Q : AK} {DA : AEnds} {g : Gm} [Gok g]
theorem JBq {f d : D} {x : Str} (h : Ev (SZ0g g) [.v f,.v d] (.v (.str x))) : Ev (SZ0a g) [.v f,.v d] (.v (JVc x)):=fnP rfl fun DA hR hN hX=>by
  show asZ0a g.K g.Y3 g.Jm g.U7 (SZ0g g) DA [some (.v f),some (.v d),none,none,none,none]
  unfold asZ0a
  (repeat' walk_at "vs1")
  unfold rsZ0an2
  (repeat' walk_at "vs1")
  unfold rsZ0an3
  (repeat' walk_at "vs1")
  unfold rsZ0an4
  (repeat' walk_at "vs1")
  refine kEv rfl h ?_
  (repeat' walk_at "vs1")
  unfold rsZ0an5
  (repeat' walk_at "vs1")
  exact hR _ _ _ rfl ⟨rfl,rfl⟩
theorem JOx {f d : D} (h : Rz (SZ0g g) [.v f,.v d] g.Y3 [(("at" : Str),.int 0)]) : Ev (SZ0a g) [.v f,.v d] (.v Nj):=fnP rfl fun DA hR hN hX=>by
  show asZ0a g.K g.Y3 g.Jm g.U7 (SZ0g g) DA [some (.v f),some (.v d),none,none,none,none]
  have hR' : ∀ ρ,fin [0,1] 0 [.v f,.v d] ρ = some [.v f,.v d] → DA.rt (.v Nj) ρ:=fun ρ h=>hR _ _ _ h ⟨rfl,rfl⟩
  clear hR hN hX
  unfold asZ0a
  (repeat' walk_at "vs1")
  unfold rsZ0an2
  (repeat' walk_at "vs1")
  unfold rsZ0an3
  (repeat' walk_at "vs1")
  unfold rsZ0an4
  (repeat' walk_at "vs1")
  refine kRz rfl h ?_
  refine JUn (JW7 (Gok.JKu (g:=g)) ⟨fun z=>(nomatch z),Nat.le_of_ble_eq_true rfl⟩ ?_)
  simp only [hSt,G0,List.set_cons_zero,List.set_cons_succ]
  (repeat' walk_at "vs1")
  refine Lp (Gok.JYv (g:=g)) ?_
  (repeat' walk_at "vs1")
  unfold rsZ0an5
  (repeat' walk_at "vs1")
  exact hR' _ rfl
theorem JXw {f d v : D} (h : Rz (SZ0g g) [.v f,.v d] g.Jm [(("value" : Str),v)]) : Ev (SZ0a g) [.v f,.v d] (.v (O4 v)):=fnP rfl fun DA hR hN hX=>by
  show asZ0a g.K g.Y3 g.Jm g.U7 (SZ0g g) DA [some (.v f),some (.v d),none,none,none,none]
  have hR' : ∀ ρ,fin [0,1] 0 [.v f,.v d] ρ = some [.v f,.v d] → DA.rt (.v (O4 v)) ρ:=fun ρ h=>hR _ _ _ h ⟨rfl,rfl⟩
  clear hR hN hX
  unfold asZ0a
  (repeat' walk_at "vs1")
  unfold rsZ0an2
  (repeat' walk_at "vs1")
  unfold rsZ0an3
  (repeat' walk_at "vs1")
  unfold rsZ0an4
  (repeat' walk_at "vs1")
  refine kRz rfl h ?_
  refine JUn (JGw (Gok.JG3 (g:=g)) (JW7 (Gok.JB7 (g:=g)) ⟨fun z=>(nomatch z),Nat.le_of_ble_eq_true rfl⟩ ?_))
  simp only [hSt,G0,List.set_cons_zero,List.set_cons_succ]
  (repeat' walk_at "vs1")
  refine Lp (Gok.Ah (g:=g)) ?_
  (repeat' walk_at "vs1")
  unfold rsZ0an5
  (repeat' walk_at "vs1")
  exact hR' _ rfl
end
def lS (F : Wd → List Pc) : Shs:=fun w=>.l (F w)
theorem JHw {F : Wd → List Pc} (hF : FOk F) : Zx (lS F) = none:=by
  have h : ∀ w,(lS F w).ok w.fs = true:=fun w=>hF w
  unfold Zx
  rw [if_neg (by rw [h]; simp),if_neg (by rw [h]; simp),if_neg (by rw [h]; simp)]
theorem Nx {F : Wd → List Pc} (hF : FOk F) : ∀ w,(lS F w).Ok:=fun w=>by
  have hl:=(hF.len w).2
  refine ⟨by omega,fun p hp=>?_⟩
  have:=hF.pc hp
  have hw : ∀ f ∈ w.fs,f.length ≤ 1000:=by cases w <;> decide
  cases p with
  | ot d=>cases this
  | mk t =>
    simp only [Pc.ok,gmk,Bool.and_eq_true,decide_eq_true_eq] at this
    have h6:=this.1.2
    show t.length ≤ 1000
    omega
  | fd f =>
    simp only [Pc.ok,decide_eq_true_eq] at this
    exact hw f this
def sgn : Str:=" !\"#$&'()*+,-./0123456789:;<=>?@ABCDEFGHIJKLMNOPQRSTUVWXYZ[\\]^_`abcdefghijklmnopqrstuvwxyz{|}~"
def scr (ns : List Int) : A:=.v (.lst (ns.map .int))
def lsP (l : List (Wd × List Pc)) : List (Key × D):=l.map fun q=>(.inr q.1.s,.lst (Yh q.2))
theorem JKd {dn r : List Wd} {w : Wd} (h : Vl = dn ++ w :: r) : dn = [] ∧ w = .row ∨ dn = [.row] ∧ w = .fix ∨ dn = [.row,.fix] ∧ w = .gone:=by
  rcases dn with _ | ⟨z1,_ | ⟨z2,_ | ⟨z3,z4⟩⟩⟩ <;> simp [Vl] at h ⊢ <;> simp [h]
theorem JXv {l : List (Wd × List Pc)} {w : Wd} {ps : List Pc} {r : List Wd} (h : Vl = l.map (·.1) ++ w :: r) : putD (lsP l) (.inr w.s) (.lst (Yh ps)) = lsP (l ++ [(w,ps)]):=by
  rw [Pv]
  · simp [lsP]
  · rcases JKd h with ⟨h1,rfl⟩ | ⟨h1,rfl⟩ | ⟨h1,rfl⟩
    all_goals
      have e : (lsP l).map (·.1) = (l.map (·.1)).map fun w=>(.inr w.s : Key):=by simp [lsP]
      rw [e,h1]
      intro z
      obtain ⟨x,hx,e⟩:=List.mem_map.mp z
      have e2:=Sum.inr.inj e
      simp at hx
      try rcases hx with rfl | rfl
      try subst hx
      all_goals
        revert e2
        decide
theorem JXe {ρ : J0} {i : Nat} {p : A} {a b c e : D} (hp : ρ[i]? = some (some p)) : pass [.loc i,.v a,.v b,.v c,.v e] ρ = some ([p,.v a,.v b,.v c,.v e],ρ.set i none):=by simp only [pass,hp]
def lsK (F : Wd → List Pc) : List (Key × D):=[(.inr ("row" : Str),.lst (Yh (F .row))),(.inr ("fix" : Str),.lst (Yh (F .fix))),(.inr ("gone" : Str),.lst (Yh (F .gone)))]
theorem K2 (F : Wd → List Pc) (w : Wd) : itD (.dic (lsK F)) (.str w.s) = some (.lst (Yh (F w))):=by cases w <;> rfl
theorem sgn_ok : (∀ c ∈ sgn.cps.toList,32 ≤ c ∧ c ≤ 126) ∧ sgn.length = 94:=by decide
theorem JLp {w : Wd} {ps : List Pc} (h : GS sgn 6 w.fs ps) : W5 w.fs ps = true:=by
  have hl : 1 ≤ w.fs.length ∧ w.fs.length ≤ 6:=by cases w <;> decide
  have h1:=h.f.length_eq
  have h2 : (We ps).length ≤ ps.length:=List.length_filterMap_le ..
  have h3:=h.n
  have hfd : ∀ f,Pc.fd f ∈ ps → f ∈ w.fs:=fun f hf=>h.f.subset (by
    simp only [We,List.mem_filterMap]
    exact ⟨_,hf,rfl⟩)
  simp only [W5,Bool.and_eq_true,decide_eq_true_eq,List.all_eq_true]
  refine ⟨⟨⟨by omega,by omega⟩,fun p hp=>?_⟩,sort_iff.mpr h.f⟩
  rcases h.m p hp with ⟨f,rfl⟩ | ⟨t,rfl,ht⟩
  · exact decide_eq_true (hfd f hp)
  · simp only [Pc.ok,gmk,Bool.and_eq_true,decide_eq_true_eq,List.all_eq_true]
    have h4:=ht.hi
    refine ⟨⟨ht.lo,by omega⟩,fun c hc=>?_⟩
    exact sgn_ok.1 c (ht.m c hc)
def GsQ (l : List (Wd × List Pc)) : Prop:=∀ q ∈ l,W5 q.1.fs q.2 = true
theorem JGh {l : List (Wd × List Pc)} (h : Vl = l.map (·.1)) (hg : GsQ l) : ∃ F,FOk F ∧ lsP l = lsK F:=by
  rcases l with _ | ⟨⟨a1,p1⟩,_ | ⟨⟨a2,p2⟩,_ | ⟨⟨a3,p3⟩,_ | ⟨z,z4⟩⟩⟩⟩ <;> simp [Vl] at h
  obtain ⟨rfl,rfl,rfl⟩:=h
  refine ⟨fun w=>match w with | .row=>p1 | .fix=>p2 | .gone=>p3,fun w=>?_,rfl⟩
  cases w
  · exact hg (.row,p1) (by simp)
  · exact hg (.fix,p2) (by simp)
  · exact hg (.gone,p3) (by simp)
theorem Ng {F : Wd → List Pc} (h : FOk F) : ∀ p ∈ lsK F,PlD 20 p.2:=fun p hp=>by
  have key : ∀ w,PlD 20 (.lst (Yh (F w))):=fun w x hx=>by
    obtain ⟨q,hq,rfl⟩:=List.mem_map.mp hx
    rcases (h.sg w).p q hq with ⟨f,rfl,_⟩ | ⟨t,rfl,_⟩
    · simp [Pc.d,PlD]
    · simp [Pc.d,PlD]
  simp only [lsK,List.mem_cons,List.not_mem_nil,or_false] at hp
  rcases hp with rfl | rfl | rfl
  · exact key .row
  · exact key .fix
  · exact key .gone
theorem JK7 (F : Wd → List Pc) : ((lsK F).map (·.1)).Nodup:=by
  show [(.inr ("row" : Str) : Key),.inr ("fix" : Str),.inr ("gone" : Str)].Nodup
  decide
theorem JH5 (F : Wd → List Pc) : ∀ p ∈ lsK F,valD (lsK F) p.1 = some p.2:=fun p hp=>by
  simp only [lsK,List.mem_cons,List.not_mem_nil,or_false] at hp
  rcases hp with rfl | rfl | rfl <;> rfl
theorem JHh {F : Wd → List Pc} (h : FOk F) : Hq (lsK F) (lsK F) = true:=by
  unfold Hq
  simp only [BEq.rfl,Bool.true_and,List.all_eq_true]
  intro p hp
  simp only [Xu,JH5 F p hp]
  exact F6 20 _ (Ng h p hp)
section
variable {EA : AX} {ρ ρ' : J0} {Q : AK} {DA : AEnds} {g : Gm} [Gok g]
theorem JH3 : Ev (SZ0f g) [] (.v (.str sgn)):=evI rfl fun DA hR hN=>by
  show asZ0f DA [none]
  unfold asZ0f
  (repeat' walk_at "vs1")
  unfold rsZ0fn2
  (repeat' walk_at "vs1")
  · decide
  exact hR _ _ rfl rfl
theorem JNq (k : Q (.v (.str sgn)) ρ) : U1 (SZ0f g) [] EA ρ Q:=kEv rfl JH3 k
theorem JNn {aa : AA} {QI : List D → (J0 → Prop) → J0 → Prop} (k : aa EA ρ fun xs ρ1=>∃ x y i j,xs = [x,y] ∧ dat x ρ1 = some (.int i) ∧ dat y ρ1 = some (.int j) ∧ (-(2 ^ 62) ≤ i ∧ i < 2 ^ 62 ∧ -(2 ^ 62) ≤ j ∧ j < 2 ^ 62) ∧ QI (Wu i (j - i).toNat) (fun _=>True) ρ1) : L8 aa EA ρ QI:=k
theorem JNa {F : Wd → List Pc} (hF : FOk F) : Mks (SZ02 g) g.J9 [.v (.lst (Yh (F .row))),.v (.lst (Yh (F .fix))),.v (.lst (Yh (F .gone)))] (.obj g.J9 (Lc F)) :=
  ⟨(O6 (g:=g) (Nx hF)).pre,fun r o p=>((O6 (g:=g) (Nx hF)).po r o p).2,fun C fs o p=>by
    obtain ⟨w,hw,_⟩:=(O6 (g:=g) (Nx hF)).ex C fs o p
    rw [JHw hF] at hw
    cases hw⟩
theorem JGv {ns : List Int} (hl : ns.length ≤ 63) {l : List (Wd × List Pc)} {r : List Wd} {w : Wd} {o3 : Option A} (hw : Vl = l.map (·.1) ++ w :: r) (hg : GsQ l)
    (k : ∀ ps,GsQ (l ++ [(w,ps)]) → DA.nx [some (scr ns),some (.dic (lsP (l ++ [(w,ps)]))),none,none,none,none,none,none,none,none,none]) :
    bdZ0tn1 g.K g.J9 (SZ08 g) (SZ0h g) (SZ0f g) (SZ0j g) (SZ0d g) (SZ03 g) (SZ0a g) (SZ01 g) (SZ0n g) (SZ02 g) DA [some (scr ns),some (.dic (lsP l)),some (.v (.str w.s)),o3,none,none,none,none,none,none,none]:=by
  unfold bdZ0tn1 scr
  (repeat' walk_at "vs1")
  refine ⟨[("row" : Str),("fix" : Str),("gone" : Str)],w.s,rfl,rfl,by cases w <;> decide,?_⟩
  (repeat' walk_at "vs1")
  refine Wt rfl (JVp (g:=g) hl) fun p hp=>?_
  obtain ⟨a,b,c,rfl,ha⟩:=hp
  have hp : Yo (stA a b c):=⟨a,b,c,rfl,ha⟩
  unfold stA at hp ⊢
  (repeat' walk_at "vs1")
  refine JNq ?_
  (repeat' walk_at "vs1")
  refine Uy rfl hp (by decide) (by decide) fun z p hz0 hz1 hp=>?_
  (repeat' walk_at "vs1")
  refine Wl (JXe rfl) (JLk hp (by decide) (by decide) (by rw [sgn_ok.2]; decide) (by rw [sgn_ok.2]; decide)) (fun r o q=>?_) fun _ _ _ z=>z.elim
  obtain ⟨p,ps,hp,hgs,rfl,rfl⟩:=q
  (simp only [Yj,give,List.set_cons_zero,List.set_cons_succ])
  (repeat' walk_at "vs1")
  · have:=congrArg List.length hw
    simp [Vl] at this
    show (lsP l).length ≤ 100000
    simp [lsP]
    omega
  · show DA.nx [some (scr ns),some (.dic (putD (lsP l) (.inr w.s) (.lst (Yh ps)))),none,none,none,none,none,none,none,none,none]
    rw [JXv hw]
    refine k ps fun q hq=>?_
    rcases List.mem_append.mp hq with hq | hq
    · exact hg q hq
    · have e : q = (w,ps):=by simpa using hq
      subst e
      exact JLp hgs
theorem JV2 {i : Nat} {y : A} {k : D → J0 → Prop} (h : ρ[i]? = some (some y)) (q : k y.toD (ρ.set i (some (.v y.toD)))) : Yl (.loc i) ρ k:=⟨y,h,q⟩
theorem S8 {i : Nat} {y : A} (h : ρ[i]? = some (some y)) : dat (.loc i) ρ = some y.toD:=by simp only [dat,h]
theorem JBa {ns : List Int} (hl : ns.length ≤ 63) {F : Wd → List Pc} (hF : FOk F) {y z : A} (hy : y.toD = .dic (lsK F)) (hz : z.toD = V4 g.J9 F) {k : Nat} {o2 o3 o6 o7 o8 o9 o10 : Option A}
    (hK : ∀ o2 o3 o5 o6 o7 o8 o9 o10,DA.nx [some (scr ns),some (.v (.dic (lsK F))),o2,o3,some (.v (V4 g.J9 F)),o5,o6,o7,o8,o9,o10]) :
    bdZ0tn2 g.K g.J9 (SZ08 g) (SZ0h g) (SZ0f g) (SZ0j g) (SZ0d g) (SZ03 g) (SZ0a g) (SZ01 g) (SZ0n g) (SZ02 g) DA [some (scr ns),some y,o2,o3,some z,some (.v (.int (k : Nat))),o6,o7,o8,o9,o10]:=by
  unfold bdZ0tn2 scr
  with_reducible refine F0 (fun ρ=>∃ p o5,Yo p ∧ ρ = [some (.v (.lst (ns.map .int))),some y,o2,some p,some z,o5,o6,o7,o8,o9,o10]) (fun kk hkk=>?_) ?_
  · (repeat' walk_at "vs1")
    refine Wt rfl (JVp (g:=g) hl) fun p hp=>?_
    obtain ⟨a,b,c,rfl,ha⟩:=hp
    have hp : Yo (stA a b c):=⟨a,b,c,rfl,ha⟩
    unfold stA at hp ⊢
    (repeat' walk_at "vs1")
    exact hkk _ ⟨_,_,hp,rfl⟩
  rintro ρ ⟨p,o5,hp,rfl⟩
  with_reducible refine F0 (fun ρ=>∃ p u,Yo p ∧ ρ = [some (.v (.lst (ns.map .int))),some y,o2,some p,some z,none,some (.v (.int u)),o7,o8,o9,o10]) (fun kk hkk=>?_) ?_
  · (repeat' walk_at "vs1")
    refine Uy rfl hp (by decide) (by decide) fun u p hz0 hz1 hp=>?_
    (repeat' walk_at "vs1")
    exact hkk _ ⟨_,_,hp,rfl⟩
  rintro ρ ⟨p,u,hp,rfl⟩
  with_reducible refine F0 (fun ρ=>∃ p e,Yo p ∧ EntB e ∧ ρ = [some (.v (.lst (ns.map .int))),some y,o2,some p,some z,none,some (.v (.int u)),some (.v e.d),o8,o9,o10]) (fun kk hkk=>?_) ?_
  · (repeat' walk_at "vs1")
    refine Wl (JVn rfl) (JP7 (g:=g) hp) (fun r o q=>?_) fun _ _ _ z=>z.elim
    obtain ⟨e,p,hp,_,hb,rfl,rfl⟩:=q
    (simp only [Yj,give,List.set_cons_zero,List.set_cons_succ])
    (repeat' walk_at "vs1")
    exact hkk _ ⟨_,_,hp,hb,rfl⟩
  rintro ρ ⟨p,e,hp,hb,rfl⟩
  with_reducible refine F0 (fun ρ=>∃ o3 o6 d,Th d ∧ ρ = [some (.v (.lst (ns.map .int))),some y,o2,o3,some z,none,o6,some (.v d),o8,o9,o10]) (fun kk hkk=>?_) ?_
  · (repeat' walk_at "vs1")
    · refine Wl (Ks rfl rfl) (JKx (g:=g) hp hb) (fun r o q=>?_) fun _ _ _ z=>z.elim
      obtain ⟨d,p,hp,hd,hr,rfl⟩:=q
      rcases hr with rfl | ⟨ds,rfl,rfl⟩
      · (simp only [Yj,give,List.set_cons_zero,List.set_cons_succ])
        (repeat' walk_at "vs1")
        exact hkk _ ⟨_,_,d,hd,rfl⟩
      · (simp only [Yj,give,List.set_cons_zero,List.set_cons_succ])
        (repeat' walk_at "vs1")
        exact hkk _ ⟨_,_,.lst ds,hd,rfl⟩
    · exact hkk _ ⟨_,_,_,hb.th,rfl⟩
  rintro ρ ⟨o3,o6,d,hd,rfl⟩
  have hpe : PlD 20 (.tup [.str ("entry" : Str),.int 0]):=fun z hz=>by
    simp at hz
    rcases hz with rfl | rfl <;> trivial
  have hf0 : itD (.tup [.str ("form" : Str),.dic (lsK F)]) (.int 0) = some (.str ("form" : Str)):=rfl
  have hf1 : itD (.tup [.str ("form" : Str),.dic (lsK F)]) (.int 1) = some (.dic (lsK F)):=rfl
  with_reducible refine F0 (fun ρ=>∃ o2 o3 o6 o5,ρ = [some (.v (.lst (ns.map .int))),some y,o2,o3,some (.v (V4 g.J9 F)),o5,o6,some (.v d),(match Vb d with | some e=>some (.v (.str (lnX (F (wdE e)) e))) | none=>some (.v .non)),(match Vb d with | some _=>some (.v .non) | none=>some (.v (.tup [.str ("entry" : Str),.int 0]))),some (.v (.bl true))]) (fun kk hkk=>?_) ?_
  · (repeat' walk_at "vs1")
    refine JV2 (y:=z) rfl ?_
    rw [hz]
    (simp only [Yj,give,List.set_cons_zero,List.set_cons_succ])
    (repeat' walk_at "vs1")
    cases he : Vb d with
    | none =>
      rw [he] at hkk
      refine kEv rfl (JOx (JXb (F:=F) hd.e he)) ?_
      unfold Nj
      (repeat' walk_at "vs1")
      exact hkk _ ⟨_,_,_,_,rfl⟩
    | some e =>
      rw [he] at hkk
      obtain ⟨rfl,hb⟩:=Qd hd he
      refine kEv rfl (JBq (TZ0g hF he hd.e hb)) ?_
      unfold JVc
      (repeat' walk_at "vs1")
      exact hkk _ ⟨_,_,_,_,rfl⟩
  rintro ρ ⟨o2,o3,o6,o5,rfl⟩
  with_reducible refine F0 (fun ρ=>∃ o2 o3 o6 o5 o8 o9 o10,ρ = [some (.v (.lst (ns.map .int))),some y,o2,o3,some (.v (V4 g.J9 F)),o5,o6,some (.v d),o8,o9,o10]) (fun kk hkk=>?_) ?_
  · (repeat' walk_at "vs1")
    refine Wt rfl (JL9 (g:=g) hd.e) fun r er=>?_
    subst er
    cases he : Vb d with
    | none =>
      (repeat' walk_at "vs1")
      refine JGa (Nb Jh Jh hpe hpe ?_)
      rw [F6 20 _ hpe]
      (repeat' walk_at "vs1")
      exact hkk _ ⟨_,_,_,_,_,_,_,rfl⟩
    | some e =>
      obtain ⟨rfl,hb⟩:=Qd hd he
      have h0 : itD e.d (.int 0) = some (.str (wdE e).s):=by cases e <;> rfl
      (repeat' walk_at "vs1")
      refine Zw (d:=.dic (lsK F)) (by rw [← hy]; exact S8 rfl) Jh (K2 F (wdE e)) ?_
      (repeat' walk_at "vs1")
      refine kEv rfl (JNv (hF.sg _) hb) ?_
      (repeat' walk_at "vs1")
      · exfalso
        rw [Zj] at hif
        simp at hif
      · exact hkk _ ⟨_,_,_,_,_,_,_,rfl⟩
  rintro ρ ⟨o2,o3,o6,o5,o8,o9,o10,rfl⟩
  (repeat' walk_at "vs1")
  refine JV2 (y:=y) rfl ?_
  rw [hy]
  (simp only [Yj,give,List.set_cons_zero,List.set_cons_succ])
  (repeat' walk_at "vs1")
  refine kEv rfl (JXw (JLb (kvs:=lsK F) (x:=d))) ?_
  unfold O4
  (repeat' walk_at "vs1")
  all_goals first
    | (exfalso; revert hif; decide)
    | skip
  refine JKh ⟨lsK F,lsK F,rfl,rfl,Ng hF,Ng hF,JK7 F,?_⟩
  rw [JHh hF]
  (repeat' walk_at "vs1")
  exact hK _ _ _ _ _ _ _ _
section
variable {ns : List Int} {F : Wd → List Pc} (hn : ns.length ≤ 63) (hR : ∀ o1 o2 o3 o4 o5 o6 o7 o8 o9 o10,DA.rt (.v (.bl true)) [some (scr ns),o1,o2,o3,o4,o5,o6,o7,o8,o9,o10])
include hn hR
theorem JHr (hF : FOk F) : rsZ0tn3 g.K g.J9 (SZ08 g) (SZ0h g) (SZ0f g) (SZ0j g) (SZ0d g) (SZ03 g) (SZ0a g) (SZ01 g) (SZ0n g) (SZ02 g) DA [some (scr ns),some (.dic (lsK F)),none,none,none,none,none,none,none,none,none]:=by
  have r1:=K2 F .row
  have r2:=K2 F .fix
  have r3:=K2 F .gone
  have hln : Ue (.lst (ns.map .int)) = some ns.length:=by simp [Ue]
  unfold rsZ0tn3
  (repeat' walk_at "vs1")
  refine JKv rfl (JNa hF) ?_
  (repeat' walk_at "vs1")
  unfold rsZ0tn4 scr
  (repeat' walk_at "vs1")
  refine JNn ?_
  (repeat' walk_at "vs1")
  generalize hj : (if (if (15 : Int) < ↑ns.length then (15 : Int) else ↑ns.length) > 4 then if (15 : Int) < ↑ns.length then (15 : Int) else ↑ns.length else 4) = j
  have hj2 : 0 ≤ j ∧ j ≤ 100:=by
    rw [← hj]
    split <;> (try split) <;> omega
  refine ⟨_,_,3,j,rfl,rfl,rfl,⟨by decide,by decide,by omega,by omega⟩,?_⟩
  unfold Wu
  refine Xj (fun i : Nat=>D.int (3 + ((i : Nat) : Int))) (fun r ρ=>∃ y z o2 o3 o5 o6 o7 o8 o9 o10,y.toD = .dic (lsK F) ∧ z.toD = V4 g.J9 F ∧ ρ = [some (scr ns),some y,o2,o3,some z,o5,o6,o7,o8,o9,o10]) ?_ ?_ _ _ ⟨_,_,_,_,_,_,_,_,_,_,rfl,rfl,rfl⟩
  · rintro ρ ⟨y,z,o2,o3,o5,o6,o7,o8,o9,o10,hy,hz,rfl⟩
    refine ⟨trivial,?_⟩
    unfold rsZ0tn5 scr
    (repeat' walk_at "vs1")
    exact hR _ _ _ _ _ _ _ _ _ _
  · rintro i r ρ ⟨y,z,o2,o3,o5,o6,o7,o8,o9,o10,hy,hz,rfl⟩ K ih
    refine ⟨trivial,?_⟩
    refine Lf ?_
    (simp only [Yj,give,List.set_cons_zero,List.set_cons_succ])
    rw [show (3 + ((i : Nat) : Int)) = ((3 + i : Nat) : Int) by omega]
    refine JBa hn hF hy hz fun o2 o3 o5 o6 o7 o8 o9 o10=>?_
    exact ih _ ⟨_,_,_,_,_,_,_,_,_,_,rfl,rfl,rfl⟩
end
theorem TZ0t {ns : List Int} (hn : ns.length ≤ 63) : Val (SZ0t g) [.v (.lst (ns.map .int))] (fun r=>r = .v (.bl true)):=fnP rfl fun DA hR hN hX=>by
  show asZ0t g.K g.J9 (SZ08 g) (SZ0h g) (SZ0f g) (SZ0j g) (SZ0d g) (SZ03 g) (SZ0a g) (SZ01 g) (SZ0n g) (SZ02 g) DA [some (scr ns),none,none,none,none,none,none,none,none,none,none]
  have hR' : ∀ o1 o2 o3 o4 o5 o6 o7 o8 o9 o10,DA.rt (.v (.bl true)) [some (scr ns),o1,o2,o3,o4,o5,o6,o7,o8,o9,o10]:=fun o1 o2 o3 o4 o5 o6 o7 o8 o9 o10=>hR _ _ _ rfl ⟨rfl,rfl⟩
  unfold asZ0t
  (repeat' walk_at "vs1")
  unfold rsZ0tn2
  (repeat' walk_at "vs1")
  refine ⟨wdsD,rfl,?_⟩
  refine Xj (fun w : Wd=>D.str w.s) (fun r ρ=>∃ (l : List (Wd × List Pc)),Vl = l.map (·.1) ++ r ∧ GsQ l ∧ ρ = [some (scr ns),some (.dic (lsP l)),none,none,none,none,none,none,none,none,none]) ?_ ?_ Vl _ ⟨[],rfl,(fun _ h=>nomatch h),rfl⟩
  · rintro ρ ⟨l,e,hg,rfl⟩
    refine ⟨trivial,?_⟩
    rw [List.append_nil] at e
    obtain ⟨F,hF,eK⟩:=JGh e hg
    rw [eK]
    exact JHr hn hR' hF
  · rintro w r ρ ⟨l,hw,hg,rfl⟩ K ih
    refine ⟨trivial,?_⟩
    refine Lf ?_
    (simp only [Yj,give,List.set_cons_zero,List.set_cons_succ])
    refine JGv hn hw hg fun ps h2=>ih _ ⟨l ++ [(w,ps)],by rw [hw]; simp,h2,rfl⟩
end
end Law
set_option maxHeartbeats 0
namespace Law
open PySem PySem.Spec PyProof.Rows L2 Vs
instance tbsL : Tbs:=⟨fun K=>tfL.map fun p=>((He.cT K p).2,(match p.2 with | some m=>p.1 ++ "." ++ m | none=>p.1) ++ ".<locals>.<lambda>")⟩
theorem Y6 (i : Nat) {f : He.Fa} (h : faL[i]? = some f:=by rfl) : f ∈ faL:=List.mem_of_getElem? h
theorem fnAt (i : Nat) {d : He.DefD} (h : fnL[i]? = some d:=by rfl) : d ∈ fnL:=List.mem_of_getElem? h
theorem Yy {K : PySem.W.Frag} (h : exK K = true) (i : Nat) {f : PySem.W.Frag → Bool} (hf : exL[i]? = some f:=by rfl) : f K = true:=List.all_eq_true.mp h f (List.mem_of_getElem? hf)
theorem Lr {K : Fg} {H : Hp} : ∀ ns : List Int,RepL K H (ns.map D.int) (ns.map V.int)
  | []=>by simp only [List.map_nil,RepL]
  | n :: ns=>by
    simp only [List.map_cons,RepL,Rep]
    exact ⟨_,_,rfl,rfl,Lr ns⟩
def gmL (K : PySem.W.Frag) : Gm:=⟨K,He.ga K "Form",He.ga K "BadForm",He.ga K "BadEntry",He.ga K "HallError"⟩
theorem lift_law {K : Fg} {H : Hp} {a : Addr} {ns : List Int} (gk : Gok (gmL K)) (hS : SqL K H a (ns.map V.int)) (hn : ns.length ≤ 63) (hT : ∀ p ∈ tfL.map (He.cT K),H p.2 = some (.tbl #[])) : lift K (SZ0t (gmL K)) [.ref a] H (fun v _=>v = .bl true) fun _ _ _=>False:=by
  have tabs : ∀ b ∈ (Tbs.T K).map (·.1),H b = some (.tbl #[]):=fun b hb=>by
    obtain ⟨q,hq,rfl⟩:=List.mem_map.mp hb
    obtain ⟨r,hr,rfl⟩:=List.mem_map.mp hq
    exact hT _ (List.mem_map.mpr ⟨r,hr,rfl⟩)
  have hS2 : SqL K (Ws H ((Tbs.T K).map (·.1))) a (ns.map V.int):=SqL.but hS fun b o ho e=>by
    rw [Ft (fun z=>by rw [tabs b z] at e; cases e; cases ho)]
    exact e
  have hr : Rep K (Ws H ((Tbs.T K).map (·.1))) (.lst (ns.map D.int)) (.ref a):=by
    simp only [Rep]
    exact ⟨a,_,rfl,hS2,Lr ns⟩
  have T:=TZ0t (g:=gmL K) hn
  refine ⟨⟨fun _=>none,Ws H ((Tbs.T K).map (·.1)),[]⟩,Ws H ((Tbs.T K).map (·.1)),[.v (.lst (ns.map D.int))],rfl,rfl,?_,fun _ _ e=>e,fun _ _ e=>e,T.pre,fun r xs' v H' S' hp _ _ st=>?_,fun C fs xs' dd H' S' he=>(T.ex _ _ _ he).elim⟩
  · refine ⟨⟨[],?_,List.nodup_nil,(fun _ h=>nomatch h)⟩,?_,(fun _ _ h=>nomatch h),Le.of_same (fun b o e=>?_),(fun _ _ e=>nomatch e),(fun _ h=>absurd rfl h),(fun _ _ e=>e),(fun _ h=>nomatch h),fun p hp=>⟨rfl,Hi (List.mem_map.mpr ⟨p,hp,rfl⟩),#[],tabs _ (List.mem_map.mpr ⟨p,hp,rfl⟩),trivial,fun pos cv z=>?_⟩⟩
    · simp [Y2,Yc,RepP,RepA,hr]
    · exact Fj (vs:=[.ref a]) (xs:=[.v (.lst (ns.map D.int))]) rfl fun x hx=>by
        have : x = .v (.lst (ns.map D.int)):=by simpa using hx
        subst this
        rfl
    · by_cases q : b ∈ (Tbs.T K).map (·.1)
      · rw [Hi q] at e; cases e
      · rw [Ft q] at e; exact e
    · have z2 : codeAmong pos [] = some cv:=z
      simp [codeAmong] at z2
  · have e:=(T.po _ _ hp).2
    subst e
    obtain ⟨g,hg⟩:=st.held2 (List.mem_cons_self ..) (y:=.v (.bl true)) rfl
    simp only [RepA,Rep] at hg
    exact hg.1
theorem facts {P : Program} {w : World} {K : PySem.W.Frag} {h : Heap} {mg : Str → Option Value} {f : Addr} (X : K.In h) (G : h.Ns mainGlobals mg) (hfa : mg ("law" : Str) = some (.ref f)) (cx : He.SaysX faL fnL tsL tfL exK w h K) (cg : SaysG gtL K) :
    Gok (gmL K) ∧ ∃ fd : FuncData,(∀ (s : Shared) (v : Value),BindsTo s fd ⟨[v],[]⟩ [("_law_script",v)]) ∧ ∀ base : Heap,K.In base → base.Ns mainGlobals mg → (∀ p ∈ tfL.map (He.cT K),LamX.TabB base mg p.1 p.2) → Fok P w K mg base 6 f fd ["_law_script"] (SZ0t (gmL K)):=by
  have c:=cx.t.d
  have e:=hfa.symm.trans (He.glo_ok X G (c.facts (f:=.glo "law") (Y6 33)))
  cases e
  obtain ⟨fdZ0t,FZ0t⟩:=c.defs (d:=dZ0t) (fnAt 32)
  have b:=FunD.bindsA (ps:=["_law_script"]) FZ0t fun _ _ _ _ _ _ us hl=>match us,hl with | [_],_=>rfl
  have cl_Form:=He.cls_ok (c.facts (f:=.cls "Form") (Y6 57))
  have gk : Gok (gmL K):=⟨To cl_Form (Yy cx.more 8),Us (Yy cx.more 24),Us (Yy cx.more 11),Us (Yy cx.more 12),Us (Yy cx.more 14),Us (Yy cx.more 16),Us (Yy cx.more 18),Us (Yy cx.more 20),Us (Yy cx.more 22),Us (Yy cx.more 13),Us (Yy cx.more 15),Us (Yy cx.more 17),Us (Yy cx.more 19),Us (Yy cx.more 21),Us (Yy cx.more 23),He.exm_ok (c.facts (f:=.exm "BadForm" "BadForm" true) (Y6 64)),He.exm_ok (c.facts (f:=.exm "BadForm" "BadEntry" false) (Y6 63)),He.exm_ok (c.facts (f:=.exm "BadEntry" "BadForm" false) (Y6 62)),He.exm_ok (c.facts (f:=.exm "BadEntry" "BadEntry" true) (Y6 61)),Us (Yy cx.more 5),Us (Yy cx.more 7)⟩
  refine ⟨gk,fdZ0t,fun s v=>b s [v] rfl,fun base _ _ TBs=>?_⟩
  have u_WORDS:=He.glo_ok X G (c.facts (f:=.glo "WORDS") (Y6 6))
  have u_FIELDS:=He.glo_ok X G (c.facts (f:=.glo "FIELDS") (Y6 7))
  have g_isinstance:=He.free_ok X G (c.facts (f:=.free "isinstance") (Y6 42))
  have g_int:=He.free_ok X G (c.facts (f:=.free "int") (Y6 38))
  have g_bool:=He.free_ok X G (c.facts (f:=.free "bool") (Y6 47))
  have g_list:=He.free_ok X G (c.facts (f:=.free "list") (Y6 37))
  have g_tuple:=He.free_ok X G (c.facts (f:=.free "tuple") (Y6 39))
  have g_str:=He.free_ok X G (c.facts (f:=.free "str") (Y6 48))
  have g_len:=He.free_ok X G (c.facts (f:=.free "len") (Y6 36))
  have g_all:=He.free_ok X G (c.facts (f:=.free "all") (Y6 40))
  have g_ord:=He.free_ok X G (c.facts (f:=.free "ord") (Y6 34))
  have g_abs:=He.free_ok X G (c.facts (f:=.free "abs") (Y6 46))
  have g_range:=He.free_ok X G (c.facts (f:=.free "range") (Y6 41))
  have g_sorted:=He.free_ok X G (c.facts (f:=.free "sorted") (Y6 43))
  have g_zip:=He.free_ok X G (c.facts (f:=.free "zip") (Y6 35))
  have g_max:=He.free_ok X G (c.facts (f:=.free "max") (Y6 44))
  have g_min:=He.free_ok X G (c.facts (f:=.free "min") (Y6 45))
  have k_LONGEST_NAME:=He.int_ok X G (c.facts (f:=.int "LONGEST_NAME" 8) (Y6 51))
  have k_LETTERS:=He.str_ok X G (c.facts (f:=.str "LETTERS" "abcdefghijklmnopqrstuvwxyz") (Y6 50))
  have k_LONGEST_MARK:=He.int_ok X G (c.facts (f:=.int "LONGEST_MARK" 6) (Y6 53))
  have k_MOST_PIECES:=He.int_ok X G (c.facts (f:=.int "MOST_PIECES" 15) (Y6 52))
  have k_GONE_SIZE:=He.int_ok X G (c.facts (f:=.int "GONE_SIZE" 3) (Y6 56))
  have k_ROW_SIZE:=He.int_ok X G (c.facts (f:=.int "ROW_SIZE" 7) (Y6 54))
  have k_FIX_SIZE:=He.int_ok X G (c.facts (f:=.int "FIX_SIZE" 5) (Y6 55))
  have cl_Form:=He.cls_ok (c.facts (f:=.cls "Form") (Y6 57))
  have na_Form__shapes:=He.noat_ok (c.facts (f:=.noat "Form" "_shapes") (Y6 59))
  have gc_BadEntry:=He.glo_ok X G (c.facts (f:=.glo "BadEntry") (Y6 1))
  have gc_BadForm:=He.glo_ok X G (c.facts (f:=.glo "BadForm") (Y6 2))
  have gc_Form:=He.glo_ok X G (c.facts (f:=.glo "Form") (Y6 11))
  have gc_HallError:=He.glo_ok X G (c.facts (f:=.glo "HallError") (Y6 0))
  have dg:=JXl (Yy cx.more 29)
  have ox_BadEntry:=JVw (Yy cx.more 0)
  obtain ⟨xi1_BadEntry,xi2_BadEntry,nx_BadEntry,xf_BadEntry⟩:=JJi (Yy cx.more 1)
  have ox_BadForm:=JVw (Yy cx.more 2)
  obtain ⟨xi1_BadForm,xi2_BadForm,nx_BadForm,xf_BadForm⟩:=JJi (Yy cx.more 3)
  have ec_BadEntry:=exc_ok xf_BadEntry (Yy cx.more 4)
  have JYv:=Us (Yy cx.more 5)
  have ec_BadForm:=exc_ok xf_BadForm (Yy cx.more 6)
  have Ah:=Us (Yy cx.more 7)
  have N5:=To cl_Form (Yy cx.more 8)
  obtain ⟨ne1_Form,ne2_Form⟩:=JMe (Yy cx.more 9)
  have kk_Form:=Us (Yy cx.more 24)
  have JO9:=Us (Yy cx.more 13)
  have JFj:=Us (Yy cx.more 15)
  have JFn:=Us (Yy cx.more 17)
  have JK9:=Us (Yy cx.more 19)
  have JMk:=Us (Yy cx.more 21)
  have JPw:=Us (Yy cx.more 23)
  have xm_BadEntry:=He.exm_ok (c.facts (f:=.exm "BadEntry" "BadEntry" true) (Y6 61))
  have xm_BadForm:=He.exm_ok (c.facts (f:=.exm "BadForm" "BadForm" true) (Y6 64))
  have t_WORDS : GTup K (He.ga K "WORDS") _:=⟨R4 (Yy cx.more 25)⟩
  obtain ⟨es_FIELDS,n_FIELDS,kd_FIELDS⟩:=cx.t.tab 0
  have t_FIELDS : GTab K w (He.ga K "FIELDS") T_FIELDS:=⟨fun k ds hm=>by
    simp only [T_FIELDS,List.mem_cons,Prod.mk.injEq,List.not_mem_nil,or_false] at hm
    rcases hm with ⟨rfl,rfl⟩ | ⟨rfl,rfl⟩ | ⟨rfl,rfl⟩
    · obtain ⟨b,h1,h2⟩:=P1 kd_FIELDS (Yy cx.more 26)
      exact ⟨b,_,h1,⟨h2⟩,rfl⟩
    · obtain ⟨b,h1,h2⟩:=P1 kd_FIELDS (Yy cx.more 27)
      exact ⟨b,_,h1,⟨h2⟩,rfl⟩
    · obtain ⟨b,h1,h2⟩:=P1 kd_FIELDS (Yy cx.more 28)
      exact ⟨b,_,h1,⟨h2⟩,rfl⟩
  ⟩
  obtain ⟨fd_BadForm,F_BadForm⟩:=c.defs (d:=C7) (fnAt 1)
  have ra_BadForm : Rai P w K mg base ("BadForm" : Str) (He.ga K "BadForm") ("value" : Str) 1:=⟨ox_BadForm,He.glo_ok X G (c.facts (f:=.glo "BadForm") (Y6 2)),_,fd_BadForm,["self","value"],xi1_BadForm,xi2_BadForm,FunD.bindsN F_BadForm fun _ _ _ _ _ _ us hl=>(match us,hl with | [_,_],_=>rfl),JUv F_BadForm ⟨rfl,rfl,rfl,by decide +kernel,rfl,by decide +kernel,by decide +kernel⟩ ox_BadForm nx_BadForm fun _ _ _ _ _ _=>pss_one (ps_ost (pv 0) (pv 1))⟩
  obtain ⟨fd_BadEntry,F_BadEntry⟩:=c.defs (d:=Sw) (fnAt 0)
  have ra_BadEntry : Rai P w K mg base ("BadEntry" : Str) (He.ga K "BadEntry") ("at" : Str) 1:=⟨ox_BadEntry,He.glo_ok X G (c.facts (f:=.glo "BadEntry") (Y6 1)),_,fd_BadEntry,["self","at"],xi1_BadEntry,xi2_BadEntry,FunD.bindsN F_BadEntry fun _ _ _ _ _ _ us hl=>(match us,hl with | [_,_],_=>rfl),JUv F_BadEntry ⟨rfl,rfl,rfl,by decide +kernel,rfl,by decide +kernel,by decide +kernel⟩ ox_BadEntry nx_BadEntry fun _ _ _ _ _ _=>pss_one (ps_ost (pv 0) (pv 1))⟩
  obtain ⟨fdZ0b,FZ0b⟩:=c.defs (d:=dZ0b) (fnAt 2)
  have ok_is_integer : Fok P w K mg base 1 _ fdZ0b ["value"] (SZ0b (gmL K)):=wkZ0b (sp:=SZ0b (gmL K)) g_isinstance g_int g_bool FZ0b U9 (Ua cjZ0b)
  have b_is_integer : Binds K fdZ0b ["value"] []:=FunD.bindsN FZ0b fun _ _ _ _ _ _ us hl=>(match us,hl with | [_],_=>rfl)
  have cZ0b : Cal P w K mg base ("is_integer" : Str) 1 ["value"] (SZ0b (gmL K)):=⟨_,fdZ0b,He.glo_ok X G (c.facts (f:=.glo "is_integer") (Y6 3)),FZ0b.kp,b_is_integer,ok_is_integer⟩
  obtain ⟨fdZ0r,FZ0r⟩:=c.defs (d:=dZ0r) (fnAt 3)
  have ok_is_row : Fok P w K mg base 1 _ fdZ0r ["value"] (SZ0r (gmL K)):=wkZ0r (sp:=SZ0r (gmL K)) g_isinstance g_list g_tuple FZ0r U9 (Ua cjZ0r)
  have b_is_row : Binds K fdZ0r ["value"] []:=FunD.bindsN FZ0r fun _ _ _ _ _ _ us hl=>(match us,hl with | [_],_=>rfl)
  have cZ0r : Cal P w K mg base ("is_row" : Str) 1 ["value"] (SZ0r (gmL K)):=⟨_,fdZ0r,He.glo_ok X G (c.facts (f:=.glo "is_row") (Y6 4)),FZ0r.kp,b_is_row,ok_is_row⟩
  obtain ⟨fdZ0q,FZ0q⟩:=c.defs (d:=dZ0q) (fnAt 4)
  have ok_is_name : Fok P w K mg base 1 _ fdZ0q ["text"] (SZ0q (gmL K)):=wkZ0q (sp:=SZ0q (gmL K)) g_isinstance g_str g_len g_all k_LONGEST_NAME k_LETTERS FZ0q U9 (Ua cjZ0q)
  have b_is_name : Binds K fdZ0q ["text"] []:=FunD.bindsN FZ0q fun _ _ _ _ _ _ us hl=>(match us,hl with | [_],_=>rfl)
  have cZ0q : Cal P w K mg base ("is_name" : Str) 1 ["text"] (SZ0q (gmL K)):=⟨_,fdZ0q,He.glo_ok X G (c.facts (f:=.glo "is_name") (Y6 5)),FZ0q.kp,b_is_name,ok_is_name⟩
  obtain ⟨fdZ04,FZ04⟩:=c.defs (d:=dZ04) (fnAt 5)
  have ok_is_mark_text : Fok P w K mg base 1 _ fdZ04 ["value"] (SZ04 (gmL K)):=wkZ04 (sp:=SZ04 (gmL K)) g_isinstance g_str g_len g_all g_ord k_LONGEST_MARK FZ04 U9 (Ua cjZ04)
  have b_is_mark_text : Binds K fdZ04 ["value"] []:=FunD.bindsN FZ04 fun _ _ _ _ _ _ us hl=>(match us,hl with | [_],_=>rfl)
  have cZ04 : Cal P w K mg base ("is_mark_text" : Str) 1 ["value"] (SZ04 (gmL K)):=⟨_,fdZ04,He.glo_ok X G (c.facts (f:=.glo "is_mark_text") (Y6 8)),FZ04.kp,b_is_mark_text,ok_is_mark_text⟩
  obtain ⟨fdZ00,FZ00⟩:=c.defs (d:=dZ00) (fnAt 16)
  have ok__law_is_integer : Fok P w K mg base 1 _ fdZ00 ["_law_thing"] (SZ00 (gmL K)):=wkZ00 (sp:=SZ00 (gmL K)) g_isinstance g_int g_bool FZ00 U9 (Ua cjZ00)
  have b__law_is_integer : Binds K fdZ00 ["_law_thing"] []:=FunD.bindsN FZ00 fun _ _ _ _ _ _ us hl=>(match us,hl with | [_],_=>rfl)
  have cZ00 : Cal P w K mg base ("_law_is_integer" : Str) 1 ["_law_thing"] (SZ00 (gmL K)):=⟨_,fdZ00,He.glo_ok X G (c.facts (f:=.glo "_law_is_integer") (Y6 17)),FZ00.kp,b__law_is_integer,ok__law_is_integer⟩
  obtain ⟨fdZ08,FZ08⟩:=c.defs (d:=dZ08) (fnAt 17)
  have ok__law_stream : Fok P w K mg base 1 _ fdZ08 ["_law_script","_law_k"] (SZ08 (gmL K)):=wkZ08 (sp:=SZ08 (gmL K)) g_len g_abs g_int FZ08 U9 (Ua cjZ08)
  have b__law_stream : Binds K fdZ08 ["_law_script","_law_k"] []:=FunD.bindsN FZ08 fun _ _ _ _ _ _ us hl=>(match us,hl with | [_,_],_=>rfl)
  have cZ08 : Cal P w K mg base ("_law_stream" : Str) 1 ["_law_script","_law_k"] (SZ08 (gmL K)):=⟨_,fdZ08,He.glo_ok X G (c.facts (f:=.glo "_law_stream") (Y6 18)),FZ08.kp,b__law_stream,ok__law_stream⟩
  obtain ⟨fdZ0j,FZ0j⟩:=c.defs (d:=dZ0j) (fnAt 18)
  have ok__law_draw : Fok P w K mg base 1 _ fdZ0j ["_law_stream_here","_law_many"] (SZ0j (gmL K)):=wkZ0j (sp:=SZ0j (gmL K)) g_int FZ0j U9 (Ua cjZ0j)
  have b__law_draw : Binds K fdZ0j ["_law_stream_here","_law_many"] []:=FunD.bindsN FZ0j fun _ _ _ _ _ _ us hl=>(match us,hl with | [_,_],_=>rfl)
  have cZ0j : Cal P w K mg base ("_law_draw" : Str) 1 ["_law_stream_here","_law_many"] (SZ0j (gmL K)):=⟨_,fdZ0j,He.glo_ok X G (c.facts (f:=.glo "_law_draw") (Y6 19)),FZ0j.kp,b__law_draw,ok__law_draw⟩
  obtain ⟨fdZ09,FZ09⟩:=c.defs (d:=dZ09) (fnAt 20)
  have ok__law_fields : Fok P w K mg base 1 _ fdZ09 ["_law_word_here"] (SZ09 (gmL K)):=wkZ09 (sp:=SZ09 (gmL K))  FZ09 U9 (Ua cjZ09)
  have b__law_fields : Binds K fdZ09 ["_law_word_here"] []:=FunD.bindsN FZ09 fun _ _ _ _ _ _ us hl=>(match us,hl with | [_],_=>rfl)
  have cZ09 : Cal P w K mg base ("_law_fields" : Str) 1 ["_law_word_here"] (SZ09 (gmL K)):=⟨_,fdZ09,He.glo_ok X G (c.facts (f:=.glo "_law_fields") (Y6 21)),FZ09.kp,b__law_fields,ok__law_fields⟩
  obtain ⟨fdZ0f,FZ0f⟩:=c.defs (d:=dZ0f) (fnAt 23)
  have ok__law_signs : Fok P w K mg base 1 _ fdZ0f [] (SZ0f (gmL K)):=wkZ0f (sp:=SZ0f (gmL K))  FZ0f U9 (Ua cjZ0f)
  have b__law_signs : Binds K fdZ0f [] []:=FunD.bindsN FZ0f fun _ _ _ _ _ _ us hl=>(match us,hl with | [],_=>rfl)
  have cZ0f : Cal P w K mg base ("_law_signs" : Str) 1 [] (SZ0f (gmL K)):=⟨_,fdZ0f,He.glo_ok X G (c.facts (f:=.glo "_law_signs") (Y6 24)),FZ0f.kp,b__law_signs,ok__law_signs⟩
  obtain ⟨fdZ07,FZ07⟩:=c.defs (d:=dZ07) (fnAt 28)
  have ok__law_is_name : Fok P w K mg base 1 _ fdZ07 ["_law_thing"] (SZ07 (gmL K)):=wkZ07 (sp:=SZ07 (gmL K)) g_isinstance g_str g_len FZ07 U9 (Ua cjZ07)
  have b__law_is_name : Binds K fdZ07 ["_law_thing"] []:=FunD.bindsN FZ07 fun _ _ _ _ _ _ us hl=>(match us,hl with | [_],_=>rfl)
  have cZ07 : Cal P w K mg base ("_law_is_name" : Str) 1 ["_law_thing"] (SZ07 (gmL K)):=⟨_,fdZ07,He.glo_ok X G (c.facts (f:=.glo "_law_is_name") (Y6 29)),FZ07.kp,b__law_is_name,ok__law_is_name⟩
  obtain ⟨fdZ0m,FZ0m⟩:=c.defs (d:=dZ0m) (fnAt 6)
  have ok_is_piece : Fok P w K mg base 2 _ fdZ0m ["value","fields"] (SZ0m (gmL K)):=wkZ0m (sp:=SZ0m (gmL K)) cZ04 g_isinstance g_tuple g_len g_str FZ0m U9 (Ua cjZ0m)
  have b_is_piece : Binds K fdZ0m ["value","fields"] []:=FunD.bindsN FZ0m fun _ _ _ _ _ _ us hl=>(match us,hl with | [_,_],_=>rfl)
  have cZ0m : Cal P w K mg base ("is_piece" : Str) 2 ["value","fields"] (SZ0m (gmL K)):=⟨_,fdZ0m,He.glo_ok X G (c.facts (f:=.glo "is_piece") (Y6 9)),FZ0m.kp,b_is_piece,ok_is_piece⟩
  obtain ⟨fdZ0s,FZ0s⟩:=c.defs (d:=dZ0s) (fnAt 12)
  have ok_is_id : Fok P w K mg base 2 _ fdZ0s ["value"] (SZ0s (gmL K)):=wkZ0s (sp:=SZ0s (gmL K)) cZ0b FZ0s U9 (Ua cjZ0s)
  have b_is_id : Binds K fdZ0s ["value"] []:=FunD.bindsN FZ0s fun _ _ _ _ _ _ us hl=>(match us,hl with | [_],_=>rfl)
  have cZ0s : Cal P w K mg base ("is_id" : Str) 2 ["value"] (SZ0s (gmL K)):=⟨_,fdZ0s,He.glo_ok X G (c.facts (f:=.glo "is_id") (Y6 13)),FZ0s.kp,b_is_id,ok_is_id⟩
  obtain ⟨fdZ05,FZ05⟩:=c.defs (d:=dZ05) (fnAt 14)
  have ok_are_integers : Fok P w K mg base 2 _ fdZ05 ["values"] (SZ05 (gmL K)):=wkZ05 (sp:=SZ05 (gmL K)) cZ0b g_all FZ05 U9 (Ua cjZ05)
  have b_are_integers : Binds K fdZ05 ["values"] []:=FunD.bindsN FZ05 fun _ _ _ _ _ _ us hl=>(match us,hl with | [_],_=>rfl)
  have cZ05 : Cal P w K mg base ("are_integers" : Str) 2 ["values"] (SZ05 (gmL K)):=⟨_,fdZ05,He.glo_ok X G (c.facts (f:=.glo "are_integers") (Y6 15)),FZ05.kp,b_are_integers,ok_are_integers⟩
  obtain ⟨fdZ0l,FZ0l⟩:=c.defs (d:=dZ0l) (fnAt 19)
  have ok__law_word : Fok P w K mg base 2 _ fdZ0l ["_law_stream_here","_law_most"] (SZ0l (gmL K)):=wkZ0l (sp:=SZ0l (gmL K)) cZ0j g_range FZ0l U9 (Ua cjZ0l)
  have b__law_word : Binds K fdZ0l ["_law_stream_here","_law_most"] []:=FunD.bindsN FZ0l fun _ _ _ _ _ _ us hl=>(match us,hl with | [_,_],_=>rfl)
  have cZ0l : Cal P w K mg base ("_law_word" : Str) 2 ["_law_stream_here","_law_most"] (SZ0l (gmL K)):=⟨_,fdZ0l,He.glo_ok X G (c.facts (f:=.glo "_law_word") (Y6 20)),FZ0l.kp,b__law_word,ok__law_word⟩
  obtain ⟨fdZ0c,FZ0c⟩:=c.defs (d:=dZ0c) (fnAt 21)
  have ok__law_order : Fok P w K mg base 2 _ fdZ0c ["_law_stream_here","_law_items"] (SZ0c (gmL K)):=wkZ0c (sp:=SZ0c (gmL K)) cZ0j g_len FZ0c U9 (Ua cjZ0c)
  have b__law_order : Binds K fdZ0c ["_law_stream_here","_law_items"] []:=FunD.bindsN FZ0c fun _ _ _ _ _ _ us hl=>(match us,hl with | [_,_],_=>rfl)
  have cZ0c : Cal P w K mg base ("_law_order" : Str) 2 ["_law_stream_here","_law_items"] (SZ0c (gmL K)):=⟨_,fdZ0c,He.glo_ok X G (c.facts (f:=.glo "_law_order") (Y6 22)),FZ0c.kp,b__law_order,ok__law_order⟩
  obtain ⟨fdZ0k,FZ0k⟩:=c.defs (d:=dZ0k) (fnAt 22)
  have ok__law_mark : Fok P w K mg base 2 _ fdZ0k ["_law_stream_here","_law_signs_here","_law_most"] (SZ0k (gmL K)):=wkZ0k (sp:=SZ0k (gmL K)) cZ0j g_range g_len FZ0k U9 (Ua cjZ0k)
  have b__law_mark : Binds K fdZ0k ["_law_stream_here","_law_signs_here","_law_most"] []:=FunD.bindsN FZ0k fun _ _ _ _ _ _ us hl=>(match us,hl with | [_,_,_],_=>rfl)
  have cZ0k : Cal P w K mg base ("_law_mark" : Str) 2 ["_law_stream_here","_law_signs_here","_law_most"] (SZ0k (gmL K)):=⟨_,fdZ0k,He.glo_ok X G (c.facts (f:=.glo "_law_mark") (Y6 23)),FZ0k.kp,b__law_mark,ok__law_mark⟩
  obtain ⟨fdZ06,FZ06⟩:=c.defs (d:=dZ06) (fnAt 25)
  have ok__law_integer : Fok P w K mg base 2 _ fdZ06 ["_law_stream_here"] (SZ06 (gmL K)):=wkZ06 (sp:=SZ06 (gmL K)) cZ0j dg g_int FZ06 U9 (Ua cjZ06)
  have b__law_integer : Binds K fdZ06 ["_law_stream_here"] []:=FunD.bindsN FZ06 fun _ _ _ _ _ _ us hl=>(match us,hl with | [_],_=>rfl)
  have cZ06 : Cal P w K mg base ("_law_integer" : Str) 2 ["_law_stream_here"] (SZ06 (gmL K)):=⟨_,fdZ06,He.glo_ok X G (c.facts (f:=.glo "_law_integer") (Y6 26)),FZ06.kp,b__law_integer,ok__law_integer⟩
  obtain ⟨fdZ03,FZ03⟩:=c.defs (d:=dZ03) (fnAt 27)
  have ok__law_spoiled : Fok P w K mg base 2 _ fdZ03 ["_law_stream_here","_law_entry"] (SZ03 (gmL K)):=wkZ03 (sp:=SZ03 (gmL K)) cZ0j g_list g_len g_tuple FZ03 U9 (Ua cjZ03)
  have b__law_spoiled : Binds K fdZ03 ["_law_stream_here","_law_entry"] []:=FunD.bindsN FZ03 fun _ _ _ _ _ _ us hl=>(match us,hl with | [_,_],_=>rfl)
  have cZ03 : Cal P w K mg base ("_law_spoiled" : Str) 2 ["_law_stream_here","_law_entry"] (SZ03 (gmL K)):=⟨_,fdZ03,He.glo_ok X G (c.facts (f:=.glo "_law_spoiled") (Y6 28)),FZ03.kp,b__law_spoiled,ok__law_spoiled⟩
  obtain ⟨fdZ01,FZ01⟩:=c.defs (d:=dZ01) (fnAt 29)
  have ok__law_is_entry : Fok P w K mg base 2 _ fdZ01 ["_law_thing"] (SZ01 (gmL K)):=wkZ01 (sp:=SZ01 (gmL K)) cZ09 cZ00 cZ07 g_isinstance g_tuple g_len g_str g_all FZ01 U9 (Ua cjZ01)
  have b__law_is_entry : Binds K fdZ01 ["_law_thing"] []:=FunD.bindsN FZ01 fun _ _ _ _ _ _ us hl=>(match us,hl with | [_],_=>rfl)
  have cZ01 : Cal P w K mg base ("_law_is_entry" : Str) 2 ["_law_thing"] (SZ01 (gmL K)):=⟨_,fdZ01,He.glo_ok X G (c.facts (f:=.glo "_law_is_entry") (Y6 30)),FZ01.kp,b__law_is_entry,ok__law_is_entry⟩
  obtain ⟨fdZ0n,FZ0n⟩:=c.defs (d:=dZ0n) (fnAt 30)
  have ok__law_due : Fok P w K mg base 2 _ fdZ0n ["_law_pieces","_law_entry"] (SZ0n (gmL K)):=wkZ0n (sp:=SZ0n (gmL K)) cZ09 dg g_str FZ0n U9 (Ua cjZ0n)
  have b__law_due : Binds K fdZ0n ["_law_pieces","_law_entry"] []:=FunD.bindsN FZ0n fun _ _ _ _ _ _ us hl=>(match us,hl with | [_,_],_=>rfl)
  have cZ0n : Cal P w K mg base ("_law_due" : Str) 2 ["_law_pieces","_law_entry"] (SZ0n (gmL K)):=⟨_,fdZ0n,He.glo_ok X G (c.facts (f:=.glo "_law_due") (Y6 31)),FZ0n.kp,b__law_due,ok__law_due⟩
  obtain ⟨fdZ0p,FZ0p⟩:=c.defs (d:=dZ0p) (fnAt 7)
  have ok_is_shape : Fok P w K mg base 3 _ fdZ0p ["value","fields"] (SZ0p (gmL K)):=wkZ0p (sp:=SZ0p (gmL K)) cZ0r cZ0m g_len g_all g_sorted k_MOST_PIECES FZ0p U9 (Ua cjZ0p)
  have b_is_shape : Binds K fdZ0p ["value","fields"] []:=FunD.bindsN FZ0p fun _ _ _ _ _ _ us hl=>(match us,hl with | [_,_],_=>rfl)
  have cZ0p : Cal P w K mg base ("is_shape" : Str) 3 ["value","fields"] (SZ0p (gmL K)):=⟨_,fdZ0p,He.glo_ok X G (c.facts (f:=.glo "is_shape") (Y6 10)),FZ0p.kp,b_is_shape,ok_is_shape⟩
  obtain ⟨fdZ0i,FZ0i⟩:=c.defs (d:=dZ0i) (fnAt 10)
  have ok_Form_shape : Fok P w K mg base 3 _ fdZ0i ["self","word"] (SZ0i (gmL K)):=wkZ0i (sp:=SZ0i (gmL K)) cl_Form na_Form__shapes ra_BadForm g_isinstance g_str u_WORDS t_WORDS FZ0i U9 (Ua cjZ0i)
  have b_Form_shape : Binds K fdZ0i ["self","word"] []:=FunD.bindsN FZ0i fun _ _ _ _ _ _ us hl=>(match us,hl with | [_,_],_=>rfl)
  have m_Form_shape : CalM P w K mg base (He.ga K "Form") ("shape" : Str) 3 ["self","word"] (SZ0i (gmL K)):=⟨_,fdZ0i,He.meth_ok (c.facts (f:=.meth "Form" "shape") (Y6 60)),b_Form_shape,ok_Form_shape⟩
  obtain ⟨fdZ0e,FZ0e⟩:=c.defs (d:=dZ0e) (fnAt 11)
  have ok_check_form : Fok P w K mg base 3 _ fdZ0e ["form"] (SZ0e (gmL K)):=wkZ0e (sp:=SZ0e (gmL K)) ra_BadForm gc_Form g_isinstance FZ0e U9 (Ua cjZ0e)
  have b_check_form : Binds K fdZ0e ["form"] []:=FunD.bindsN FZ0e fun _ _ _ _ _ _ us hl=>(match us,hl with | [_],_=>rfl)
  have cZ0e : Cal P w K mg base ("check_form" : Str) 3 ["form"] (SZ0e (gmL K)):=⟨_,fdZ0e,He.glo_ok X G (c.facts (f:=.glo "check_form") (Y6 12)),FZ0e.kp,b_check_form,ok_check_form⟩
  obtain ⟨fdZ0o,FZ0o⟩:=c.defs (d:=dZ0o) (fnAt 13)
  have ok_is_entry : Fok P w K mg base 3 _ fdZ0o ["value"] (SZ0o (gmL K)):=wkZ0o (sp:=SZ0o (gmL K)) cZ0s cZ0q cZ05 g_isinstance g_tuple g_len g_str k_GONE_SIZE k_ROW_SIZE k_FIX_SIZE FZ0o U9 (Ua cjZ0o)
  have b_is_entry : Binds K fdZ0o ["value"] []:=FunD.bindsN FZ0o fun _ _ _ _ _ _ us hl=>(match us,hl with | [_],_=>rfl)
  have cZ0o : Cal P w K mg base ("is_entry" : Str) 3 ["value"] (SZ0o (gmL K)):=⟨_,fdZ0o,He.glo_ok X G (c.facts (f:=.glo "is_entry") (Y6 14)),FZ0o.kp,b_is_entry,ok_is_entry⟩
  obtain ⟨fdZ0h,FZ0h⟩:=c.defs (d:=dZ0h) (fnAt 24)
  have ok__law_shape : Fok P w K mg base 3 _ fdZ0h ["_law_stream_here","_law_word_here","_law_signs_here","_law_often","_law_most"] (SZ0h (gmL K)):=wkZ0h (sp:=SZ0h (gmL K)) cZ0c cZ09 cZ0j cZ0k FZ0h U9 (Ua cjZ0h)
  have b__law_shape : Binds K fdZ0h ["_law_stream_here","_law_word_here","_law_signs_here","_law_often","_law_most"] []:=FunD.bindsN FZ0h fun _ _ _ _ _ _ us hl=>(match us,hl with | [_,_,_,_,_],_=>rfl)
  have cZ0h : Cal P w K mg base ("_law_shape" : Str) 3 ["_law_stream_here","_law_word_here","_law_signs_here","_law_often","_law_most"] (SZ0h (gmL K)):=⟨_,fdZ0h,He.glo_ok X G (c.facts (f:=.glo "_law_shape") (Y6 25)),FZ0h.kp,b__law_shape,ok__law_shape⟩
  obtain ⟨fdZ0d,FZ0d⟩:=c.defs (d:=dZ0d) (fnAt 26)
  have ok__law_drawn : Fok P w K mg base 3 _ fdZ0d ["_law_stream_here"] (SZ0d (gmL K)):=wkZ0d (sp:=SZ0d (gmL K)) cZ0j cZ06 cZ0l g_abs FZ0d U9 (Ua cjZ0d)
  have b__law_drawn : Binds K fdZ0d ["_law_stream_here"] []:=FunD.bindsN FZ0d fun _ _ _ _ _ _ us hl=>(match us,hl with | [_],_=>rfl)
  have cZ0d : Cal P w K mg base ("_law_drawn" : Str) 3 ["_law_stream_here"] (SZ0d (gmL K)):=⟨_,fdZ0d,He.glo_ok X G (c.facts (f:=.glo "_law_drawn") (Y6 27)),FZ0d.kp,b__law_drawn,ok__law_drawn⟩
  obtain ⟨fdZ02,FZ02⟩:=c.defs (d:=dZ02) (fnAt 8)
  have ok_Form___init__ : Fok P w K mg base 4 _ fdZ02 ["self","row","fix","gone"] (SZ02 (gmL K)):=wkZ02 (sp:=SZ02 (gmL K)) cZ0p cl_Form na_Form__shapes ra_BadForm g_tuple u_WORDS t_WORDS u_FIELDS t_FIELDS FZ02 U9 (Ua cjZ02)
  have b_Form___init__ : Binds K fdZ02 ["self","row","fix","gone"] []:=FunD.bindsN FZ02 fun _ _ _ _ _ _ us hl=>(match us,hl with | [_,_,_,_],_=>rfl)
  have mk_Form : CalK P w K mg base ("Form" : Str) (He.ga K "Form") 4 ["self","row","fix","gone"] (SZ02 (gmL K)):=⟨_,fdZ02,He.mkr_ok (c.facts (f:=.mkr "Form") (Y6 58)),He.glo_ok X G (c.facts (f:=.glo "Form") (Y6 11)),b_Form___init__,ok_Form___init__⟩
  obtain ⟨fdZ0g,FZ0g⟩:=c.defs (d:=dZ0g) (fnAt 15)
  have ok_write_line : Fok P w K mg base 4 _ fdZ0g ["form","entry"] (SZ0g (gmL K)):=wkZ0g (sp:=SZ0g (gmL K)) cZ0e cZ0o m_Form_shape cl_Form ra_BadEntry dg g_zip g_str u_FIELDS t_FIELDS FZ0g U9 (Ua cjZ0g)
  have b_write_line : Binds K fdZ0g ["form","entry"] []:=FunD.bindsN FZ0g fun _ _ _ _ _ _ us hl=>(match us,hl with | [_,_],_=>rfl)
  have cZ0g : Cal P w K mg base ("write_line" : Str) 4 ["form","entry"] (SZ0g (gmL K)):=⟨_,fdZ0g,He.glo_ok X G (c.facts (f:=.glo "write_line") (Y6 16)),FZ0g.kp,b_write_line,ok_write_line⟩
  obtain ⟨fdZ0a,FZ0a⟩:=c.defs (d:=dZ0a) (fnAt 31)
  have ok__law_asked : Fok P w K mg base 5 _ fdZ0a ["_law_form","_law_entry"] (SZ0a (gmL K)):=wkZ0a (sp:=SZ0a (gmL K)) cZ0g xf_BadEntry nx_BadEntry xf_BadForm nx_BadForm ec_BadEntry ec_BadForm gc_BadEntry gc_BadForm gc_HallError g_isinstance FZ0a U9 (Ua cjZ0a)
  have b__law_asked : Binds K fdZ0a ["_law_form","_law_entry"] []:=FunD.bindsN FZ0a fun _ _ _ _ _ _ us hl=>(match us,hl with | [_,_],_=>rfl)
  have cZ0a : Cal P w K mg base ("_law_asked" : Str) 5 ["_law_form","_law_entry"] (SZ0a (gmL K)):=⟨_,fdZ0a,He.glo_ok X G (c.facts (f:=.glo "_law_asked") (Y6 32)),FZ0a.kp,b__law_asked,ok__law_asked⟩
  exact wkZ0t (sp:=SZ0t (gmL K)) cZ08 cZ0h cZ0f cZ0j cZ0d cZ03 cZ0a cZ01 cZ0n mk_Form g_range g_max g_min g_len g_isinstance g_str FZ0t U9 (Ua cjZ0t)
end Law
open PySem PySem.W PySem.Calls PyProof.Rows
theorem PySem.Challenge.cw_asofhall_k77_lines_written_holds : PySem.Challenge.rw_asofhall_k77_lines_written.Holds := by
  refine Law.close fun w K h mg fa KX G hmg c cg=>?_
  obtain ⟨gk,fd,hb,hF⟩:=Law.facts (P:=(PySem.Challenge.rw_asofhall_k77_lines_written).prog) (w:=w) KX G hmg c cg
  exact ⟨fd,Vs.lift K (Law.SZ0t (Law.gmL K)),hb,fun H a ns hl hH hS=>Law.lift_law gk hS hl hH,hF⟩
