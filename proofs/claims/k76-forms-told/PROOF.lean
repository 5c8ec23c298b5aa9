import PyProof.Rows.All
import Wide.All
import OpenK.AllK
import Wide.FinOn
import HandS.ExcField
import HandS.ExcInit
import HandS.ForMost
import HandS.ForExc
import HandS.Defaults
import HandS.IsInst
import HandS.Property
import HandS.Head0
import HandS.Head1
import HandS.Head2
import HandS.HeadEnd
import HandS.HeadHook1
import HandS.HeadHook2
import HandS.HeadHook3
import HandS.HeadHook4
import KE.KSuper
import PySem.Challenge.RW_asofhall_k76_forms_told
import HandS.EndTab
import HandS.Lambda
import HandS.Small
import HandS.Conv
import KE.DataEq
import KE.DataCmp
import KE.SortData
import HandS.TupAny
import HandS.CallSlots
import HandS.More
import HandS.Wide
import HandS.DictComp
import HandS.OwnEq
import HandS.Iter
import KE.GoesEnum
import KE.KEqNest
import HandS.ListItems
import KE.KDictList
import HandS.SetBool
import HandS.Style
import HandS.TupMul
import HandS.ExcIs
import KE.SortKeyHeap
import KE.KSortKey
import HandS.SortKw
import HandS.Star
import HandS.TryOnly
import HandS.SetFor
import HandS.Strs
import HandS.List
import HandS.Call
import PyProof.SeqRoads2
import HandS.Nested
import HandS.ClsMeth
import KE.KOpsOwn
import KE.DataMinMax
import HandS.Text
import HandS.Rev
import HandS.Zip
import HandS.SetKeys
set_option Elab.async false
set_option linter.all false
set_option maxRecDepth 100000
set_option maxHeartbeats 1000000
namespace Vs
open PySem PySem.Spec PyProof.Rows L2
def Rb (K : PySem.W.Frag) (C : Addr) : Bool:=(match K.lookup C with
  | some ⟨.type "type",_,.cls cd,sl⟩=>(match cd.mro,sl.toList with
    | .ref C' :: bm,[_,_,_,_,some (.builtin n),_]=>C' == C && n == "ValueError.__new__" && !cd.hasDel && cd.hasDict && PySem.HandSPX.refsVE bm
    | _,_=>false)
  | _=>false) && (He.eqO (PySem.W.findIn K (.ref C) "__setattr__") (some (some (.builtin "object.__setattr__"))) && (decide (PySem.W.subIn K (.ref C) (.type "BaseException") = some true) && (decide (PySem.W.typeIn K (.ref C) = some (.type "type")) && PySem.W.keepIn K (.ref C))))
def Dk (K : PySem.W.Frag) (C : Addr) (f : Str) : Bool:=He.eqO (PySem.W.findIn K (.ref C) "__init__") (some (some (.ref (He.ma K C "__init__")))) && (decide (PySem.W.typeIn K (.ref (He.ma K C "__init__")) = some (.type "function")) && (He.eqO (PySem.W.findIn K (.ref C) f) (some none) && xfB K C))
def Kk (K : PySem.W.Frag) (C : Addr) : Bool:=He.eqO (PySem.W.findIn K (.ref C) "__class__") (some (some (.builtin "object.__class__"))) && (He.eqO (PySem.W.specialIn K (.builtin "object.__class__") "__get__") (some (some (.builtin "getset_descriptor.__get__"))) && (decide (PySem.W.takesIn K (.builtin "object.__class__") = some true) && decide (PySem.W.mroIn K C (.type "object") = some true)))
def A6 (K : PySem.W.Frag) (C : Addr) (m : Str) : Bool:=He.eqO (PySem.W.findIn K (.ref C) m) (some (some (.ref (He.ma K C m)))) && PySem.W.isFn K (.ref (He.ma K C m))
def neB (K : PySem.W.Frag) (C : Addr) : Bool:=He.eqO (PySem.W.findIn K (.ref C) "__ne__") (some (some (.builtin "object.__ne__"))) && decide (PySem.W.mroIn K C (.type "object") = some true)
def Vz (K : PySem.W.Frag) (t u : Value) (b : Bool) : Bool:=decide (PySem.W.kitOne K t u = some b)
structure GetD where
  cls : Str
  prop : Str
  d : He.DefD
section
variable {K : PySem.W.Frag} {g : GetD}
def GetD.p (K : PySem.W.Frag) (g : GetD) : Addr:=He.ma K (He.ga K g.cls) g.prop
def GetD.adr (K : PySem.W.Frag) (g : GetD) : Addr:=match PySem.W.recIn K (g.p K) "property" with
  | some (.ref a :: _)=>a
  | _=>0
def Hc (K : PySem.W.Frag) (a : Addr) : He.FnW:=match K.lookup a with
  | some ⟨_,_,.func f,_⟩=>some (f.name,f.qualname,f.params,f.body,f.scope,f.globals,f.closure,f.builtins)
  | _=>none
def Rl (K : PySem.W.Frag) (p : Addr) : Bool:=match PySem.W.recIn K p "property" with
  | some (.ref _ :: _)=>true
  | _=>false
def Ap (K : PySem.W.Frag) (a : Addr) (q : Str) : Bool:=match K.lookup a with
  | some ⟨_,_,.func f,_⟩=>PySem.W.codeIn K f.code q && (He.dflB K f.defaults [] && He.kwdB K f.kwdefaults [])
  | _=>false
def GetD.ok (K : PySem.W.Frag) (g : GetD) : Bool:=He.eqO (PySem.W.findIn K (.ref (He.ga K g.cls)) g.prop) (some (some (.ref (g.p K)))) && (He.eqO (PySem.W.specialIn K (.ref (g.p K)) "__get__") (some (some (.builtin "property.__get__"))) && (decide (PySem.W.takesIn K (.ref (g.p K)) = some true) && (Rl K (g.p K) && (PySem.W.keepIn K (.ref (g.adr K)) && Ap K (g.adr K) g.d.qual))))
theorem GetD.says (e : Hc K (g.adr K) = g.d.val) (c : g.ok K = true) : PropOf K (He.ga K g.cls) g.prop (g.p K) (g.adr K) ∧ ∃ fd,FunD K g.d.name g.d.qual g.d.params g.d.body g.d.scope [] [] (g.adr K) fd:=by
  obtain ⟨c1,c⟩:=He.ba c
  obtain ⟨c2,c⟩:=He.ba c
  obtain ⟨c3,c⟩:=He.ba c
  obtain ⟨c4,c⟩:=He.ba c
  obtain ⟨c5,c6⟩:=He.ba c
  refine ⟨⟨He.eqO_ok c1,He.eqO_ok c2,of_decide_eq_true c3,?_⟩,?_⟩
  · unfold Rl at c4
    split at c4
    · rename_i a r hr
      refine ⟨r,?_⟩
      have : g.adr K = a:=by unfold GetD.adr; rw [hr]
      rw [this]
      exact hr
    · cases c4
  · unfold Hc at e
    unfold Ap at c6
    cases hl : K.lookup (g.adr K) with
    | none=>rw [hl] at c6; cases c6
    | some o =>
      obtain ⟨oc,od,dt,sl⟩:=o
      rw [hl] at c6 e
      cases dt with
      | func f =>
        obtain ⟨x1,x2,x3,x4,x5,x6,x7,x8,x9,y10,y11,y12,y13,y14,y15⟩:=f
        have e2 : (some (x1,x2,x3,x4,x5,x6,x7,y15) : He.FnW) = some (g.d.name,g.d.qual,g.d.params,.stmts g.d.body,g.d.scope,mainGlobals,[],builtinsNs):=e
        simp only [Option.some.injEq,Prod.mk.injEq] at e2
        obtain ⟨rfl,rfl,rfl,rfl,rfl,rfl,rfl,rfl⟩:=e2
        obtain ⟨k1,k2⟩:=He.ba (show (PySem.W.codeIn K y13 g.d.qual && (He.dflB K x8 [] && He.kwdB K x9 [])) = true from c6)
        obtain ⟨k3,k4⟩:=He.ba k2
        exact ⟨_,⟨oc,od,x8,x9,y10,y11,y12,y13,y14,sl,rfl,hl,k1,He.dflB_ok k3,He.kwdB_ok k4⟩,c5⟩
      | _=>cases c6
def obsG (gs : List GetD) (K : PySem.W.Frag) : Bool × List He.FnW:=(gs.all fun g=>g.ok K,gs.map fun g=>Hc K (g.adr K))
def Ft (gs : List GetD) : Bool × List He.FnW:=(true,gs.map fun g=>g.d.val)
def SaysG (gs : List GetD) (K : PySem.W.Frag) : Prop:=obsG gs K = Ft gs
theorem SaysG.get {gs : List GetD} (s : SaysG gs K) (i : Nat) {g : GetD} (h : gs[i]? = some g:=by rfl) : PropOf K (He.ga K g.cls) g.prop (g.p K) (g.adr K) ∧ ∃ fd,FunD K g.d.name g.d.qual g.d.params g.d.body g.d.scope [] [] (g.adr K) fd:=by
  have e1 : (gs.all fun g=>g.ok K) = true:=congrArg (·.1) s
  have e2 : (gs.map fun g=>Hc K (g.adr K)) = gs.map fun g=>g.d.val:=congrArg (·.2) s
  refine GetD.says ?_ (List.all_eq_true.mp e1 g (List.mem_of_getElem? h))
  have e3 : (gs.map fun g=>Hc K (g.adr K))[i]? = (gs.map fun g=>g.d.val)[i]?:=by rw [e2]
  rw [List.getElem?_map,List.getElem?_map,h] at e3
  exact Option.some.inj e3
end
theorem FunD.code {K : PySem.W.Frag} {x qual : Str} {params : Arguments} {body : List Stmt} {scope : Scope} {dvs : List V} {kws : List (Str × V)} {p : He.Defn} {fd : FuncData} (F : FunD K x qual params body scope dvs kws (He.fAd K p) fd) : fd.code = .ref (He.cT K p).1:=by
  obtain ⟨oc,od,dV,kV,doc,pm,an,cdv,ct,osl,rfl,lk,hcd,_,_⟩:=F.ex
  obtain ⟨c,rfl⟩:=He.codeIn_ref hcd
  have e:=He.codeOf_eq (c:=c) lk rfl
  show Value.ref c = Value.ref (He.codeOf K p)
  rw [e]
end Vs
namespace Vs
open PySem PySem.Spec PyProof.Rows L2
/-- a def of the module that closes over its class D -/
structure SupD (Pr : Program) (K : PySem.W.Frag) (x qual : Str) (params : Arguments) (body : List Stmt) (scope : Scope) (D f c cc : Addr) (fd : FuncData) : Prop where
  ex : ∃ oc od kV doc pm an ct osl,fd = PySem.W.fnX x qual params body scope [("__class__",cc)] .none kV doc pm an (.ref c) ct ∧ K.lookup f = some ⟨oc,od,.func fd,osl⟩
  code : PySem.W.codeIn K (.ref c) qual = true
  cell : ∃ cl cld csl,K.lookup cc = some ⟨cl,cld,.cell (some (.ref D)),csl⟩
  file : ∃ ccl cdd vs ccs file tf,K.lookup c = some ⟨ccl,cdd,.fields vs,ccs⟩ ∧ vs[2]? = some (.str file tf) ∧ ((Pr.main.file : Str) == file) = true
  cls : ∃ cd,PySem.W.clsIn K D = some cd
  top : (Pr.main.scope.names.lookup ("super" : Str)).isSome = false
  opq : PySem.W.nsIn K cStatics "thirdparty.any" = some none
  kp : PySem.W.keepIn K (.ref f) = true
abbrev FnS : Type:=Option (Str × Str × Arguments × FuncBody × Scope × Addr × List Str × Addr)
def Gz (K : PySem.W.Frag) (p : Str × Option Str) : FnS:=match K.lookup (He.fAd K p) with
  | some ⟨_,_,.func fd,_⟩=>some (fd.name,fd.qualname,fd.params,fd.body,fd.scope,fd.globals,fd.closure.map (·.1),fd.builtins)
  | _=>none
def Kg (d : He.DefD) : FnS:=some (d.name,d.qual,d.params,FuncBody.stmts d.body,d.scope,mainGlobals,["__class__"],builtinsNs)
def O5 (K : PySem.W.Frag) (cc D : Addr) : Bool:=match K.lookup cc with
  | some ⟨_,_,.cell (some (.ref E)),_⟩=>decide (E = D)
  | _=>false
def Oj (K : PySem.W.Frag) (file : Str) (c : Addr) : Bool:=match K.lookup c with
  | some ⟨_,_,.fields vs,_⟩=>(match (vs : Array Value)[2]? with
    | some (Value.str x _)=>file == x
    | _=>false)
  | _=>false
def Pb (v : Value) : Bool:=match v with
  | .none=>true
  | _=>false
def Np (file : Str) (K : PySem.W.Frag) (d : He.DefD) : Bool:=(match K.lookup (He.fAd K d.at_) with
  | some ⟨_,_,.func fd,_⟩=>(match fd.code,fd.closure with
    | .ref c,[(_,cc)]=>PySem.W.codeIn K (.ref c) d.qual && (O5 K cc (He.ga K d.at_.1) && (Oj K file c && Pb fd.defaults))
    | _,_=>false)
  | _=>false) && ((PySem.W.clsIn K (He.ga K d.at_.1)).isSome && (He.eqO (PySem.W.nsIn K cStatics "thirdparty.any") (some none) && PySem.W.keepIn K (.ref (He.fAd K d.at_))))
theorem JGj {Pr : Program} {K : PySem.W.Frag} {d : He.DefD} {file : Str} (e : Gz K d.at_ = Kg d) (h : Np file K d = true) (hf : (Pr.main.file : Str) = file) (ht : (Pr.main.scope.names.lookup ("super" : Str)).isSome = false) :
    ∃ c cc fd,SupD Pr K d.name d.qual d.params d.body d.scope (He.ga K d.at_.1) (He.fAd K d.at_) c cc fd:=by
  obtain ⟨h1,h2⟩:=He.ba h
  obtain ⟨h3,h4⟩:=He.ba h2
  obtain ⟨h5,h6⟩:=He.ba h4
  unfold Gz at e
  cases q : K.lookup (He.fAd K d.at_) with
  | none=>rw [q] at e; cases e
  | some o =>
    obtain ⟨oc,od,dt,osl⟩:=o
    rw [q] at e h1
    cases dt with
    | func fd =>
      obtain ⟨n1,n2,n3,n4,n5,n6,n7,n8,n9,n10,n11,n12,n13,n14,n15⟩:=fd
      have e2 : (some (n1,n2,n3,n4,n5,n6,n7.map (·.1),n15) : FnS) = some (d.name,d.qual,d.params,FuncBody.stmts d.body,d.scope,mainGlobals,[("__class__" : Str)],builtinsNs):=e
      simp only [Option.some.injEq,Prod.mk.injEq] at e2
      obtain ⟨k1,k2,k3,k4,k5,k6,k7,k8⟩:=e2
      subst k1 k2 k3 k4 k5 k6 k8
      match n13,n7,k7,h1 with
      | .ref c,[(nm,cc)],k7,h1 =>
        have en : nm = "__class__":=by simpa using k7
        subst en
        obtain ⟨g1,g2⟩:=He.ba (show (PySem.W.codeIn K (.ref c) d.qual && (O5 K cc (He.ga K d.at_.1) && (Oj K file c && Pb n8))) = true from h1)
        obtain ⟨g3,g4⟩:=He.ba g2
        obtain ⟨g5,g6⟩:=He.ba g4
        have e8 : n8 = .none:=by
          unfold Pb at g6
          split at g6
          · rfl
          · cases g6
        subst e8
        refine ⟨c,cc,_,⟨oc,od,n9,n10,n11,n12,n14,osl,rfl,q⟩,g1,?_,?_,Option.isSome_iff_exists.mp h3,ht,He.eqO_ok h5,h6⟩
        · unfold O5 at g3
          split at g3
          · rename_i cl cld E csl hl
            rw [of_decide_eq_true g3] at hl
            exact ⟨_,_,_,hl⟩
          · cases g3
        · unfold Oj at g5
          split at g5
          · rename_i ccl cdd vs ccs hl
            split at g5
            · rename_i x tf hv
              refine ⟨_,_,_,_,_,_,hl,hv,?_⟩
              rw [hf]
              exact g5
            · cases g5
          · cases g5
    | _=>cases e
def O0 (file : Str) (ss : List He.DefD) (K : PySem.W.Frag) : Bool × List FnS:=(ss.all fun d=>Np file K d,ss.map fun d=>Gz K d.at_)
def Fx (ss : List He.DefD) : Bool × List FnS:=(true,ss.map Kg)
def SaysS (file : Str) (ss : List He.DefD) (K : PySem.W.Frag) : Prop:=O0 file ss K = Fx ss
theorem SaysS.get {Pr : Program} {K : PySem.W.Frag} {file : Str} {ss : List He.DefD} (s : SaysS file ss K) (hf : (Pr.main.file : Str) = file) (ht : (Pr.main.scope.names.lookup ("super" : Str)).isSome = false) (i : Nat) {d : He.DefD} (h : ss[i]? = some d:=by rfl) :
    ∃ c cc fd,SupD Pr K d.name d.qual d.params d.body d.scope (He.ga K d.at_.1) (He.fAd K d.at_) c cc fd:=by
  have e1 : (ss.all fun d=>Np file K d) = true:=congrArg (·.1) s
  have e2 : (ss.map fun d=>Gz K d.at_) = ss.map Kg:=congrArg (·.2) s
  refine JGj ?_ (List.all_eq_true.mp e1 d (List.mem_of_getElem? h)) hf ht
  have e3 : (ss.map fun d=>Gz K d.at_)[i]? = (ss.map Kg)[i]?:=by rw [e2]
  rw [List.getElem?_map,List.getElem?_map,h] at e3
  exact Option.some.inj e3
/-- what a module's object names: a function's code,defaults,cells; a class's own names -/
def JBh (o : Obj) : List Addr:=match o.data with
  | .seq its _=>its.toList.flatMap He.refV
  | .dict es _=>es.toList.flatMap fun e=>He.refV e.val
  | .func fd=>He.refV fd.code ++ (He.refV fd.defaults ++ fd.closure.map (·.2))
  | .cls cd=>[cd.ns]
  | _=>[]
def Vx (g : Addr → Option Obj) (as : List Addr) : List Addr:=as.flatMap fun a=>match g a with
  | some o=>JBh o
  | none=>[]
def Me (g : Addr → Option Obj) : List Addr:=Vx g [mainGlobals]
/-- the getters of properties,and their codes -/
def JXg (o : Obj) : List Addr:=match o.cls,o.data with
  | .type n,.fields vs=>if n == "property" then vs.toList.flatMap He.refV else []
  | _,_=>[]
def JVo (g : Addr → Option Obj) (as : List Addr) : List Addr:=as.flatMap fun a=>match g a with
  | some o=>JXg o
  | none=>[]
def Rx (g : Addr → Option Obj) (a : Addr) : Bool:=match g a with
  | some o=>(match o.data with
    | .cls _=>true
    | _=>false)
  | none=>false
/-- classes,their own names,their functions; then functions,codes (what is asked most stands ahead) -/
def asC (g : Addr → Option Obj) (as c1 f1 : List Addr) : List Addr:=c1 ++ (Vx g c1 ++ (Vx g (Vx g c1) ++ (f1 ++ (Vx g (Vx g (Vx g c1)) ++ (Vx g f1 ++ (JVo g (Vx g (Vx g c1)) ++ (Vx g (JVo g (Vx g (Vx g c1))) ++ Vx g (Vx g (Vx g (Vx g c1))))))))))
def asQ (g : Addr → Option Obj) (n : Nat) : List Addr:=mainGlobals :: cStatics :: asC g (Me g) ((Me g).filter (Rx g)) ((Me g).filter fun a=>!Rx g a)
section
variable {fa : List He.Fa} {fn : List He.DefD} {gs : List GetD} {ss : List He.DefD} {tf : List He.Defn} {ex : PySem.W.Frag → Bool} {n : Nat} {file : Str}
abbrev AlQ : Type:=He.AlX × ((Bool × List He.FnW) × (Bool × List FnS))
theorem JK6 {r : PySem.W.OpenRow} {q : Program} {M : Nat} {loose : List Str} {w : World} {H H1 H2 : PySem.W.Hook} {ob : PySem.W.SharedT → H.α} {ob1 : PySem.W.SharedT → H1.α} {ob2 : PySem.W.SharedT → H2.α} (e : ∀ s,ob1 s = H1.val w → ob2 s = H2.val w → ob s = H.val w) (r1 : HandSHeadRun.RunEq r q H1 ob1 M loose w) (r2 : HandSHeadRun.RunEq r q H2 ob2 M loose w) : HandSHeadRun.RunEq r q H ob M loose w:=by
  intro os
  have a:=r1 os
  have b:=r2 os
  revert a b
  generalize HandSHeadRun.endF _ _ _ _ _ = x
  intro a b
  cases x with
  | none=>cases a
  | some s =>
    simp only [Option.map_some,Option.some.injEq,Prod.mk.injEq] at a b ⊢
    exact ⟨a.1,a.2.1,e s a.2.2 b.2.2⟩
end
end Vs
namespace Vs
open PySem PySem.Spec PyProof.Rows L2
end Vs
namespace Vs
open PySem PySem.Spec PyProof.Rows L2
/-- what a module's dict holds at a text key -/
def nsA (K : PySem.W.Frag) (a : Addr) (x : Str) : Addr:=match PySem.W.nsIn K a x with
  | some (some (.ref b))=>b
  | _=>0
def Oy : V → Value → Bool
  | .int i,.int j _=>decide (i = j)
  | .str x,.str y _=>decide (x = y)
  | _,_=>false
def valsB : List V → List Value → Bool
  | [],[]=>true
  | v :: vs,u :: us=>Oy v u && valsB vs us
  | _,_=>false
def Lp (K : PySem.W.Frag) (a : Addr) (vs : List V) : Bool:=match K.lookup a with
  | some ⟨.type c,_,.seq its _,_⟩=>decide (c = "tuple") && (decide (its.size ≤ sizeLine) && valsB vs its.toList)
  | _=>false
def Ka (K : PySem.W.Frag) (a : Addr) (x : Str) (vs : List V) : Bool:=He.eqO (PySem.W.nsIn K a x) (some (some (.ref (nsA K a x)))) && Lp K (nsA K a x) vs
theorem JXa {v : V} {u : Value} (h : Oy v u = true) : RelV v u:=by
  unfold Oy at h
  split at h
  · have:=of_decide_eq_true h
    subst this
    exact ⟨_,rfl⟩
  · have:=of_decide_eq_true h
    subst this
    exact ⟨_,rfl⟩
  · cases h
theorem valsB_ok : ∀ {vs : List V} {us : List Value},valsB vs us = true → Vals vs us
  | [],[],_=>.nil
  | v :: vs,u :: us,h=>by
    obtain ⟨h1,h2⟩:=He.ba h
    exact .cons (JXa h1) (valsB_ok h2)
  | [],_ :: _,h=>by cases h
  | _ :: _,[],h=>by cases h
theorem D1 {K : PySem.W.Frag} {a : Addr} {vs : List V} (h : Lp K a vs = true) : ∃ (o : Obj) (its : Array Value) (n : Nat),K.lookup a = some o ∧ o.cls = .type "tuple" ∧ o.data = .seq its n ∧ its.size ≤ sizeLine ∧ Vals vs its.toList:=by
  unfold Lp at h
  split at h
  · rename_i c d its n sl q
    obtain ⟨h1,h2⟩:=He.ba h
    obtain ⟨h3,h4⟩:=He.ba h2
    have:=of_decide_eq_true h1
    subst this
    exact ⟨_,its,n,q,rfl,rfl,of_decide_eq_true h3,valsB_ok h4⟩
  · cases h
theorem Nj {K : PySem.W.Frag} {w : World} {a : Addr} {es : Array DictEntry} {n : Nat} {x : Str} {vs : List V} (D : KDict K w a es n) (h : Ka K a x vs = true) : ∃ b,KDct K w a x (.ref b) ∧ ∃ (o : Obj) (its : Array Value) (n : Nat),K.lookup b = some o ∧ o.cls = .type "tuple" ∧ o.data = .seq its n ∧ its.size ≤ sizeLine ∧ Vals vs its.toList:=by
  obtain ⟨h1,h2⟩:=He.ba h
  exact ⟨nsA K a x,⟨es,n,.ref (nsA K a x),D.at_,D.lit,He.eqO_ok h1,rfl⟩,D1 h2⟩
end Vs
namespace Vs
open PySem PySem.Spec PyProof.Rows L2
/-- a world whose one row of habits is told -/
def wf (w : World) (b : Bool) : World:={ w with params:={ w.params with followText:=fun r=>if r == "special-get-raises" then b else w.params.followText r } }
theorem JX6 (w : World) : wf w (w.params.followText "special-get-raises") = w:=by
  have e : (fun r : String=>if r == "special-get-raises" then w.params.followText "special-get-raises" else w.params.followText r) = w.params.followText:=by
    funext r
    by_cases h : r = "special-get-raises"
    · subst h
      simp
    · have : (r == "special-get-raises") = false:=by simpa using h
      rw [this]
      rfl
  unfold wf
  rw [e]
theorem JVf {P : World → Prop} (h1 : ∀ w,P (wf w true)) (h0 : ∀ w,P (wf w false)) (w : World) : P w:=by
  have e:=JX6 w
  cases hb : w.params.followText "special-get-raises" with
  | true =>
    rw [hb] at e
    rw [← e]
    exact h1 w
  | false =>
    rw [hb] at e
    rw [← e]
    exact h0 w
section
variable {fa : List He.Fa} {fn : List He.DefD} {ts : List He.Tab} {gs : List GetD} {ss : List He.DefD} {tf : List He.Defn} {ex : PySem.W.Frag → Bool} {n : Nat} {file : Str}
def Py (fa : List He.Fa) (fn : List He.DefD) (ts : List He.Tab) (tf : List He.Defn) (ex : PySem.W.Frag → Bool) (g : Addr → Option Obj) (K : PySem.W.Frag) : He.AlX:=(He.obsT fa fn ts K,ex K && He.tabsB g tf K)
theorem JFz {as : List Addr} {w : World} {h : Heap} (e : Py fa fn ts tf ex h.get? (He.frT h.get? as) = He.valX fn ts w) : He.SaysX fa fn ts tf ex w h (He.frT h.get? as):=by
  have e1 : He.obsT fa fn ts (He.frT h.get? as) = He.valT fn ts w:=congrArg (fun z : He.AlX=>z.1) e
  have e2 : (ex (He.frT h.get? as) && He.tabsB h.get? tf (He.frT h.get? as)) = true:=congrArg (fun z : He.AlX=>z.2) e
  obtain ⟨h1,h2⟩:=He.ba e2
  have key : ∀ p ∈ tf,PySem.W.codeHdIn (He.frT h.get? as) (He.cT (He.frT h.get? as) p).1 (He.cT (He.frT h.get? as) p).2 = true ∧ ∃ o,h.get? (He.cT (He.frT h.get? as) p).2 = some o ∧ He.emptyTab o = true:=fun p hp=>by
    obtain ⟨h3,h4⟩:=He.ba (List.all_eq_true.mp h2 p hp)
    refine ⟨h3,?_⟩
    cases q : h.get? (He.cT (He.frT h.get? as) p).2 with
    | none =>
      rw [q] at h4
      cases h4
    | some o =>
      rw [q] at h4
      exact ⟨o,rfl,h4⟩
  exact ⟨e1,h1,fun p hp=>(key p hp).1,fun p hp=>by
    obtain ⟨_,o,q,z⟩:=key p hp
    exact He.frT_none q z,fun p hp=>by
    obtain ⟨_,o,q,z⟩:=key p hp
    rw [q,He.emptyTab_eq z]⟩
def Zz (n : Nat) (fa : List He.Fa) (fn : List He.DefD) (ts : List He.Tab) (gs : List GetD) (file : Str) (ss : List He.DefD) (tf : List He.Defn) (ex : PySem.W.Frag → Bool) (g : Addr → Option Obj) : AlQ:=(Py fa fn ts tf ex g (He.frT g (asQ g n)),(obsG gs (He.frT g (asQ g n)),O0 file ss (He.frT g (asQ g n))))
def Ln (n : Nat) (fa : List He.Fa) (fn : List He.DefD) (ts : List He.Tab) (gs : List GetD) (file : Str) (ss : List He.DefD) (tf : List He.Defn) (ex : PySem.W.Frag → Bool) : PySem.W.Hook where
  α:=AlQ
  obs:=fun s=>Zz n fa fn ts gs file ss tf ex s.heap.get?
  val:=fun w=>(He.valX fn ts w,(Ft gs,Fx ss))
  says:=fun w h=>∃ K : PySem.W.Frag,K.In h ∧ He.SaysX fa fn ts tf ex w h K ∧ SaysG gs K ∧ SaysS file ss K
  of:=fun w s e=>⟨He.frT s.heap.get? (asQ s.heap.get? n),He.frT_in,JFz (Prod.mk.inj e).1,(Prod.mk.inj (Prod.mk.inj e).2).1,(Prod.mk.inj (Prod.mk.inj e).2).2⟩
  keeps:=fun _ _ _ ⟨K,hK,c,cg⟩ k=>⟨K,PySem.W.Frag.In.keeps hK k,⟨c.t,c.more,c.hd,c.out,fun p hp=>k _ _ (c.empty p hp)⟩,cg⟩
theorem JXl {g : Addr → Option Obj} {s : Shared} (h : ∀ a,g a = s.heap.get? a) : Zz n fa fn ts gs file ss tf ex g = (Ln n fa fn ts gs file ss tf ex).obs s:=by
  have e : g = s.heap.get?:=funext h
  subst e
  rfl
/-- the run's equation from two: what is asked in two goes -/
theorem JZz {g : Addr → Option Obj} {w : World} (h2 : Zz n [] fn [] [] file [] [] (fun _=>true) g = (He.valX fn [] w,(Ft [],Fx []))) (h1 : Zz n fa [] ts gs file ss tf ex g = (He.valX [] ts w,(Ft gs,Fx ss))) : Zz n fa fn ts gs file ss tf ex g = (He.valX fn ts w,(Ft gs,Fx ss)):=by
  have a1 : He.obsT fa [] ts (He.frT g (asQ g n)) = He.valT [] ts w:=congrArg (fun z : AlQ=>z.1.1) h1
  have a2 : (ex (He.frT g (asQ g n)) && He.tabsB g tf (He.frT g (asQ g n))) = true:=congrArg (fun z : AlQ=>z.1.2) h1
  have b1 : He.obsT [] fn [] (He.frT g (asQ g n)) = He.valT fn [] w:=congrArg (fun z : AlQ=>z.1.1) h2
  have b3 : (obsG gs (He.frT g (asQ g n)),O0 file ss (He.frT g (asQ g n))) = (Ft gs,Fx ss):=congrArg (fun z : AlQ=>z.2) h1
  have a3 : (fa.all fun f=>f.ok (He.frT g (asQ g n))) = true:=by
    have:=congrArg (fun z : He.AlT=>z.1.1) a1
    simpa [He.obsT,He.obsD,He.valT,He.valD] using this
  have a4 : (ts.map fun t=>He.dicW (He.frT g (asQ g n)) (t.1 (He.frT g (asQ g n)))) = ts.map fun t=>some (He.keysIn w.params t.2):=congrArg (fun z : He.AlT=>z.2) a1
  have b4 : (fn.all fun d=>d.ok (He.frT g (asQ g n))) = true:=by
    have:=congrArg (fun z : He.AlT=>z.1.1) b1
    simpa [He.obsT,He.obsD,He.valT,He.valD] using this
  have b5 : (fn.map fun d=>He.fnW (He.frT g (asQ g n)) d.at_) = fn.map He.DefD.val:=congrArg (fun z : He.AlT=>z.1.2) b1
  have c1 : He.obsT fa fn ts (He.frT g (asQ g n)) = He.valT fn ts w:=by
    simp only [He.obsT,He.obsD,He.valT,He.valD,a3,b4,b5,Bool.and_self,a4]
  unfold Zz Py
  rw [c1,a2,b3]
  rfl
end
end Vs
set_option maxHeartbeats 0
namespace Law
open PySem PySem.Spec PyProof.Rows L2 Vs
def top (i : Nat) : Stmt:=PySem.Challenge.pw_asofhall_k76_forms_told.main.body.getD i (.Pass ⟨0,0,0,0⟩)
def W0 (i j : Nat) : Stmt:=(match top i with
  | .ClassDef _ _ _ body _ _ _ _ _ _ _=>body
  | _=>[]).getD j (.Pass ⟨0,0,0,0⟩)
def JJz : He.DefD:=⟨("BadForm",some "__init__"),"__init__","BadForm.__init__",defArgs (W0 2 0),defBody (W0 2 0),defScope (W0 2 0),[],[]⟩
def dZ0k : He.DefD:=⟨("is_row",none),"is_row","is_row",defArgs (top 4),defBody (top 4),defScope (top 4),[],[]⟩
def dZ03 : He.DefD:=⟨("is_mark_text",none),"is_mark_text","is_mark_text",defArgs (top 10),defBody (top 10),defScope (top 10),[],[]⟩
def dZ0j : He.DefD:=⟨("is_piece",none),"is_piece","is_piece",defArgs (top 11),defBody (top 11),defScope (top 11),[],[]⟩
def dZ0i : He.DefD:=⟨("is_shape",none),"is_shape","is_shape",defArgs (top 12),defBody (top 12),defScope (top 12),[],[]⟩
def dZ00 : He.DefD:=⟨("Form",some "__init__"),"__init__","Form.__init__",defArgs (W0 13 0),defBody (W0 13 0),defScope (W0 13 0),[],[]⟩
def dZ06 : He.DefD:=⟨("Form",some "__eq__"),"__eq__","Form.__eq__",defArgs (W0 13 1),defBody (W0 13 1),defScope (W0 13 1),[],[]⟩
def dZ0a : He.DefD:=⟨("Form",some "shape"),"shape","Form.shape",defArgs (W0 13 2),defBody (W0 13 2),defScope (W0 13 2),[],[]⟩
def dZ08 : He.DefD:=⟨("_law_stream",none),"_law_stream","_law_stream",defArgs (top 15),defBody (top 15),defScope (top 15),[],[]⟩
def dZ0e : He.DefD:=⟨("_law_draw",none),"_law_draw","_law_draw",defArgs (top 16),defBody (top 16),defScope (top 16),[],[]⟩
def dZ07 : He.DefD:=⟨("_law_fields",none),"_law_fields","_law_fields",defArgs (top 17),defBody (top 17),defScope (top 17),[],[]⟩
def dZ0b : He.DefD:=⟨("_law_order",none),"_law_order","_law_order",defArgs (top 18),defBody (top 18),defScope (top 18),[],[]⟩
def dZ0d : He.DefD:=⟨("_law_mark",none),"_law_mark","_law_mark",defArgs (top 19),defBody (top 19),defScope (top 19),[],[]⟩
def dZ0c : He.DefD:=⟨("_law_signs",none),"_law_signs","_law_signs",defArgs (top 20),defBody (top 20),defScope (top 20),[],[]⟩
def dZ09 : He.DefD:=⟨("_law_shape",none),"_law_shape","_law_shape",defArgs (top 21),defBody (top 21),defScope (top 21),[],[]⟩
def dZ0h : He.DefD:=⟨("_law_odd",none),"_law_odd","_law_odd",defArgs (top 22),defBody (top 22),defScope (top 22),[],[]⟩
def dZ05 : He.DefD:=⟨("_law_spoiled",none),"_law_spoiled","_law_spoiled",defArgs (top 23),defBody (top 23),defScope (top 23),[],[]⟩
def dZ02 : He.DefD:=⟨("_law_is_text",none),"_law_is_text","_law_is_text",defArgs (top 24),defBody (top 24),defScope (top 24),[],[]⟩
def dZ01 : He.DefD:=⟨("_law_is_shape",none),"_law_is_shape","_law_is_shape",defArgs (top 25),defBody (top 25),defScope (top 25),[],[]⟩
def dZ0g : He.DefD:=⟨("_law_made",none),"_law_made","_law_made",defArgs (top 26),defBody (top 26),defScope (top 26),[],[]⟩
def dZ04 : He.DefD:=⟨("_law_unknown",none),"_law_unknown","_law_unknown",defArgs (top 27),defBody (top 27),defScope (top 27),[],[]⟩
def dZ0f : He.DefD:=⟨("_law_told",none),"_law_told","_law_told",defArgs (top 28),defBody (top 28),defScope (top 28),[],[]⟩
def dZ0l : He.DefD:=⟨("law",none),"law","law",defArgs (top 29),defBody (top 29),defScope (top 29),[],[]⟩
def fnL : List He.DefD:=[JJz,dZ0k,dZ03,dZ0j,dZ0i,dZ00,dZ06,dZ0a,dZ08,dZ0e,dZ07,dZ0b,dZ0d,dZ0c,dZ09,dZ0h,dZ05,dZ02,dZ01,dZ0g,dZ04,dZ0f,dZ0l]
def tfL : List He.Defn:=[]
def ssL : List He.DefD:=[]
def Fj : Str:=PySem.Challenge.pw_asofhall_k76_forms_told.main.file
def faL : List He.Fa:=[.glo "HallError",.glo "BadForm",.glo "is_row",.glo "WORDS",.glo "FIELDS",.glo "is_mark_text",.glo "is_piece",.glo "is_shape",.glo "Form",.glo "_law_stream",.glo "_law_draw",.glo "_law_fields",.glo "_law_order",.glo "_law_mark",.glo "_law_signs",.glo "_law_shape",.glo "_law_odd",.glo "_law_spoiled",.glo "_law_is_text",.glo "_law_is_shape",.glo "_law_made",.glo "_law_unknown",.glo "_law_told",.glo "law",.free "ord",.free "len",.free "list",.free "int",.free "tuple",.free "all",.free "range",.free "isinstance",.free "sorted",.free "abs",.free "str",.free "dict",.free "ValueError",.int "MOST_PIECES" 15,.int "LONGEST_MARK" 6,.cls "Form",.mkr "Form",.noat "Form" "_shapes",.meth "Form" "shape",.exm "BadForm" "BadForm" true]
def gtL : List GetD:=[]
def looseL : List Str:=([("__name__" : Str),("HallError" : Str),("BadForm" : Str),("is_row" : Str),("WORDS" : Str),("FIELDS" : Str),("MOST_PIECES" : Str),("LONGEST_MARK" : Str),("is_mark_text" : Str),("is_piece" : Str),("is_shape" : Str),("Form" : Str),("_law_stream" : Str),("_law_draw" : Str),("_law_fields" : Str),("_law_order" : Str),("_law_mark" : Str),("_law_signs" : Str),("_law_shape" : Str),("_law_odd" : Str),("_law_spoiled" : Str),("_law_is_text" : Str),("_law_is_shape" : Str),("_law_made" : Str),("_law_unknown" : Str),("_law_told" : Str)] : List Str) ++ ([] : List Str)
abbrev RR : PySem.W.OpenRow:=PySem.W.OpenLaw.row PySem.Challenge.rw_asofhall_k76_forms_told
def tsL : List He.Tab:=[(fun K=>(He.ga K "FIELDS"),["row","fix","gone"])]
def exL : List (PySem.W.Frag → Bool):=[fun K=>Rb K (He.ga K "BadForm"),fun K=>Dk K (He.ga K "BadForm") "value",fun K=>Kk K (He.ga K "BadForm"),fun K=>Vz K (.ref (He.ga K "BadForm")) (.ref (He.ga K "HallError")) true,fun K=>Kk K (He.ga K "Form"),fun K=>neB K (He.ga K "Form"),fun K=>A6 K (He.ga K "Form") "__eq__",fun K=>Vz K (.type "NoneType") (.ref (He.ga K "Form")) false,fun K=>Vz K (.type "bool") (.ref (He.ga K "Form")) false,fun K=>Vz K (.ref (He.ga K "Form")) (.type "bool") false,fun K=>Vz K (.type "int") (.ref (He.ga K "Form")) false,fun K=>Vz K (.ref (He.ga K "Form")) (.type "int") false,fun K=>Vz K (.type "str") (.ref (He.ga K "Form")) false,fun K=>Vz K (.ref (He.ga K "Form")) (.type "str") false,fun K=>Vz K (.type "list") (.ref (He.ga K "Form")) false,fun K=>Vz K (.ref (He.ga K "Form")) (.type "list") false,fun K=>Vz K (.type "tuple") (.ref (He.ga K "Form")) false,fun K=>Vz K (.ref (He.ga K "Form")) (.type "tuple") false,fun K=>Vz K (.type "dict") (.ref (He.ga K "Form")) false,fun K=>Vz K (.ref (He.ga K "Form")) (.type "dict") false,fun K=>Vz K (.ref (He.ga K "Form")) (.ref (He.ga K "Form")) true,fun K=>Lp K (He.ga K "WORDS") [.str "row",.str "fix",.str "gone"],fun K=>Ka K (He.ga K "FIELDS") "row" [.str "id",.str "stream",.str "key",.str "moment",.str "amount",.str "arrival"],fun K=>Ka K (He.ga K "FIELDS") "fix" [.str "id",.str "moment",.str "amount",.str "arrival"],fun K=>Ka K (He.ga K "FIELDS") "gone" [.str "id",.str "arrival"]]
def exK (K : PySem.W.Frag) : Bool:=exL.all fun f=>f K
abbrev hkL : PySem.W.Hook:=Ln 6 faL fnL tsL gtL Fj ssL tfL exK
def obL (s : PySem.W.SharedT) : AlQ:=Zz 6 faL fnL tsL gtL Fj ssL tfL exK (HandSHeadRun.getT s)
theorem ob_eqL (s : PySem.W.SharedT) : obL s = hkL.obs s.abs:=JXl (HandSHeadRun.getT_eq s)
abbrev hkA : PySem.W.Hook:=Ln 6 faL [] tsL gtL Fj ssL tfL exK
def obA (s : PySem.W.SharedT) : AlQ:=Zz 6 faL [] tsL gtL Fj ssL tfL exK (HandSHeadRun.getT s)
abbrev hkB : PySem.W.Hook:=Ln 6 [] fnL [] [] Fj [] [] (fun _=>true)
def obB (s : PySem.W.SharedT) : AlQ:=Zz 6 [] fnL [] [] Fj [] [] (fun _=>true) (HandSHeadRun.getT s)
theorem JX4 (w : World) : HandSHeadRun.RunEq RR (PySem.W.view RR.prog [29]) hkB obB 4000 looseL (wf w true):=by
  intro os
  kernel_rfl
theorem JF4 (w : World) : HandSHeadRun.RunEq RR (PySem.W.view RR.prog [29]) hkB obB 4000 looseL (wf w false):=by
  intro os
  kernel_rfl
theorem JFe (w : World) : HandSHeadRun.RunEq RR (PySem.W.view RR.prog [29]) hkA obA 4000 looseL (wf w true):=by
  intro os
  kernel_rfl
theorem JH2 (w : World) : HandSHeadRun.RunEq RR (PySem.W.view RR.prog [29]) hkA obA 4000 looseL (wf w false):=by
  intro os
  kernel_rfl
theorem runL (w : World) : HandSHeadRun.RunEq RR (PySem.W.view RR.prog [29]) hkL obL 4000 looseL w:=JK6 (H:=hkL) (H1:=hkB) (H2:=hkA) (ob:=obL) (ob1:=obB) (ob2:=obA) (fun s h1 h2=>JZz h1 h2) (JVf (P:=fun w=>HandSHeadRun.RunEq RR (PySem.W.view RR.prog [29]) hkB obB 4000 looseL w) JX4 JF4 w) (JVf (P:=fun w=>HandSHeadRun.RunEq RR (PySem.W.view RR.prog [29]) hkA obA 4000 looseL w) JFe JH2 w)
end Law
namespace Law
open PySem PySem.Spec PyProof.Rows L2 Vs
theorem JHw {Pr : Program} {w : World} : ∀ st H s e s',¬ L2.CX Pr w st H s (fun _ _ _=>False) e s':=fun st H s e s' c=>by
  unfold L2.CX at c
  first
    | exact c.elim
    | (obtain ⟨_,_,_,_,_,_,_,_,_,_,_,_,_,_,_,h⟩:=c; exact h)
    | (obtain ⟨_,_,_,_,_,_,_,_,_,_,_,_,_,_,h⟩:=c; exact h)
    | (obtain ⟨_,_,_,_,_,_,_,_,_,_,_,_,_,h⟩:=c; exact h)
    | (obtain ⟨_,_,_,_,_,_,_,_,_,_,_,_,h⟩:=c; exact h)
theorem walk_w {l : PySem.W.OpenLaw} {n k : Nat} {q : Program} {loose : List Str} {XP : (Str → Option Value) → Heap → Prop} {YP : World → Heap → Prop} {d : DefRec} {x : Str}
    (h1 : l.most = some n) (h2 : n ≤ sizeLine) (h3 : d.params.defaults = []) (hr : Room k callerA)
    (F : ∀ (w : World) (mg : Str → Option Value) (ad : Addr) (h : Heap),YP w h → h.Ns mainGlobals mg → mg d.name = some (.ref ad) → ∃ (K : PySem.W.Frag) (fd : FuncData) (sp : Sp) (cs : List (Addr × Addr)),K.In h ∧ (∀ p ∈ cs,h.get? p.2 = some { cls:=.none,data:=.fields #[] }) ∧ (∀ p ∈ cs,K.lookup p.2 = none) ∧ (∀ p ∈ cs,PySem.W.CodeHd h p.1 p.2) ∧ (∀ (s : Shared) (u : Value),BindsTo s fd ⟨[u],[]⟩ [(x,u)]) ∧
        (∀ (H : Hp) (a : Addr) (ns : List Int),ns.length ≤ n → (∀ p ∈ cs,H p.2 = some (.tbl #[])) → SqL K H a (ns.map V.int) → sp [.ref a] H (fun v _=>v = .bl true) fun _ _ _=>False) ∧ ∀ base : Heap,K.In base → base.Ns mainGlobals mg → (∀ p ∈ cs,LamX.TabB base mg p.1 p.2) → FnOk l.prog w K mg base (L2.CX l.prog w) k ad fd [x] sp) :
    PySem.W.WalkO q loose XP YP l.row.toRowW d [] (fun f vs=>PySem.call f vs):=by
  refine Att.attach_call h1 h3 ?_
  intro w sa sb mg mb ad o pm cd doc a vs ns G Y ho hd hc hm hb hi hl hg
  obtain ⟨K,fd,sp,cs,KX,hT,nT,hC,hbd,hsp,hF⟩:=F w mg ad _ Y G.T.g hm
  exact LamX.law_callTs KX G.T.g G.T.b G.T.builtins G.T.nolimit hg hT nT hC G.T.bmain hb hi (Nat.le_trans hl h2) hr hF hbd (fun H hH hS=>hsp H a ns hl hH hS) fun H e s' z=>JHw _ _ _ _ _ z
end Law
section
open PySem PySem.W PySem.Calls PyProof.Rows
theorem Law.close (hF : ∀ (w : World) (K : PySem.W.Frag) (h : Heap) (mg : PySem.Str → Option Value) (fa : Addr),K.In h → h.Ns mainGlobals mg → mg ("law" : PySem.Str) = some (.ref fa) → He.SaysX Law.faL Law.fnL Law.tsL Law.tfL Law.exK w h K → Vs.SaysG Law.gtL K → ∃ (fd : FuncData) (sp : L2.Sp),(∀ (s : Shared) (v : Value),BindsTo s fd ⟨[v],[]⟩ [("_law_script",v)]) ∧ (∀ (H : L2.Hp) (a : Addr) (ns : List Int),ns.length ≤ 63 → (∀ p ∈ Law.tfL.map (He.cT K),H p.2 = some (.tbl #[])) → L2.SqL K H a (ns.map L2.V.int) → sp [.ref a] H (fun v _=>v = .bl true) fun _ _ _=>False) ∧
    ∀ base : Heap,K.In base → base.Ns mainGlobals mg → (∀ p ∈ Law.tfL.map (He.cT K),LamX.TabB base mg p.1 p.2) → L2.FnOk (PySem.Challenge.rw_asofhall_k76_forms_told).prog w K mg base (L2.CX (PySem.Challenge.rw_asofhall_k76_forms_told).prog w) 7 fa fd ["_law_script"] sp) : PySem.Challenge.rw_asofhall_k76_forms_told.Holds:=by
  w_on; o_law
  refine HandSHeadRun.head_any (r:=OpenLaw.row PySem.Challenge.rw_asofhall_k76_forms_told) (q:=view (OpenLaw.row PySem.Challenge.rw_asofhall_k76_forms_told).prog [29]) (H:=Law.hkL) (ob:=Law.obL) (M:=4000) (loose:=Law.looseL) (d:=HandSHeadRun.topDef (OpenLaw.row PySem.Challenge.rw_asofhall_k76_forms_told).prog 29) (kwd:=[]) Law.ob_eqL
    (by kernel_rfl) (fun s=>by kernel_rfl) Law.runL (by kernel_rfl) (by kernel_rfl) (by kernel_rfl) (by rfl) (by first | assumption | decide +kernel) (by decide +kernel) ⟨rfl,rfl,rfl,rfl,rfl,by decide +kernel⟩ ?hw ?hc
  case hw=>w_witness2
  case hc =>
    refine Law.walk_w (l:=PySem.Challenge.rw_asofhall_k76_forms_told) (n:=63) (k:=7) (x:="_law_script") rfl (by decide) (by kernel_rfl) ⟨rfl,by decide,by decide⟩ ?F
    intro w mg fa h Y G hmg0
    obtain ⟨K,KX,c,cg,_⟩:=Y
    have hmg : mg ("law" : PySem.Str) = some (.ref fa):=by
      have e : (HandSHeadRun.topDef (OpenLaw.row PySem.Challenge.rw_asofhall_k76_forms_told).prog 29).name = ("law" : PySem.Str):=by kernel_rfl
      rw [← e]
      exact hmg0
    obtain ⟨fd,sp,h1,h2,h3⟩:=hF w K h mg fa KX G hmg c cg
    exact ⟨K,fd,sp,Law.tfL.map (He.cT K),KX,fun p hp=>let ⟨_,h1,e⟩:=List.mem_map.mp hp; e ▸ c.empty _ h1,fun p hp=>let ⟨_,h1,e⟩:=List.mem_map.mp hp; e ▸ c.out _ h1,fun p hp=>let ⟨_,h1,e⟩:=List.mem_map.mp hp; e ▸ PySem.W.codeHd_of_K KX (c.hd _ h1),h1,h2,h3⟩
end
set_option maxHeartbeats 1000000
namespace Vs
open PySem L2
abbrev Fg:=PySem.W.Frag
/-- plain data -/
inductive D where
  | non | bl (b : Bool) | int (i : Int) | str (x : Str) | ty (n : String)
  | lst (xs : List D) | tup (xs : List D) | dic (kvs : List (Key × D)) | obj (C : Addr) (fs : List (Str × D)) | any
/-- a step of a path: an index,a key,a field -/
inductive Stp where
  | n (i : Nat) | k (k : Key) | f (x : Str)
/-- what a name or an expression holds: shared data; an owned list,dict,instance; what slot i owns; an owned list,dict,tuple whose items may be owned; a thing of value w that is told of; a reference to what stands at slot i,path p -/
inductive A where
  | v (d : D)
  | lst (xs : List D) | dic (kvs : List (Key × D)) | obj (C : Addr) (fs : List (Str × A))
  | loc (i : Nat)
  | nl (xs : List A) | nd (kvs : List (Key × A)) | nt (xs : List A) | cel (w : V) (x : A) | pth (i : Nat) (p : List Stp) (w : V)
mutual
def Rep (K : Fg) (S : Hp) : D → V → Prop
  | .non,v=>v = .non
  | .bl b,v=>v = .bl b
  | .int i,v=>v = .int i
  | .str x,v=>v = .str x
  | .ty n,v=>v = .ty n
  | .lst xs,v=>∃ a vs,v = .ref a ∧ SqL K S a vs ∧ RepL K S xs vs
  | .tup xs,v=>∃ a vs,v = .ref a ∧ SqT K S a vs ∧ RepL K S xs vs
  | .dic kvs,v=>∃ a ws,v = .ref a ∧ Rd S a (.dK ws) ∧ RepK K S kvs ws
  | .obj C fs,v=>∃ a dx ws,v = .ref a ∧ S a = some (.ins C dx ws) ∧ RepF K S fs ws
  | .any,v=>∃ a,v = .ref a
def RepL (K : Fg) (S : Hp) : List D → List V → Prop
  | [],vs=>vs = []
  | x :: xs,vs=>∃ v r,vs = v :: r ∧ Rep K S x v ∧ RepL K S xs r
def RepK (K : Fg) (S : Hp) : List (Key × D) → List (Key × V) → Prop
  | [],vs=>vs = []
  | (k,x) :: xs,vs=>∃ v r,vs = (k,v) :: r ∧ Rep K S x v ∧ RepK K S xs r
def RepF (K : Fg) (S : Hp) : List (Str × D) → List (Str × V) → Prop
  | [],vs=>vs = []
  | (k,x) :: xs,vs=>∃ v r,vs = (k,v) :: r ∧ Rep K S x v ∧ RepF K S xs r
end
mutual
def A.toD : A → D
  | .v d=>d
  | .lst xs=>.lst xs
  | .dic kvs=>.dic kvs
  | .obj C fs=>.obj C (A.toDs fs)
  | .loc _=>.non
  | .nl _=>.any
  | .nd _=>.any
  | .nt _=>.any
  | .cel _ _=>.any
  | .pth _ _ _=>.any
def A.toDs : List (Str × A) → List (Str × D)
  | []=>[]
  | (k,x) :: r=>(k,x.toD) :: A.toDs r
end
mutual
def RepA (K : Fg) (S H : Hp) : A → V → List Addr → Prop
  | .v d,v,fp=>Rep K S d v ∧ fp = []
  | .lst xs,v,fp=>∃ a vs,v = .ref a ∧ H a = some (.lst vs) ∧ RepL K S xs vs ∧ fp = [a]
  | .dic kvs,v,fp=>∃ a ws,v = .ref a ∧ H a = some (.dK ws) ∧ RepK K S kvs ws ∧ fp = [a]
  | .obj C fs,v,fp=>∃ a dx ws g,v = .ref a ∧ H a = some (.ins C dx ws) ∧ RepAF K S H fs ws g ∧ fp = a :: g
  | .loc _,_,_=>False
  | .nl xs,v,fp=>∃ a vs g,v = .ref a ∧ H a = some (.lst vs) ∧ RepAL K S H xs vs g ∧ fp = a :: g
  | .nd kvs,v,fp=>∃ a ws g,v = .ref a ∧ H a = some (.dK ws) ∧ RepAK K S H kvs ws g ∧ fp = a :: g
  | .nt xs,v,fp=>∃ a vs g,v = .ref a ∧ H a = some (.tup vs) ∧ RepAL K S H xs vs g ∧ fp = a :: g
  | .cel w x,v,fp=>v = w ∧ (∃ a,w = .ref a) ∧ RepA K S H x v fp
  | .pth _ _ w,v,fp=>v = w ∧ (∃ a,w = .ref a) ∧ fp = []
def RepAF (K : Fg) (S H : Hp) : List (Str × A) → List (Str × V) → List Addr → Prop
  | [],vs,fp=>vs = [] ∧ fp = []
  | (k,x) :: xs,vs,fp=>∃ v r g h,vs = (k,v) :: r ∧ RepA K S H x v g ∧ RepAF K S H xs r h ∧ fp = g ++ h
def RepAL (K : Fg) (S H : Hp) : List A → List V → List Addr → Prop
  | [],vs,fp=>vs = [] ∧ fp = []
  | x :: xs,vs,fp=>∃ v r g h,vs = v :: r ∧ RepA K S H x v g ∧ RepAL K S H xs r h ∧ fp = g ++ h
def RepAK (K : Fg) (S H : Hp) : List (Key × A) → List (Key × V) → List Addr → Prop
  | [],vs,fp=>vs = [] ∧ fp = []
  | (k,x) :: xs,vs,fp=>∃ v r g h,vs = (k,v) :: r ∧ RepA K S H x v g ∧ RepAK K S H xs r h ∧ fp = g ++ h
end
/-- S is part of H; a dict may be locked there -/
def Le (S H : Hp) : Prop:=∀ a o,S a = some o → H a = some o ∨ ∃ ob ws,o = .dK ws ∧ H a = some (.frz ob (.dK ws))
theorem Le.of_same {S H : Hp} (h : Same S H) : Le S H:=fun a o e=>.inl (h a o e)
theorem Same.up {H : Hp} {p : Addr} {o : HO} (h : H p = none) : Same H (upd H p o):=fun a u e=>by
  rw [upd_ne (ne_of_none e h)]; exact e
theorem Le.up {S H : Hp} {p : Addr} {o : HO} (h : Le S H) (hn : S p = none) : Le S (upd H p o):=fun a u e=>by
  have ne : a ≠ p:=ne_of_none e hn
  rcases h a u e with q | ⟨ob,ws,q1,q2⟩
  · exact .inl (by rw [upd_ne ne]; exact q)
  · exact .inr ⟨ob,ws,q1,by rw [upd_ne ne]; exact q2⟩
theorem Le.none {S H : Hp} {p : Addr} (h : Le S H) (hn : H p = none) : S p = none:=by
  cases e : S p with
  | none=>rfl
  | some o =>
    rcases h p o e with q | ⟨_,_,_,q⟩
    · rw [hn] at q; cases q
    · rw [hn] at q; cases q
theorem Same.none {S H : Hp} {p : Addr} (h : Same S H) (hn : H p = none) : S p = none:=by
  cases e : S p with
  | none=>rfl
  | some o=>have:=h p o e; rw [hn] at this; cases this
theorem Le.trans {S S' H : Hp} (h : Same S S') (h' : Le S' H) : Le S H:=fun a o e=>h' a o (h a o e)
theorem Rd.le {S H : Hp} {a : Addr} {u : HO} (hl : Le S H) (hu : (∃ xs,u = .lst xs) ∨ (∃ xs,u = .tup xs) ∨ ∃ ws,u = .dK ws) (h : Rd S a u) : Rd H a u:=by
  rcases h with h | ⟨o,h⟩
  · rcases hl a u h with q | ⟨ob,ws,q1,q2⟩
    · exact .inl q
    · subst q1; exact .inr ⟨ob,q2⟩
  · rcases hl a _ h with q | ⟨ob,ws,q1,q2⟩
    · exact .inr ⟨o,q⟩
    · cases q1
theorem SqL.le {K : Fg} {S H : Hp} {a : Addr} {xs : List V} (hl : Le S H) (h : SqL K S a xs) : SqL K H a xs:=by
  rcases h with h | h
  · exact .inl (Rd.le hl (.inl ⟨_,rfl⟩) h)
  · exact .inr h
theorem SqT.le {K : Fg} {S H : Hp} {a : Addr} {xs : List V} (hl : Le S H) (h : SqT K S a xs) : SqT K H a xs:=by
  rcases h with h | h
  · exact .inl (Rd.le hl (.inr (.inl ⟨_,rfl⟩)) h)
  · exact .inr h
theorem Tt {S H : Hp} {a C dx : Addr} {ws : List (Str × V)} (hl : Le S H) (h : S a = some (.ins C dx ws)) : H a = some (.ins C dx ws):=by
  rcases hl a _ h with q | ⟨_,_,q1,_⟩
  · exact q
  · cases q1
section
variable {K : Fg} {S H : Hp}
mutual
theorem Rep.le (hl : Le S H) : ∀ (d : D) (v : V),Rep K S d v → Rep K H d v
  | .non,v,h=>by simpa only [Rep] using h
  | .bl _,v,h=>by simpa only [Rep] using h
  | .int _,v,h=>by simpa only [Rep] using h
  | .str _,v,h=>by simpa only [Rep] using h
  | .ty _,v,h=>by simpa only [Rep] using h
  | .lst xs,v,h=>by
    simp only [Rep] at h ⊢
    obtain ⟨a,vs,e,h1,h2⟩:=h
    exact ⟨a,vs,e,SqL.le hl h1,RepL.le hl xs vs h2⟩
  | .tup xs,v,h=>by
    simp only [Rep] at h ⊢
    obtain ⟨a,vs,e,h1,h2⟩:=h
    exact ⟨a,vs,e,SqT.le hl h1,RepL.le hl xs vs h2⟩
  | .dic xs,v,h=>by
    simp only [Rep] at h ⊢
    obtain ⟨a,vs,e,h1,h2⟩:=h
    exact ⟨a,vs,e,Rd.le hl (.inr (.inr ⟨_,rfl⟩)) h1,RepK.le hl xs vs h2⟩
  | .obj C fs,v,h=>by
    simp only [Rep] at h ⊢
    obtain ⟨a,dx,vs,e,h1,h2⟩:=h
    exact ⟨a,dx,vs,e,Tt hl h1,RepF.le hl fs vs h2⟩
  | .any,v,h=>by simpa only [Rep] using h
theorem RepL.le (hl : Le S H) : ∀ (xs : List D) (vs : List V),RepL K S xs vs → RepL K H xs vs
  | [],vs,h=>by simpa only [RepL] using h
  | x :: xs,vs,h=>by
    simp only [RepL] at h ⊢
    obtain ⟨v,r,e,h1,h2⟩:=h
    exact ⟨v,r,e,Rep.le hl x v h1,RepL.le hl xs r h2⟩
theorem RepK.le (hl : Le S H) : ∀ (xs : List (Key × D)) (vs : List (Key × V)),RepK K S xs vs → RepK K H xs vs
  | [],vs,h=>by simpa only [RepK] using h
  | (k,x) :: xs,vs,h=>by
    simp only [RepK] at h ⊢
    obtain ⟨v,r,e,h1,h2⟩:=h
    exact ⟨v,r,e,Rep.le hl x v h1,RepK.le hl xs r h2⟩
theorem RepF.le (hl : Le S H) : ∀ (xs : List (Str × D)) (vs : List (Str × V)),RepF K S xs vs → RepF K H xs vs
  | [],vs,h=>by simpa only [RepF] using h
  | (k,x) :: xs,vs,h=>by
    simp only [RepF] at h ⊢
    obtain ⟨v,r,e,h1,h2⟩:=h
    exact ⟨v,r,e,Rep.le hl x v h1,RepF.le hl xs r h2⟩
end
mutual
/-- an owned thing stays while S grows and its own cells are as they were -/
theorem RepA.keep {S' H' : Hp} (hs : Same S S') : ∀ (x : A) (v : V) (fp : List Addr),(∀ a ∈ fp,H' a = H a) → RepA K S H x v fp → RepA K S' H' x v fp
  | .v d,v,fp,_,h=>by
    simp only [RepA] at h ⊢
    exact ⟨Rep.le (Le.of_same hs) d v h.1,h.2⟩
  | .lst xs,v,fp,hk,h=>by
    simp only [RepA] at h ⊢
    obtain ⟨a,vs,e,h1,h2,h3⟩:=h
    exact ⟨a,vs,e,by rw [hk a (by simp [h3])]; exact h1,RepL.le (Le.of_same hs) xs vs h2,h3⟩
  | .dic xs,v,fp,hk,h=>by
    simp only [RepA] at h ⊢
    obtain ⟨a,vs,e,h1,h2,h3⟩:=h
    exact ⟨a,vs,e,by rw [hk a (by simp [h3])]; exact h1,RepK.le (Le.of_same hs) xs vs h2,h3⟩
  | .obj C fs,v,fp,hk,h=>by
    simp only [RepA] at h ⊢
    obtain ⟨a,dx,vs,g,e,h1,h2,h3⟩:=h
    exact ⟨a,dx,vs,g,e,by rw [hk a (by simp [h3])]; exact h1,RepAF.keep hs fs vs g (fun b hb=>hk b (by simp [h3,hb])) h2,h3⟩
  | .loc i,v,fp,hk,h=>by
    simp only [RepA] at h
  | .nl xs,v,fp,hk,h=>by
    simp only [RepA] at h ⊢
    obtain ⟨a,vs,g,e,h1,h2,h3⟩:=h
    exact ⟨a,vs,g,e,by rw [hk a (by simp [h3])]; exact h1,RepAL.keep hs xs vs g (fun b hb=>hk b (by simp [h3,hb])) h2,h3⟩
  | .nt xs,v,fp,hk,h=>by
    simp only [RepA] at h ⊢
    obtain ⟨a,vs,g,e,h1,h2,h3⟩:=h
    exact ⟨a,vs,g,e,by rw [hk a (by simp [h3])]; exact h1,RepAL.keep hs xs vs g (fun b hb=>hk b (by simp [h3,hb])) h2,h3⟩
  | .nd xs,v,fp,hk,h=>by
    simp only [RepA] at h ⊢
    obtain ⟨a,vs,g,e,h1,h2,h3⟩:=h
    exact ⟨a,vs,g,e,by rw [hk a (by simp [h3])]; exact h1,RepAK.keep hs xs vs g (fun b hb=>hk b (by simp [h3,hb])) h2,h3⟩
  | .cel w x,v,fp,hk,h=>by
    simp only [RepA] at h ⊢
    exact ⟨h.1,h.2.1,RepA.keep hs x v fp hk h.2.2⟩
  | .pth _ _ w,v,fp,hk,h=>by simpa only [RepA] using h
theorem RepAF.keep {S' H' : Hp} (hs : Same S S') : ∀ (xs : List (Str × A)) (vs : List (Str × V)) (fp : List Addr),(∀ a ∈ fp,H' a = H a) → RepAF K S H xs vs fp → RepAF K S' H' xs vs fp
  | [],vs,fp,_,h=>by simpa only [RepAF] using h
  | (k,x) :: xs,vs,fp,hk,h=>by
    simp only [RepAF] at h ⊢
    obtain ⟨v,r,g,g',e,h1,h2,h3⟩:=h
    exact ⟨v,r,g,g',e,RepA.keep hs x v g (fun b hb=>hk b (by simp [h3,hb])) h1,RepAF.keep hs xs r g' (fun b hb=>hk b (by simp [h3,hb])) h2,h3⟩
theorem RepAL.keep {S' H' : Hp} (hs : Same S S') : ∀ (xs : List A) (vs : List V) (fp : List Addr),(∀ a ∈ fp,H' a = H a) → RepAL K S H xs vs fp → RepAL K S' H' xs vs fp
  | [],vs,fp,_,h=>by simpa only [RepAL] using h
  | x :: xs,vs,fp,hk,h=>by
    simp only [RepAL] at h ⊢
    obtain ⟨v,r,g,g',e,h1,h2,h3⟩:=h
    exact ⟨v,r,g,g',e,RepA.keep hs x v g (fun b hb=>hk b (by simp [h3,hb])) h1,RepAL.keep hs xs r g' (fun b hb=>hk b (by simp [h3,hb])) h2,h3⟩
theorem RepAK.keep {S' H' : Hp} (hs : Same S S') : ∀ (xs : List (Key × A)) (vs : List (Key × V)) (fp : List Addr),(∀ a ∈ fp,H' a = H a) → RepAK K S H xs vs fp → RepAK K S' H' xs vs fp
  | [],vs,fp,_,h=>by simpa only [RepAK] using h
  | (k,x) :: xs,vs,fp,hk,h=>by
    simp only [RepAK] at h ⊢
    obtain ⟨v,r,g,g',e,h1,h2,h3⟩:=h
    exact ⟨v,r,g,g',e,RepA.keep hs x v g (fun b hb=>hk b (by simp [h3,hb])) h1,RepAK.keep hs xs r g' (fun b hb=>hk b (by simp [h3,hb])) h2,h3⟩
end
mutual
/-- the own cells stand in H -/
theorem RepA.there : ∀ (x : A) (v : V) (fp : List Addr),RepA K S H x v fp → ∀ a ∈ fp,H a ≠ none
  | .v d,v,fp,h,a,ha=>by
    simp only [RepA] at h
    simp [h.2] at ha
  | .lst xs,v,fp,h,b,hb=>by
    simp only [RepA] at h
    obtain ⟨a,vs,e,h1,h2,h3⟩:=h
    have : b = a:=by simpa [h3] using hb
    rw [this,h1]; simp
  | .dic xs,v,fp,h,b,hb=>by
    simp only [RepA] at h
    obtain ⟨a,vs,e,h1,h2,h3⟩:=h
    have : b = a:=by simpa [h3] using hb
    rw [this,h1]; simp
  | .obj C fs,v,fp,h,b,hb=>by
    simp only [RepA] at h
    obtain ⟨a,dx,vs,g,e,h1,h2,h3⟩:=h
    rw [h3] at hb
    rcases List.mem_cons.mp hb with q | q
    · rw [q,h1]; simp
    · exact RepAF.there fs vs g h2 b q
  | .loc i,v,fp,h,_,_=>by
    simp only [RepA] at h
  | .nl xs,v,fp,h,b,hb=>by
    simp only [RepA] at h
    obtain ⟨a,vs,g,e,h1,h2,h3⟩:=h
    rw [h3] at hb
    rcases List.mem_cons.mp hb with q | q
    · rw [q,h1]; simp
    · exact RepAL.there xs vs g h2 b q
  | .nt xs,v,fp,h,b,hb=>by
    simp only [RepA] at h
    obtain ⟨a,vs,g,e,h1,h2,h3⟩:=h
    rw [h3] at hb
    rcases List.mem_cons.mp hb with q | q
    · rw [q,h1]; simp
    · exact RepAL.there xs vs g h2 b q
  | .nd xs,v,fp,h,b,hb=>by
    simp only [RepA] at h
    obtain ⟨a,vs,g,e,h1,h2,h3⟩:=h
    rw [h3] at hb
    rcases List.mem_cons.mp hb with q | q
    · rw [q,h1]; simp
    · exact RepAK.there xs vs g h2 b q
  | .cel w x,v,fp,h,a,ha=>by
    simp only [RepA] at h
    exact RepA.there x v fp h.2.2 a ha
  | .pth _ _ w,v,fp,h,a,ha=>by
    simp only [RepA] at h
    simp [h.2.2] at ha
theorem RepAF.there : ∀ (xs : List (Str × A)) (vs : List (Str × V)) (fp : List Addr),RepAF K S H xs vs fp → ∀ a ∈ fp,H a ≠ none
  | [],vs,fp,h,a,ha=>by
    simp only [RepAF] at h
    simp [h.2] at ha
  | (k,x) :: xs,vs,fp,h,a,ha=>by
    simp only [RepAF] at h
    obtain ⟨v,r,g,g',e,h1,h2,h3⟩:=h
    rw [h3] at ha
    rcases List.mem_append.mp ha with q | q
    · exact RepA.there x v g h1 a q
    · exact RepAF.there xs r g' h2 a q
theorem RepAL.there : ∀ (xs : List A) (vs : List V) (fp : List Addr),RepAL K S H xs vs fp → ∀ a ∈ fp,H a ≠ none
  | [],vs,fp,h,a,ha=>by
    simp only [RepAL] at h
    simp [h.2] at ha
  | x :: xs,vs,fp,h,a,ha=>by
    simp only [RepAL] at h
    obtain ⟨v,r,g,g',e,h1,h2,h3⟩:=h
    rw [h3] at ha
    rcases List.mem_append.mp ha with q | q
    · exact RepA.there x v g h1 a q
    · exact RepAL.there xs r g' h2 a q
theorem RepAK.there : ∀ (xs : List (Key × A)) (vs : List (Key × V)) (fp : List Addr),RepAK K S H xs vs fp → ∀ a ∈ fp,H a ≠ none
  | [],vs,fp,h,a,ha=>by
    simp only [RepAK] at h
    simp [h.2] at ha
  | (k,x) :: xs,vs,fp,h,a,ha=>by
    simp only [RepAK] at h
    obtain ⟨v,r,g,g',e,h1,h2,h3⟩:=h
    rw [h3] at ha
    rcases List.mem_append.mp ha with q | q
    · exact RepA.there x v g h1 a q
    · exact RepAK.there xs r g' h2 a q
end
mutual
theorem RepA.fp_eq : ∀ (x : A) (v : V) (f g : List Addr),RepA K S H x v f → RepA K S H x v g → f = g
  | .v d,v,f,g,h,h2=>by
    simp only [RepA] at h h2
    rw [h.2,h2.2]
  | .lst xs,v,f,g,h,h2=>by
    simp only [RepA] at h h2
    obtain ⟨a,vs,e,_,_,h3⟩:=h
    obtain ⟨b,ws,e2,_,_,h4⟩:=h2
    rw [e] at e2; cases e2
    rw [h3,h4]
  | .dic xs,v,f,g,h,h2=>by
    simp only [RepA] at h h2
    obtain ⟨a,vs,e,_,_,h3⟩:=h
    obtain ⟨b,ws,e2,_,_,h4⟩:=h2
    rw [e] at e2; cases e2
    rw [h3,h4]
  | .obj C fs,v,f,g,h,h2=>by
    simp only [RepA] at h h2
    obtain ⟨a,dx,vs,g1,e,h1,q1,h3⟩:=h
    obtain ⟨b,dy,ws,g2,e2,h4,q2,h5⟩:=h2
    rw [e] at e2; cases e2
    rw [h1] at h4; cases h4
    rw [h3,h5,RepAF.fp_eq fs vs g1 g2 q1 q2]
  | .loc i,v,f,g,h,_=>by
    simp only [RepA] at h
  | .nl fs,v,f,g,h,h2=>by
    simp only [RepA] at h h2
    obtain ⟨a,vs,g1,e,h1,q1,h3⟩:=h
    obtain ⟨b,ws,g2,e2,h4,q2,h5⟩:=h2
    rw [e] at e2; cases e2
    rw [h1] at h4; cases h4
    rw [h3,h5,RepAL.fp_eq fs vs g1 g2 q1 q2]
  | .nt fs,v,f,g,h,h2=>by
    simp only [RepA] at h h2
    obtain ⟨a,vs,g1,e,h1,q1,h3⟩:=h
    obtain ⟨b,ws,g2,e2,h4,q2,h5⟩:=h2
    rw [e] at e2; cases e2
    rw [h1] at h4; cases h4
    rw [h3,h5,RepAL.fp_eq fs vs g1 g2 q1 q2]
  | .nd fs,v,f,g,h,h2=>by
    simp only [RepA] at h h2
    obtain ⟨a,vs,g1,e,h1,q1,h3⟩:=h
    obtain ⟨b,ws,g2,e2,h4,q2,h5⟩:=h2
    rw [e] at e2; cases e2
    rw [h1] at h4; cases h4
    rw [h3,h5,RepAK.fp_eq fs vs g1 g2 q1 q2]
  | .cel w x,v,f,g,h,h2=>by
    simp only [RepA] at h h2
    exact RepA.fp_eq x v f g h.2.2 h2.2.2
  | .pth _ _ w,v,f,g,h,h2=>by
    simp only [RepA] at h h2
    rw [h.2.2,h2.2.2]
theorem RepAF.fp_eq : ∀ (xs : List (Str × A)) (vs : List (Str × V)) (f g : List Addr),RepAF K S H xs vs f → RepAF K S H xs vs g → f = g
  | [],vs,f,g,h,h2=>by
    simp only [RepAF] at h h2
    rw [h.2,h2.2]
  | (k,x) :: xs,vs,f,g,h,h2=>by
    simp only [RepAF] at h h2
    obtain ⟨v,r,g1,g2,e,a1,a2,a3⟩:=h
    obtain ⟨v2,r2,g3,g4,e2,b1,b2,b3⟩:=h2
    rw [e] at e2
    injection e2 with e3 e4
    injection e3 with _ e5
    subst e4 e5
    rw [a3,b3,RepA.fp_eq x v g1 g3 a1 b1,RepAF.fp_eq xs r g2 g4 a2 b2]
theorem RepAL.fp_eq : ∀ (xs : List A) (vs : List V) (f g : List Addr),RepAL K S H xs vs f → RepAL K S H xs vs g → f = g
  | [],vs,f,g,h,h2=>by
    simp only [RepAL] at h h2
    rw [h.2,h2.2]
  | x :: xs,vs,f,g,h,h2=>by
    simp only [RepAL] at h h2
    obtain ⟨v,r,g1,g2,e,a1,a2,a3⟩:=h
    obtain ⟨v2,r2,g3,g4,e2,b1,b2,b3⟩:=h2
    rw [e] at e2
    injection e2 with e3 e4
    subst e4 e3
    rw [a3,b3,RepA.fp_eq x v g1 g3 a1 b1,RepAL.fp_eq xs r g2 g4 a2 b2]
theorem RepAK.fp_eq : ∀ (xs : List (Key × A)) (vs : List (Key × V)) (f g : List Addr),RepAK K S H xs vs f → RepAK K S H xs vs g → f = g
  | [],vs,f,g,h,h2=>by
    simp only [RepAK] at h h2
    rw [h.2,h2.2]
  | (k,x) :: xs,vs,f,g,h,h2=>by
    simp only [RepAK] at h h2
    obtain ⟨v,r,g1,g2,e,a1,a2,a3⟩:=h
    obtain ⟨v2,r2,g3,g4,e2,b1,b2,b3⟩:=h2
    rw [e] at e2
    injection e2 with e3 e4
    injection e3 with _ e5
    subst e4 e5
    rw [a3,b3,RepA.fp_eq x v g1 g3 a1 b1,RepAK.fp_eq xs r g2 g4 a2 b2]
end
/-- the own cells of a thing,added to the shared part -/
def addF (S H : Hp) (fp : List Addr) : Hp:=fun a=>if a ∈ fp then H a else S a
theorem Bk {fp : List Addr} {a : Addr} (h : a ∈ fp) : addF S H fp a = H a:=if_pos h
theorem Ww {fp : List Addr} {a : Addr} (h : a ∉ fp) : addF S H fp a = S a:=if_neg h
theorem Xh {fp : List Addr} (h : ∀ a ∈ fp,S a = none) : Same S (addF S H fp):=fun a o e=>by
  by_cases q : a ∈ fp
  · rw [h a q] at e; cases e
  · rw [Ww q]; exact e
theorem Hz {fp : List Addr} (hl : Le S H) : Le (addF S H fp) H:=fun a o e=>by
  by_cases q : a ∈ fp
  · rw [Bk q] at e; exact .inl e
  · rw [Ww q] at e; exact hl a o e
mutual
/-- an owned thing seen as plain data,in any heap that has S and its cells -/
theorem RepA.plain {T : Hp} (hs : Le S T) : ∀ (x : A) (v : V) (fp : List Addr),(∀ a ∈ fp,∀ o,H a = some o → T a = some o) → RepA K S H x v fp → Rep K T x.toD v
  | .v d,v,fp,_,h=>by
    simp only [RepA] at h
    exact Rep.le hs d v h.1
  | .lst xs,v,fp,hk,h=>by
    simp only [RepA] at h
    obtain ⟨a,vs,e,h1,h2,h3⟩:=h
    simp only [A.toD,Rep]
    exact ⟨a,vs,e,SqL.of (hk a (by simp [h3]) _ h1),RepL.le hs xs vs h2⟩
  | .dic xs,v,fp,hk,h=>by
    simp only [RepA] at h
    obtain ⟨a,vs,e,h1,h2,h3⟩:=h
    simp only [A.toD,Rep]
    exact ⟨a,vs,e,.inl (hk a (by simp [h3]) _ h1),RepK.le hs xs vs h2⟩
  | .obj C fs,v,fp,hk,h=>by
    simp only [RepA] at h
    obtain ⟨a,dx,vs,g,e,h1,h2,h3⟩:=h
    simp only [A.toD,Rep]
    exact ⟨a,dx,vs,e,hk a (by simp [h3]) _ h1,RepAF.plain hs fs vs g (fun b hb=>hk b (by simp [h3,hb])) h2⟩
  | .loc i,v,fp,hk,h=>by
    simp only [RepA] at h
  | .nl xs,v,fp,hk,h=>by
    simp only [RepA] at h
    obtain ⟨a,vs,g,e,h1,h2,h3⟩:=h
    simp only [A.toD,Rep]
    exact ⟨a,e⟩
  | .nt xs,v,fp,hk,h=>by
    simp only [RepA] at h
    obtain ⟨a,vs,g,e,h1,h2,h3⟩:=h
    simp only [A.toD,Rep]
    exact ⟨a,e⟩
  | .nd xs,v,fp,hk,h=>by
    simp only [RepA] at h
    obtain ⟨a,vs,g,e,h1,h2,h3⟩:=h
    simp only [A.toD,Rep]
    exact ⟨a,e⟩
  | .cel w x,v,fp,hk,h=>by
    simp only [RepA] at h
    simp only [A.toD,Rep]
    rw [h.1]
    exact h.2.1
  | .pth _ _ w,v,fp,hk,h=>by
    simp only [RepA] at h
    simp only [A.toD,Rep]
    rw [h.1]
    exact h.2.1
theorem RepAF.plain {T : Hp} (hs : Le S T) : ∀ (xs : List (Str × A)) (vs : List (Str × V)) (fp : List Addr),(∀ a ∈ fp,∀ o,H a = some o → T a = some o) → RepAF K S H xs vs fp → RepF K T (A.toDs xs) vs
  | [],vs,fp,_,h=>by
    simp only [RepAF] at h
    simpa only [A.toDs,RepF] using h.1
  | (k,x) :: xs,vs,fp,hk,h=>by
    simp only [RepAF] at h
    obtain ⟨v,r,g,g',e,h1,h2,h3⟩:=h
    simp only [A.toDs,RepF]
    exact ⟨v,r,e,RepA.plain hs x v g (fun b hb=>hk b (by simp [h3,hb])) h1,RepAF.plain hs xs r g' (fun b hb=>hk b (by simp [h3,hb])) h2⟩
end
end
def unc : A → A
  | .cel _ x=>x
  | t=>t
def Uo : List (Key × A) → Key → Option A
  | [],_=>none
  | (k',x) :: r,k=>if k' = k then some x else Uo r k
def Zq : List (Key × A) → Key → A → List (Key × A)
  | [],_,_=>[]
  | (k',x) :: r,k,z=>if k' = k then (k',z) :: r else (k',x) :: Zq r k z
def Zo : List (Str × A) → Str → Option A
  | [],_=>none
  | (k',x) :: r,k=>if k' = k then some x else Zo r k
def Fw : List (Str × A) → Str → A → List (Str × A)
  | [],_,_=>[]
  | (k',x) :: r,k,z=>if k' = k then (k',z) :: r else (k',x) :: Fw r k z
/-- an item of an owned thing -/
def itN : A → Stp → Option A
  | .nl xs,.n i=>xs[i]?
  | .nt xs,.n i=>xs[i]?
  | .nd kvs,.k k=>Uo kvs k
  | .obj _ fs,.f x=>Zo fs x
  | _,_=>none
def V2 : A → Stp → A → A
  | .nl xs,.n i,z=>.nl (xs.set i z)
  | .nt xs,.n i,z=>.nt (xs.set i z)
  | .nd kvs,.k k,z=>.nd (Zq kvs k z)
  | .obj C fs,.f x,z=>.obj C (Fw fs x z)
  | t,_,_=>t
def stN : A → Stp → A → A
  | .cel w x,s,z=>.cel w (V2 x s z)
  | t,s,z=>V2 t s z
def A.at (t : A) : List Stp → Option A
  | []=>some t
  | s :: p=>(itN (unc t) s).bind fun x=>A.at x p
def A.upd (t : A) : List Stp → A → A
  | [],z=>z
  | s :: p,z=>match itN (unc t) s with
    | some x=>stN t s (A.upd x p z)
    | none=>t
section
variable {K : Fg} {S H : Hp}
theorem RepAL.lens : ∀ {xs : List A} {vs : List V} {fp : List Addr} {i : Nat} {x : A},RepAL K S H xs vs fp → xs[i]? = some x → ∃ v g f,vs[i]? = some v ∧ RepA K S H x v g ∧ fp.Perm (g ++ f) ∧
    ∀ (S' H' : Hp) (z : A) (g' : List Addr),Same S S' → (∀ a ∈ f,H' a = H a) → RepA K S' H' z v g' → ∃ fp',RepAL K S' H' (xs.set i z) vs fp' ∧ fp'.Perm (g' ++ f)
  | [],vs,fp,i,x,h,e=>by simp at e
  | y :: xs,vs,fp,0,x,h,e=>by
    simp only [RepAL] at h
    obtain ⟨v,r,g,h',e1,h1,h2,e2⟩:=h
    have ey : y = x:=by simpa using e
    subst ey e1 e2
    refine ⟨v,g,h',by simp,h1,.refl _,fun S' H' z g' hs hk hz=>⟨g' ++ h',?_,.refl _⟩⟩
    simp only [List.set_cons_zero,RepAL]
    exact ⟨v,r,g',h',rfl,hz,RepAL.keep hs xs r h' hk h2,rfl⟩
  | y :: xs,vs,fp,i + 1,x,h,e=>by
    simp only [RepAL] at h
    obtain ⟨v0,r,g0,h',e1,h1,h2,e2⟩:=h
    subst e1 e2
    obtain ⟨v,g,f,a1,a2,a3,a4⟩:=RepAL.lens (i:=i) h2 (by simpa using e)
    refine ⟨v,g,g0 ++ f,by simpa using a1,a2,?_,fun S' H' z g' hs hk hz=>?_⟩
    · exact (List.Perm.append_left g0 a3).trans (by
        rw [← List.append_assoc,← List.append_assoc]
        exact List.Perm.append_right _ List.perm_append_comm)
    · obtain ⟨fp',b1,b2⟩:=a4 S' H' z g' hs (fun a ha=>hk a (List.mem_append_right _ ha)) hz
      refine ⟨g0 ++ fp',?_,(List.Perm.append_left g0 b2).trans (by
        rw [← List.append_assoc,← List.append_assoc]
        exact List.Perm.append_right _ List.perm_append_comm)⟩
      simp only [List.set_cons_succ,RepAL]
      exact ⟨v0,r,g0,fp',rfl,RepA.keep hs y v0 g0 (fun a ha=>hk a (List.mem_append_left _ ha)) h1,b1,rfl⟩
theorem RepAK.lens : ∀ {xs : List (Key × A)} {vs : List (Key × V)} {fp : List Addr} {i : Key} {x : A},RepAK K S H xs vs fp → Uo xs i = some x → ∃ v g f,valV vs i = some v ∧ RepA K S H x v g ∧ fp.Perm (g ++ f) ∧
    ∀ (S' H' : Hp) (z : A) (g' : List Addr),Same S S' → (∀ a ∈ f,H' a = H a) → RepA K S' H' z v g' → ∃ fp',RepAK K S' H' (Zq xs i z) vs fp' ∧ fp'.Perm (g' ++ f)
  | [],vs,fp,i,x,h,e=>by simp [Uo] at e
  | (k,y) :: xs,vs,fp,i,x,h,e=>by
    simp only [RepAK] at h
    obtain ⟨v0,r,g0,h',e1,h1,h2,e2⟩:=h
    subst e1 e2
    simp only [Uo] at e
    by_cases q : k = i
    · rw [if_pos q] at e
      have ey : y = x:=Option.some.inj e
      subst ey q
      refine ⟨v0,g0,h',by simp [valV,List.find?_cons],h1,.refl _,fun S' H' z g' hs hk hz=>⟨g' ++ h',?_,.refl _⟩⟩
      simp only [Zq,↓reduceIte,RepAK]
      exact ⟨v0,r,g',h',rfl,hz,RepAK.keep hs xs r h' hk h2,rfl⟩
    · rw [if_neg q] at e
      obtain ⟨v,g,f,a1,a2,a3,a4⟩:=RepAK.lens h2 e
      refine ⟨v,g,g0 ++ f,by
        simpa [valV,List.find?_cons,q] using a1,a2,?_,fun S' H' z g' hs hk hz=>?_⟩
      · exact (List.Perm.append_left g0 a3).trans (by
          rw [← List.append_assoc,← List.append_assoc]
          exact List.Perm.append_right _ List.perm_append_comm)
      · obtain ⟨fp',b1,b2⟩:=a4 S' H' z g' hs (fun a ha=>hk a (List.mem_append_right _ ha)) hz
        refine ⟨g0 ++ fp',?_,(List.Perm.append_left g0 b2).trans (by
          rw [← List.append_assoc,← List.append_assoc]
          exact List.Perm.append_right _ List.perm_append_comm)⟩
        simp only [Zq,if_neg q,RepAK]
        exact ⟨v0,r,g0,fp',rfl,RepA.keep hs y v0 g0 (fun a ha=>hk a (List.mem_append_left _ ha)) h1,b1,rfl⟩
theorem RepAF.lens : ∀ {xs : List (Str × A)} {vs : List (Str × V)} {fp : List Addr} {i : Str} {x : A},RepAF K S H xs vs fp → Zo xs i = some x → ∃ v g f,vs.lookup i = some v ∧ RepA K S H x v g ∧ fp.Perm (g ++ f) ∧
    ∀ (S' H' : Hp) (z : A) (g' : List Addr),Same S S' → (∀ a ∈ f,H' a = H a) → RepA K S' H' z v g' → ∃ fp',RepAF K S' H' (Fw xs i z) vs fp' ∧ fp'.Perm (g' ++ f)
  | [],vs,fp,i,x,h,e=>by simp [Zo] at e
  | (k,y) :: xs,vs,fp,i,x,h,e=>by
    simp only [RepAF] at h
    obtain ⟨v0,r,g0,h',e1,h1,h2,e2⟩:=h
    subst e1 e2
    simp only [Zo] at e
    by_cases q : k = i
    · rw [if_pos q] at e
      have ey : y = x:=Option.some.inj e
      subst ey q
      refine ⟨v0,g0,h',by simp [List.lookup_cons],h1,.refl _,fun S' H' z g' hs hk hz=>⟨g' ++ h',?_,.refl _⟩⟩
      simp only [Fw,↓reduceIte,RepAF]
      exact ⟨v0,r,g',h',rfl,hz,RepAF.keep hs xs r h' hk h2,rfl⟩
    · rw [if_neg q] at e
      obtain ⟨v,g,f,a1,a2,a3,a4⟩:=RepAF.lens h2 e
      refine ⟨v,g,g0 ++ f,by
        rw [List.lookup_cons,show (i == k) = false from by simpa using fun (z : i = k)=>q z.symm]; exact a1,a2,?_,fun S' H' z g' hs hk hz=>?_⟩
      · exact (List.Perm.append_left g0 a3).trans (by
          rw [← List.append_assoc,← List.append_assoc]
          exact List.Perm.append_right _ List.perm_append_comm)
      · obtain ⟨fp',b1,b2⟩:=a4 S' H' z g' hs (fun a ha=>hk a (List.mem_append_right _ ha)) hz
        refine ⟨g0 ++ fp',?_,(List.Perm.append_left g0 b2).trans (by
          rw [← List.append_assoc,← List.append_assoc]
          exact List.Perm.append_right _ List.perm_append_comm)⟩
        simp only [Fw,if_neg q,RepAF]
        exact ⟨v0,r,g0,fp',rfl,RepA.keep hs y v0 g0 (fun a ha=>hk a (List.mem_append_left _ ha)) h1,b1,rfl⟩
/-- an item of an owned thing,and what holds it -/
theorem RepA.lens1 {t x : A} {s : Stp} {u : V} {fp : List Addr} (h : RepA K S H t u fp) (e : itN t s = some x) : ∃ v g f,RepA K S H x v g ∧ fp.Perm (g ++ f) ∧
    (∀ (S' H' : Hp) (z : A) (g' : List Addr),Same S S' → (∀ a ∈ f,H' a = H a) → RepA K S' H' z v g' → ∃ fp',RepA K S' H' (V2 t s z) u fp' ∧ fp'.Perm (g' ++ f)):=by
  have mv : ∀ {a : Addr} {g f fp : List Addr},fp.Perm (g ++ f) → (a :: fp).Perm (g ++ a :: f):=fun p=>(List.Perm.cons _ p).trans List.perm_middle.symm
  cases t with
  | nl xs =>
    cases s with
    | n i =>
      simp only [RepA] at h
      obtain ⟨a,vs,g0,rfl,h1,h2,rfl⟩:=h
      obtain ⟨v,g,f,a1,a2,a3,a4⟩:=RepAL.lens h2 e
      refine ⟨v,g,a :: f,a2,mv a3,fun S' H' z g' hs hk hz=>?_⟩
      obtain ⟨fp',b1,b2⟩:=a4 S' H' z g' hs (fun b hb=>hk b (List.mem_cons_of_mem _ hb)) hz
      refine ⟨a :: fp',?_,mv b2⟩
      simp only [V2,RepA]
      exact ⟨a,vs,fp',rfl,by rw [hk a (by simp)]; exact h1,b1,rfl⟩
    | _=>cases e
  | nt xs =>
    cases s with
    | n i =>
      simp only [RepA] at h
      obtain ⟨a,vs,g0,rfl,h1,h2,rfl⟩:=h
      obtain ⟨v,g,f,a1,a2,a3,a4⟩:=RepAL.lens h2 e
      refine ⟨v,g,a :: f,a2,mv a3,fun S' H' z g' hs hk hz=>?_⟩
      obtain ⟨fp',b1,b2⟩:=a4 S' H' z g' hs (fun b hb=>hk b (List.mem_cons_of_mem _ hb)) hz
      refine ⟨a :: fp',?_,mv b2⟩
      simp only [V2,RepA]
      exact ⟨a,vs,fp',rfl,by rw [hk a (by simp)]; exact h1,b1,rfl⟩
    | _=>cases e
  | nd xs =>
    cases s with
    | k i =>
      simp only [RepA] at h
      obtain ⟨a,vs,g0,rfl,h1,h2,rfl⟩:=h
      obtain ⟨v,g,f,a1,a2,a3,a4⟩:=RepAK.lens h2 e
      refine ⟨v,g,a :: f,a2,mv a3,fun S' H' z g' hs hk hz=>?_⟩
      obtain ⟨fp',b1,b2⟩:=a4 S' H' z g' hs (fun b hb=>hk b (List.mem_cons_of_mem _ hb)) hz
      refine ⟨a :: fp',?_,mv b2⟩
      simp only [V2,RepA]
      exact ⟨a,vs,fp',rfl,by rw [hk a (by simp)]; exact h1,b1,rfl⟩
    | _=>cases e
  | obj C xs =>
    cases s with
    | f i =>
      simp only [RepA] at h
      obtain ⟨a,dx,vs,g0,rfl,h1,h2,rfl⟩:=h
      obtain ⟨v,g,f,a1,a2,a3,a4⟩:=RepAF.lens h2 e
      refine ⟨v,g,a :: f,a2,mv a3,fun S' H' z g' hs hk hz=>?_⟩
      obtain ⟨fp',b1,b2⟩:=a4 S' H' z g' hs (fun b hb=>hk b (List.mem_cons_of_mem _ hb)) hz
      refine ⟨a :: fp',?_,mv b2⟩
      simp only [V2,RepA]
      exact ⟨a,dx,vs,fp',rfl,by rw [hk a (by simp)]; exact h1,b1,rfl⟩
    | _=>cases e
  | _=>cases s <;> cases e
theorem RepA.unc {t : A} {u : V} {fp : List Addr} (h : RepA K S H t u fp) : RepA K S H (Vs.unc t) u fp:=by
  cases t with
  | cel w x =>
    simp only [RepA] at h
    exact h.2.2
  | _=>exact h
/-- what stands at a path -/
theorem RepA.lens : ∀ {p : List Stp} {t x : A} {u : V} {fp : List Addr},RepA K S H t u fp → A.at t p = some x → ∃ v g f,RepA K S H x v g ∧ fp.Perm (g ++ f) ∧
    (∀ (S' H' : Hp) (z : A) (g' : List Addr),Same S S' → (∀ a ∈ f,H' a = H a) → RepA K S' H' z v g' → ∃ fp',RepA K S' H' (A.upd t p z) u fp' ∧ fp'.Perm (g' ++ f))
  | [],t,x,u,fp,h,e=>by
    have ex : t = x:=Option.some.inj e
    subst ex
    exact ⟨u,fp,[],h,by simp,fun S' H' z g' _ _ hz=>⟨g',hz,by simp⟩⟩
  | s :: p,t,x,u,fp,h,e=>by
    cases q : itN (Vs.unc t) s with
    | none=>rw [A.at,q] at e; cases e
    | some y =>
      rw [A.at,q] at e
      obtain ⟨v,g,f,a1,a2,a3⟩:=RepA.lens1 h.unc q
      obtain ⟨v2,g2,f2,b1,b2,b3⟩:=RepA.lens a1 e
      refine ⟨v2,g2,f2 ++ f,b1,(a2.trans (List.Perm.append_right f b2)).trans (by rw [List.append_assoc]),fun S' H' z g' hs hk hz=>?_⟩
      obtain ⟨fp1,c1,c2⟩:=b3 S' H' z g' hs (fun a ha=>hk a (List.mem_append_left _ ha)) hz
      obtain ⟨fp2,d1,d2⟩:=a3 S' H' (A.upd y p z) fp1 hs (fun a ha=>hk a (List.mem_append_right _ ha)) c1
      refine ⟨fp2,?_,(d2.trans (List.Perm.append_right f c2)).trans (by rw [List.append_assoc])⟩
      rw [A.upd,q]
      show RepA K S' H' (stN t s (A.upd y p z)) u fp2
      cases t with
      | cel w t0 =>
        simp only [RepA] at h
        simp only [stN,RepA]
        exact ⟨h.1,h.2.1,d1⟩
      | _=>exact d1
end
/-- several things,each with its own cells -/
def RepP (K : Fg) (S H : Hp) : List (V × A) → List Addr → Prop
  | [],fp=>fp = []
  | (v,x) :: r,fp=>∃ g h,RepA K S H x v g ∧ RepP K S H r h ∧ fp = g ++ h
section
variable {K : Fg} {S H : Hp}
theorem RepP.perm {ps qs : List (V × A)} (p : ps.Perm qs) : ∀ {fp : List Addr},RepP K S H ps fp → ∃ fq,RepP K S H qs fq ∧ fp.Perm fq:=by
  induction p with
  | nil=>intro fp h; exact ⟨fp,h,.refl _⟩
  | cons x p ih =>
    obtain ⟨v,x⟩:=x
    intro fp h
    obtain ⟨g,h',h1,h2,h3⟩:=h
    obtain ⟨fq,q1,q2⟩:=ih h2
    exact ⟨g ++ fq,⟨g,fq,h1,q1,rfl⟩,by rw [h3]; exact List.Perm.append_left _ q2⟩
  | swap x y l =>
    obtain ⟨v,x⟩:=x
    obtain ⟨u,y⟩:=y
    intro fp h
    obtain ⟨g,h',h1,⟨g2,h4,h5,h6,h7⟩,h3⟩:=h
    subst h7 h3
    refine ⟨g2 ++ (g ++ h4),⟨g2,g ++ h4,h5,⟨g,h4,h1,h6,rfl⟩,rfl⟩,?_⟩
    rw [← List.append_assoc,← List.append_assoc]
    exact List.Perm.append_right _ List.perm_append_comm
  | trans p q ih1 ih2 =>
    intro fp h
    obtain ⟨f1,h1,p1⟩:=ih1 h
    obtain ⟨f2,h2,p2⟩:=ih2 h1
    exact ⟨f2,h2,p1.trans p2⟩
theorem RepP.append {ps qs : List (V × A)} : ∀ {fp : List Addr},RepP K S H (ps ++ qs) fp → ∃ f1 f2,RepP K S H ps f1 ∧ RepP K S H qs f2 ∧ fp = f1 ++ f2:=by
  induction ps with
  | nil=>intro fp h; exact ⟨[],fp,rfl,h,rfl⟩
  | cons x ps ih =>
    obtain ⟨v,x⟩:=x
    intro fp h
    obtain ⟨g,h',h1,h2,h3⟩:=h
    obtain ⟨f1,f2,q1,q2,q3⟩:=ih h2
    exact ⟨g ++ f1,f2,⟨g,f1,h1,q1,rfl⟩,q2,by rw [h3,q3,List.append_assoc]⟩
theorem RepP.join {ps qs : List (V × A)} : ∀ {f1 f2 : List Addr},RepP K S H ps f1 → RepP K S H qs f2 → RepP K S H (ps ++ qs) (f1 ++ f2):=by
  induction ps with
  | nil=>intro f1 f2 h1 h2; cases h1; exact h2
  | cons x ps ih =>
    obtain ⟨v,x⟩:=x
    intro f1 f2 h1 h2
    obtain ⟨g,h',q1,q2,q3⟩:=h1
    exact ⟨g,h' ++ f2,q1,ih q2 h2,by rw [q3,List.append_assoc]⟩
theorem RepP.keep {S' H' : Hp} (hs : Same S S') : ∀ {ps : List (V × A)} {fp : List Addr},(∀ a ∈ fp,H' a = H a) → RepP K S H ps fp → RepP K S' H' ps fp:=by
  intro ps
  induction ps with
  | nil=>intro fp _ h; exact h
  | cons x ps ih =>
    obtain ⟨v,x⟩:=x
    intro fp hk h
    obtain ⟨g,h',h1,h2,h3⟩:=h
    subst h3
    exact ⟨g,h',h1.keep hs x v g (fun a ha=>hk a (List.mem_append_left _ ha)),ih (fun a ha=>hk a (List.mem_append_right _ ha)) h2,rfl⟩
theorem RepP.there : ∀ {ps : List (V × A)} {fp : List Addr},RepP K S H ps fp → ∀ a ∈ fp,H a ≠ none:=by
  intro ps
  induction ps with
  | nil=>intro fp h a ha; cases h; simp at ha
  | cons x ps ih =>
    obtain ⟨v,x⟩:=x
    intro fp h a ha
    obtain ⟨g,h',h1,h2,h3⟩:=h
    subst h3
    rcases List.mem_append.mp ha with q | q
    · exact h1.there x v g a q
    · exact ih h2 a q
end
abbrev J0:=List (Option A)
/-- the names' things -/
def Ji : J0 → L2.St → List (V × A)
  | some x :: ρ,some v :: σ=>(v,x) :: Ji ρ σ
  | _ :: ρ,_ :: σ=>Ji ρ σ
  | _,_=>[]
/-- every name that holds a thing holds a value -/
def EnvOk : J0 → L2.St → Prop
  | [],σ=>σ = []
  | o :: ρ,σ=>∃ w r,σ = w :: r ∧ (∀ x,o = some x → (∃ v,w = some v) ∧ ∀ i,x ≠ .loc i) ∧ EnvOk ρ r
/-- what is held beside: owned or shared things; loc: the value of slot i -/
def Jg (τ : List (V × A)) : List (V × A):=τ.filter fun p=>match p.2 with
  | .loc _=>false
  | _=>true
/-- what does not change through a def's body -/
structure Ctx where
  R : Hp
  S0 : Hp
  os : List (Nat × V)
/-- the tables of code objects that the program's lambdas are noted in -/
class Tbs where
  T : Fg → List (Addr × Str)
def spc : HO → Bool
  | .tbl _=>true
  | _=>false
variable [Tbs]
def Tb (K : Fg) (R S H : Hp) : Prop:=∀ p ∈ Tbs.T K,R p.1 = none ∧ S p.1 = none ∧ ∃ ps : Array Value,H p.1 = some (.tbl ps) ∧ TriplesOk ps.toList ∧ ∀ (pos : Pos) (cv : Value),codeAmong pos ps.toList = some cv → ∃ c,cv = .ref c ∧ S c = some (LamX.CodeO c p.2)
theorem Tb.mv {K : Fg} {R S H R' S' H' : Hp} (h : Tb K R S H) (hR : ∀ a ps,H a = some (.tbl ps) → R a = none → R' a = none) (hS : ∀ a ps,H a = some (.tbl ps) → S a = none → S' a = none) (hM : Same S S') (hH : ∀ b o,spc o = true → H b = some o → H' b = some o) : Tb K R' S' H':=fun p hp=>by
  obtain ⟨h1,h2,ps,h3,h4,h5⟩:=h p hp
  refine ⟨hR _ _ h3 h1,hS _ _ h3 h2,ps,hH _ _ rfl h3,h4,fun pos cv hc=>?_⟩
  obtain ⟨c,e1,e2⟩:=h5 pos cv hc
  exact ⟨c,e1,hM _ _ e2⟩
theorem Tb.new {K : Fg} {R S H : Hp} {p : Addr} {o : HO} (h : Tb K R S H) (hp : H p = none) : Tb K R S (upd H p o):=h.mv (fun _ _ _ e=>e) (fun _ _ _ e=>e) (Same.refl S) fun b u _ e=>by
  rw [upd_ne (ne_of_none e hp)]; exact e
theorem Tb.put {K : Fg} {R S H : Hp} {p : Addr} {o u : HO} (h : Tb K R S H) (hp : H p = some u) (hu : spc u = false) : Tb K R S (upd H p o):=h.mv (fun _ _ _ e=>e) (fun _ _ _ e=>e) (Same.refl S) fun b w hw e=>by
  rw [upd_ne (fun z=>by rw [z,hp] at e; cases e; rw [hu] at hw; cases hw)]; exact e
theorem Tb.addF {K : Fg} {R S H : Hp} {g : List Addr} (h : Tb K R S H) (hs : ∀ a ∈ g,S a = none) (hg : ∀ a ∈ g,∃ o,H a = some o ∧ spc o = false) : Tb K R (addF S H g) H:=h.mv (fun _ _ _ e=>e) (fun a ps e1 e2=>by
  rw [Ww (fun z=>by
    obtain ⟨o,q1,q2⟩:=hg a z
    rw [e1] at q1; cases q1; cases q2)]
  exact e2) (Xh hs) fun _ _ _ e=>e
section
variable {K : Fg} {S H : Hp}
mutual
/-- the own cells are no tables -/
theorem RepA.nsp : ∀ (x : A) (v : V) (fp : List Addr),RepA K S H x v fp → ∀ a ∈ fp,∃ o,H a = some o ∧ spc o = false
  | .v d,v,fp,h,a,ha=>by
    simp only [RepA] at h
    simp [h.2] at ha
  | .lst xs,v,fp,h,b,hb=>by
    simp only [RepA] at h
    obtain ⟨a,vs,e,h1,h2,h3⟩:=h
    have : b = a:=by simpa [h3] using hb
    exact ⟨_,by rw [this]; exact h1,rfl⟩
  | .dic xs,v,fp,h,b,hb=>by
    simp only [RepA] at h
    obtain ⟨a,vs,e,h1,h2,h3⟩:=h
    have : b = a:=by simpa [h3] using hb
    exact ⟨_,by rw [this]; exact h1,rfl⟩
  | .obj C fs,v,fp,h,b,hb=>by
    simp only [RepA] at h
    obtain ⟨a,dx,vs,g,e,h1,h2,h3⟩:=h
    rw [h3] at hb
    rcases List.mem_cons.mp hb with q | q
    · exact ⟨_,by rw [q]; exact h1,rfl⟩
    · exact RepAF.nsp fs vs g h2 b q
  | .loc i,v,fp,h,_,_=>by
    simp only [RepA] at h
  | .nl xs,v,fp,h,b,hb=>by
    simp only [RepA] at h
    obtain ⟨a,vs,g,e,h1,h2,h3⟩:=h
    rw [h3] at hb
    rcases List.mem_cons.mp hb with q | q
    · exact ⟨_,by rw [q]; exact h1,rfl⟩
    · exact RepAL.nsp xs vs g h2 b q
  | .nt xs,v,fp,h,b,hb=>by
    simp only [RepA] at h
    obtain ⟨a,vs,g,e,h1,h2,h3⟩:=h
    rw [h3] at hb
    rcases List.mem_cons.mp hb with q | q
    · exact ⟨_,by rw [q]; exact h1,rfl⟩
    · exact RepAL.nsp xs vs g h2 b q
  | .nd xs,v,fp,h,b,hb=>by
    simp only [RepA] at h
    obtain ⟨a,vs,g,e,h1,h2,h3⟩:=h
    rw [h3] at hb
    rcases List.mem_cons.mp hb with q | q
    · exact ⟨_,by rw [q]; exact h1,rfl⟩
    · exact RepAK.nsp xs vs g h2 b q
  | .cel w x,v,fp,h,a,ha=>by
    simp only [RepA] at h
    exact RepA.nsp x v fp h.2.2 a ha
  | .pth _ _ w,v,fp,h,a,ha=>by
    simp only [RepA] at h
    simp [h.2.2] at ha
theorem RepAF.nsp : ∀ (xs : List (Str × A)) (vs : List (Str × V)) (fp : List Addr),RepAF K S H xs vs fp → ∀ a ∈ fp,∃ o,H a = some o ∧ spc o = false
  | [],vs,fp,h,a,ha=>by
    simp only [RepAF] at h
    simp [h.2] at ha
  | (k,x) :: xs,vs,fp,h,a,ha=>by
    simp only [RepAF] at h
    obtain ⟨v,r,g,g',e,h1,h2,h3⟩:=h
    rw [h3] at ha
    rcases List.mem_append.mp ha with q | q
    · exact RepA.nsp x v g h1 a q
    · exact RepAF.nsp xs r g' h2 a q
theorem RepAL.nsp : ∀ (xs : List A) (vs : List V) (fp : List Addr),RepAL K S H xs vs fp → ∀ a ∈ fp,∃ o,H a = some o ∧ spc o = false
  | [],vs,fp,h,a,ha=>by
    simp only [RepAL] at h
    simp [h.2] at ha
  | x :: xs,vs,fp,h,a,ha=>by
    simp only [RepAL] at h
    obtain ⟨v,r,g,g',e,h1,h2,h3⟩:=h
    rw [h3] at ha
    rcases List.mem_append.mp ha with q | q
    · exact RepA.nsp x v g h1 a q
    · exact RepAL.nsp xs r g' h2 a q
theorem RepAK.nsp : ∀ (xs : List (Key × A)) (vs : List (Key × V)) (fp : List Addr),RepAK K S H xs vs fp → ∀ a ∈ fp,∃ o,H a = some o ∧ spc o = false
  | [],vs,fp,h,a,ha=>by
    simp only [RepAK] at h
    simp [h.2] at ha
  | (k,x) :: xs,vs,fp,h,a,ha=>by
    simp only [RepAK] at h
    obtain ⟨v,r,g,g',e,h1,h2,h3⟩:=h
    rw [h3] at ha
    rcases List.mem_append.mp ha with q | q
    · exact RepA.nsp x v g h1 a q
    · exact RepAK.nsp xs r g' h2 a q
end
theorem RepP.nsp : ∀ {ps : List (V × A)} {fp : List Addr},RepP K S H ps fp → ∀ a ∈ fp,∃ o,H a = some o ∧ spc o = false:=by
  intro ps
  induction ps with
  | nil=>intro fp h a ha; cases h; simp at ha
  | cons x ps ih =>
    obtain ⟨v,x⟩:=x
    intro fp h a ha
    obtain ⟨g,h',h1,h2,h3⟩:=h
    subst h3
    rcases List.mem_append.mp ha with q | q
    · exact h1.nsp x v g a q
    · exact ih h2 a q
end
structure Stt (K : Fg) (c : Ctx) (S H : Hp) (σ : L2.St) (ρ : J0) (τ : List (V × A)) : Prop where
  own : ∃ fp,RepP K S H (Ji ρ σ ++ Jg τ) fp ∧ fp.Nodup ∧ ∀ a ∈ fp,S a = none ∧ c.R a = none
  env : EnvOk ρ σ
  loc : ∀ v i,(v,.loc i) ∈ τ → σ[i]? = some (some v) ∧ ∃ y,ρ[i]? = some (some y)
  le : Le S H
  r : Same c.R H
  new : ∀ a,c.R a ≠ none → S a = c.S0 a
  up : Same c.S0 S
  os : ∀ p ∈ c.os,σ[p.1]? = some (some p.2)
  tb : Tb K c.R S H
end Vs
namespace Vs
open PySem L2
variable [Tbs]
theorem Tb.lk {K : Fg} {R S H : Hp} {d : Addr} {o u : HO} (h : Tb K R S H) (hd : H d = some u) (hu : spc u = false) : Tb K (upd R d o) S H:=h.mv (fun a ps e1 e2=>by
  rw [upd_ne (fun z=>by rw [z,hd] at e1; cases e1; cases hu)]; exact e2) (fun _ _ _ e=>e) (Same.refl S) fun _ _ _ e=>e
theorem Tb.bk {K : Fg} {R S H : Hp} {d : Addr} {o : HO} (h : Tb K (upd R d o) S H) : Tb K R S H:=fun p hp=>by
  obtain ⟨h1,h2⟩:=h p hp
  refine ⟨?_,h2⟩
  by_cases q : p.1 = d
  · rw [q,upd_same] at h1; cases h1
  · rw [upd_ne q] at h1; exact h1
theorem Xy : ∀ {ρ : J0} {σ : L2.St} {i : Nat} {y : A} {v : V},i < ρ.length → σ[i]? = some (some v) → (Ji (ρ.set i (some y)) σ).Perm ((v,y) :: Ji (ρ.set i none) σ)
  | [],_,_,_,_,h,_=>by simp at h
  | o :: ρ,[],_,_,_,_,h=>by simp at h
  | o :: ρ,w :: σ,0,y,v,_,h=>by
    have e : w = some v:=by simpa using h
    subst e
    simp only [List.set_cons_zero,Ji]
    exact .refl _
  | o :: ρ,w :: σ,i + 1,y,v,hl,h=>by
    have ih:=Xy (ρ:=ρ) (σ:=σ) (i:=i) (y:=y) (v:=v) (by simpa using hl) (by simpa using h)
    simp only [List.set_cons_succ]
    cases o with
    | none=>cases w <;> simpa only [Ji] using ih
    | some x =>
      cases w with
      | none=>simpa only [Ji] using ih
      | some u =>
        simp only [Ji]
        exact (List.Perm.cons _ ih).trans (.swap _ _ _)
theorem Pw : ∀ {ρ : J0} {σ : L2.St} {i : Nat} {w : Option V},Ji (ρ.set i none) (σ.set i w) = Ji (ρ.set i none) σ
  | [],_,_,_=>by simp [Ji]
  | o :: ρ,[],i,_=>by simp
  | o :: ρ,u :: σ,0,w=>by cases u <;> cases w <;> simp [Ji]
  | o :: ρ,u :: σ,i + 1,w=>by
    have ih:=Pw (ρ:=ρ) (σ:=σ) (i:=i) (w:=w)
    simp only [List.set_cons_succ]
    cases o <;> cases u <;> simp [Ji,ih]
theorem Hn : ∀ {ρ : J0} {i : Nat} {o : Option A},ρ[i]? = some o → ρ.set i o = ρ
  | [],_,_,h=>by simp at h
  | a :: ρ,0,o,h=>by
    have e : a = o:=by simpa using h
    simp [e]
  | a :: ρ,i + 1,o,h=>by
    simp only [List.set_cons_succ]
    rw [Hn (ρ:=ρ) (i:=i) (o:=o) (by simpa using h)]
theorem W1 {α : Type} {l : List α} {i : Nat} {x : α} (h : l[i]? = some x) : i < l.length:=(List.getElem?_eq_some_iff.mp h).1
theorem Wh {ρ : J0} {σ : L2.St} {i : Nat} {y : A} {v : V} (h : ρ[i]? = some (some y)) (hv : σ[i]? = some (some v)) : (Ji ρ σ).Perm ((v,y) :: Ji (ρ.set i none) σ):=by
  have p:=Xy (ρ:=ρ) (σ:=σ) (i:=i) (y:=y) (v:=v) (W1 h) hv
  rwa [Hn h] at p
theorem set_set {α : Type} (l : List α) (i : Nat) (a b : α) : (l.set i a).set i b = l.set i b:=by simp
theorem EnvOk.get : ∀ {ρ : J0} {σ : L2.St} {i : Nat} {y : A},EnvOk ρ σ → ρ[i]? = some (some y) → (∃ v,σ[i]? = some (some v)) ∧ ∀ j,y ≠ .loc j
  | [],_,_,_,_,h=>by simp at h
  | o :: ρ,σ,0,y,he,h=>by
    obtain ⟨w,r,rfl,h1,h2⟩:=he
    have e : o = some y:=by simpa using h
    obtain ⟨⟨v,hv⟩,h3⟩:=h1 y e
    exact ⟨⟨v,by simp [hv]⟩,h3⟩
  | o :: ρ,σ,i + 1,y,he,h=>by
    obtain ⟨w,r,rfl,h1,h2⟩:=he
    obtain ⟨⟨v,hv⟩,h3⟩:=h2.get (i:=i) (y:=y) (by simpa using h)
    exact ⟨⟨v,by simpa using hv⟩,h3⟩
theorem EnvOk.len : ∀ {ρ : J0} {σ : L2.St},EnvOk ρ σ → σ.length = ρ.length
  | [],σ,h=>by cases h; rfl
  | o :: ρ,σ,h=>by
    obtain ⟨w,r,rfl,h1,h2⟩:=h
    simp [h2.len]
/-- one name's thing is exchanged -/
theorem EnvOk.put : ∀ {ρ : J0} {σ : L2.St} {i : Nat} {o : Option A},EnvOk ρ σ → (∀ y,o = some y → (∃ v,σ[i]? = some (some v)) ∧ ∀ j,y ≠ .loc j) → EnvOk (ρ.set i o) σ
  | [],_,_,_,he,_=>by simpa using he
  | u :: ρ,σ,0,o,he,h=>by
    obtain ⟨w,r,rfl,h1,h2⟩:=he
    refine ⟨w,r,rfl,fun y hy=>?_,h2⟩
    obtain ⟨⟨v,hv⟩,h3⟩:=h y hy
    exact ⟨⟨v,by simpa using hv⟩,h3⟩
  | u :: ρ,σ,i + 1,o,he,h=>by
    obtain ⟨w,r,rfl,h1,h2⟩:=he
    refine ⟨w,r,rfl,h1,h2.put (i:=i) (o:=o) fun y hy=>?_⟩
    obtain ⟨⟨v,hv⟩,h3⟩:=h y hy
    exact ⟨⟨v,by simpa using hv⟩,h3⟩
/-- a name gets a value -/
theorem EnvOk.store : ∀ {ρ : J0} {σ : L2.St} {i : Nat} {o : Option A} {w : Option V},EnvOk ρ σ → (∀ y,o = some y → (∃ v,w = some v) ∧ ∀ j,y ≠ .loc j) → EnvOk (ρ.set i o) (σ.set i w)
  | [],σ,_,_,_,he,_=>by
    cases he
    simp [EnvOk]
  | u :: ρ,σ,0,o,w',he,h=>by
    obtain ⟨w,r,rfl,h1,h2⟩:=he
    exact ⟨w',r,rfl,h,h2⟩
  | u :: ρ,σ,i + 1,o,w',he,h=>by
    obtain ⟨w,r,rfl,h1,h2⟩:=he
    exact ⟨w,r.set i w',rfl,h1,h2.store (i:=i) (o:=o) (w:=w') h⟩
theorem RepA.ofv {K : Fg} {S H : Hp} {d : D} {v : V} (h : Rep K S d v) : RepA K S H (.v d) v []:=by
  simp only [RepA]
  exact ⟨h,trivial⟩
def Y4 : A → Bool
  | .loc _=>true
  | _=>false
theorem B9 {v : V} {x : A} {τ : List (V × A)} (h : Y4 x = false) : Jg ((v,x) :: τ) = (v,x) :: Jg τ:=by
  cases x <;> first | rfl | cases h
theorem JXm {v : V} {i : Nat} {τ : List (V × A)} : Jg ((v,.loc i) :: τ) = Jg τ:=rfl
theorem Kv {x : A} (h : ∀ j,x ≠ .loc j) : Y4 x = false:=by
  cases x <;> first | rfl | exact absurd rfl (h _)
theorem Xr {x : A} (h : Y4 x = false) : ∀ j,x ≠ .loc j:=by
  intro j e; subst e; cases h
section
variable {K : Fg} {c : Ctx} {S H : Hp} {σ : L2.St} {ρ : J0} {τ : List (V × A)} {v : V} {x y : A} {i : Nat}
/-- what is held is let go -/
theorem Stt.drop (s : Stt K c S H σ ρ ((v,x) :: τ)) : Stt K c S H σ ρ τ:=by
  refine ⟨?_,s.env,fun v' i m=>s.loc v' i (List.mem_cons_of_mem _ m),s.le,s.r,s.new,s.up,s.os,s.tb⟩
  obtain ⟨fp,h1,h2,h3⟩:=s.own
  by_cases hx : Y4 x = true
  · cases x with
    | loc j=>exact ⟨fp,h1,h2,h3⟩
    | _=>cases hx
  · have hx' : Y4 x = false:=by simpa using hx
    rw [B9 hx'] at h1
    obtain ⟨fq,q1,q2⟩:=RepP.perm (List.perm_middle (l₁:=Ji ρ σ) (a:=(v,x)) (l₂:=Jg τ)) h1
    obtain ⟨g,h',a1,a2,a3⟩:=q1
    subst a3
    have nd : (g ++ h').Nodup:=q2.nodup_iff.mp h2
    exact ⟨h',a2,(List.nodup_append.mp nd).2.1,fun a ha=>h3 a (q2.symm.subset (List.mem_append_right _ ha))⟩
theorem Stt.drops {τ' : List (V × A)} : ∀ {ts : List (V × A)},Stt K c S H σ ρ (ts ++ τ') → Stt K c S H σ ρ τ'
  | [],s=>s
  | (v,x) :: ts,s=>Stt.drops (ts:=ts) s.drop
/-- one held thing ahead: its own cells,those of all else -/
theorem Stt.top (s : Stt K c S H σ ρ ((v,x) :: τ)) (hx : Y4 x = false) :
    ∃ g h,RepA K S H x v g ∧ RepP K S H (Ji ρ σ ++ Jg τ) h ∧ (g ++ h).Nodup ∧ ∀ a ∈ g ++ h,S a = none ∧ c.R a = none:=by
  obtain ⟨fp,h1,h2,h3⟩:=s.own
  rw [B9 hx] at h1
  obtain ⟨fq,q1,q2⟩:=RepP.perm (List.perm_middle (l₁:=Ji ρ σ) (a:=(v,x)) (l₂:=Jg τ)) h1
  obtain ⟨g,h',a1,a2,a3⟩:=q1
  subst a3
  exact ⟨g,h',a1,a2,q2.nodup_iff.mp h2,fun a ha=>h3 a (q2.symm.subset ha)⟩
/-- from such parts a state -/
theorem Stt.push {S' H' : Hp} {ρ' : J0} {τ' : List (V × A)} {g h : List Addr} (hx : Y4 x = false) (h1 : RepA K S' H' x v g) (h2 : RepP K S' H' (Ji ρ' σ ++ Jg τ') h) (nd : (g ++ h).Nodup)
    (h3 : ∀ a ∈ g ++ h,S' a = none ∧ c.R a = none) (he : EnvOk ρ' σ) (hl : ∀ v i,(v,.loc i) ∈ τ' → σ[i]? = some (some v) ∧ ∃ y,ρ'[i]? = some (some y)) (le : Le S' H') (r : Same c.R H') (new : ∀ a,c.R a ≠ none → S' a = c.S0 a) (up : Same c.S0 S')
    (os : ∀ p ∈ c.os,σ[p.1]? = some (some p.2)) (tb : Tb K c.R S' H') : Stt K c S' H' σ ρ' ((v,x) :: τ'):=by
  refine ⟨?_,he,fun v' j m=>?_,le,r,new,up,os,tb⟩
  · obtain ⟨fq,q1,q2⟩:=RepP.perm (List.perm_middle (l₁:=Ji ρ' σ) (a:=(v,x)) (l₂:=Jg τ')).symm (show RepP K S' H' ((v,x) :: (Ji ρ' σ ++ Jg τ')) (g ++ h) from ⟨g,h,h1,h2,rfl⟩)
    exact ⟨fq,by rw [B9 hx]; exact q1,q2.nodup_iff.mp nd,fun a ha=>h3 a (q2.symm.subset ha)⟩
  · rcases List.mem_cons.mp m with q | q
    · injection q with q1 q2; subst q2; cases hx
    · exact hl v' j q
/-- a shared datum is held -/
theorem Stt.hold {d : D} (s : Stt K c S H σ ρ τ) (h : Rep K S d v) : Stt K c S H σ ρ ((v,.v d) :: τ):=by
  obtain ⟨fp,h1,h2,h3⟩:=s.own
  exact Stt.push (g:=[]) (h:=fp) rfl (RepA.ofv h) h1 (by simpa using h2) (by simpa using h3) s.env s.loc s.le s.r s.new s.up s.os s.tb
/-- what is held is shared data: they stand in S -/
theorem Stt.data {d : D} (s : Stt K c S H σ ρ ((v,.v d) :: τ)) : Rep K S d v:=by
  obtain ⟨g,h,h1,_⟩:=s.top rfl
  simp only [RepA] at h1
  exact h1.1
theorem Stt.dataMem {d : D} (s : Stt K c S H σ ρ τ) (m : (v,.v d) ∈ τ) : Rep K S d v:=by
  obtain ⟨fp,h1,_,_⟩:=s.own
  have m2 : (v,A.v d) ∈ Ji ρ σ ++ Jg τ:=List.mem_append_right _ (List.mem_filter.mpr ⟨m,rfl⟩)
  have key : ∀ (ps : List (V × A)) (fp : List Addr),RepP K S H ps fp → (v,A.v d) ∈ ps → Rep K S d v:=by
    intro ps
    induction ps with
    | nil=>intro _ _ z; simp at z
    | cons p ps ih =>
      obtain ⟨u,y⟩:=p
      intro fp h z
      obtain ⟨g,h',a1,a2,_⟩:=h
      rcases List.mem_cons.mp z with q | q
      · injection q with q1 q2; subst q1 q2
        simp only [RepA] at a1
        exact a1.1
      · exact ih h' a2 q
  exact key _ _ h1 m2
/-- a slot that holds shared data -/
theorem Stt.slot {d : D} (s : Stt K c S H σ ρ τ) (h : ρ[i]? = some (some (.v d))) : ∃ v,σ[i]? = some (some v) ∧ Rep K S d v:=by
  obtain ⟨⟨v,hv⟩,_⟩:=s.env.get h
  refine ⟨v,hv,?_⟩
  obtain ⟨fp,h1,_,_⟩:=s.own
  obtain ⟨f1,f2,q1,q2,q3⟩:=h1.append
  obtain ⟨fq,z1,z2⟩:=RepP.perm (Wh h hv) q1
  obtain ⟨g,h',a1,_,_⟩:=z1
  simp only [RepA] at a1
  exact a1.1
/-- an order of what is held -/
theorem Stt.swap {τ' : List (V × A)} (s : Stt K c S H σ ρ τ) (p : τ.Perm τ') : Stt K c S H σ ρ τ':=by
  refine ⟨?_,s.env,fun v' i m=>s.loc v' i (p.symm.subset m),s.le,s.r,s.new,s.up,s.os,s.tb⟩
  obtain ⟨fp,h1,h2,h3⟩:=s.own
  obtain ⟨fq,q1,q2⟩:=RepP.perm (List.Perm.append_left (Ji ρ σ) (p.filter _)) h1
  exact ⟨fq,q1,q2.nodup_iff.mp h2,fun a ha=>h3 a (q2.symm.subset ha)⟩
/-- what a thing is now -/
noncomputable def Fv (o : Option A) (w : V) : Option D:=match o with
  | some (.cel w' n)=>@ite _ (w' = w) (Classical.propDecidable _) (some n.toD) none
  | _=>none
noncomputable def dat (x : A) (ρ : J0) : Option D:=match x with
  | .loc i=>(match ρ[i]? with
    | some (some y)=>some y.toD
    | _=>none)
  | .pth i p w=>(match ρ[i]? with
    | some (some t)=>Fv (t.at p) w
    | _=>none)
  | y=>some y.toD
theorem Dj {o : Option A} {w : V} {d : D} (h : Fv o w = some d) : ∃ n,o = some (.cel w n) ∧ n.toD = d:=by
  unfold Fv at h
  split at h
  · rename_i w' n
    by_cases e : w' = w
    · rw [if_pos e] at h
      subst e
      exact ⟨n,rfl,Option.some.inj h⟩
    · rw [if_neg e] at h; cases h
  · cases h
def JJn : A → Bool
  | .pth _ _ _=>true
  | _=>false
theorem RepP.pick {ps : List (V × A)} : ∀ {fp : List Addr},RepP K S H ps fp → (v,x) ∈ ps → ∃ g,RepA K S H x v g ∧ ∀ a ∈ g,a ∈ fp:=by
  induction ps with
  | nil=>intro _ _ z; simp at z
  | cons p ps ih =>
    obtain ⟨u,y⟩:=p
    intro fp h z
    obtain ⟨g,h',a1,a2,a3⟩:=h
    subst a3
    rcases List.mem_cons.mp z with q | q
    · injection q with q1 q2; subst q1 q2
      exact ⟨g,a1,fun a ha=>List.mem_append_left _ ha⟩
    · obtain ⟨g',b1,b2⟩:=ih a2 q
      exact ⟨g',b1,fun a ha=>List.mem_append_right _ (b2 a ha)⟩
/-- what a reference tells of -/
theorem Stt.atP {p : List Stp} {w : V} {t n : A} (s : Stt K c S H σ ρ τ) (m : (v,A.pth i p w) ∈ τ) (ht : ρ[i]? = some (some t)) (hn : t.at p = some (.cel w n)) : ∃ g,RepA K S H n v g ∧ v = w:=by
  obtain ⟨fp,h1,_,_⟩:=s.own
  have m2 : (v,A.pth i p w) ∈ Ji ρ σ ++ Jg τ:=List.mem_append_right _ (List.mem_filter.mpr ⟨m,rfl⟩)
  obtain ⟨g,a1,_⟩:=h1.pick m2
  simp only [RepA] at a1
  obtain ⟨⟨u,hu⟩,_⟩:=s.env.get ht
  obtain ⟨f1,f2,q1,q2,q3⟩:=h1.append
  obtain ⟨fq,z1,z2⟩:=RepP.perm (Wh ht hu) q1
  obtain ⟨g1,h',b1,_,_⟩:=z1
  obtain ⟨v',g2,f,c1,c2,c3⟩:=RepA.lens b1 hn
  simp only [RepA] at c1
  rw [a1.1,← c1.1]
  exact ⟨g2,c1.2.2,rfl⟩
/-- .. in the heap -/
theorem Stt.dat {d : D} (s : Stt K c S H σ ρ τ) (m : (v,x) ∈ τ) (h : dat x ρ = some d) : Rep K H d v:=by
  obtain ⟨fp,h1,_,_⟩:=s.own
  cases hx : Y4 x with
  | false =>
    cases hp : JJn x with
    | false =>
      have e : x.toD = d:=by
        cases x <;> first | exact Option.some.inj h | (cases hx; done) | (cases hp; done)
      have m2 : (v,x) ∈ Ji ρ σ ++ Jg τ:=List.mem_append_right _ (List.mem_filter.mpr ⟨m,by cases x <;> first | rfl | cases hx⟩)
      obtain ⟨g,a1,_⟩:=h1.pick m2
      rw [← e]
      exact a1.plain s.le x v g (fun _ _ _ q=>q)
    | true =>
      cases x with
      | pth i p w =>
        simp only [Vs.dat] at h
        split at h
        · rename_i t ht
          obtain ⟨n,e1,e2⟩:=Dj h
          obtain ⟨g,a1,_⟩:=s.atP m ht e1
          rw [← e2]
          exact a1.plain s.le n v g (fun _ _ _ q=>q)
        · cases h
      | _=>cases hp
  | true =>
    cases x with
    | loc i =>
      obtain ⟨hv,y,hy⟩:=s.loc v i m
      have e : y.toD = d:=by
        simp only [Vs.dat,hy] at h
        exact Option.some.inj h
      obtain ⟨f1,f2,q1,q2,q3⟩:=h1.append
      obtain ⟨fq,z1,z2⟩:=RepP.perm (Wh hy hv) q1
      obtain ⟨g,h',a1,_,_⟩:=z1
      rw [← e]
      exact a1.plain s.le y v g (fun _ _ _ q=>q)
    | _=>cases hx
theorem Stt.fresh (s : Stt K c S H σ ρ τ) {p : Addr} (h : H p = none) : S p = none ∧ c.R p = none ∧ ∀ fp,RepP K S H (Ji ρ σ ++ Jg τ) fp → p ∉ fp :=
  ⟨s.le.none h,Same.none s.r h,fun fp q z=>q.there p z h⟩
/-- a new owned cell -/
theorem Stt.alloc {p : Addr} {o : HO} (s : Stt K c S H σ ρ τ) (hp : H p = none) (hx : Y4 x = false) (h : RepA K S (upd H p o) x (.ref p) [p]) : Stt K c S (upd H p o) σ ρ ((.ref p,x) :: τ):=by
  obtain ⟨f1,f2,f3⟩:=s.fresh hp
  obtain ⟨fp,h1,h2,h3⟩:=s.own
  have np:=f3 fp h1
  refine Stt.push (g:=[p]) (h:=fp) hx h ?_ ?_ ?_ s.env s.loc (s.le.up f1) (fun a o e=>?_) s.new s.up s.os (s.tb.new hp)
  · exact h1.keep (Same.refl S) fun a ha=>upd_ne (fun z=>np (z ▸ ha))
  · exact List.nodup_cons.mpr ⟨np,h2⟩
  · intro a ha
    rcases List.mem_cons.mp ha with q | q
    · exact ⟨by rw [q]; exact f1,by rw [q]; exact f2⟩
    · exact h3 a q
  · rw [upd_ne (ne_of_none e f2)]; exact s.r a o e
/-- a new shared cell -/
theorem Stt.share {p : Addr} {o : HO} {d : D} (s : Stt K c S H σ ρ τ) (hp : H p = none) (h : Rep K (upd S p o) d (.ref p)) : Stt K c (upd S p o) (upd H p o) σ ρ ((.ref p,.v d) :: τ):=by
  obtain ⟨f1,f2,f3⟩:=s.fresh hp
  obtain ⟨fp,h1,h2,h3⟩:=s.own
  have np:=f3 fp h1
  refine Stt.push (g:=[]) (h:=fp) rfl (RepA.ofv h) ?_ (by simpa using h2) ?_ s.env s.loc ?_ (fun a o e=>?_) (fun a ha=>?_) (fun a u e=>?_) s.os (s.tb.mv (fun _ _ _ e=>e) (fun a ps e1 e2=>by rw [upd_ne (ne_of_none e1 hp)]; exact e2) (Same.up f1) fun b u _ e=>by rw [upd_ne (ne_of_none e hp)]; exact e)
  · exact h1.keep (Same.up f1) fun a ha=>upd_ne (fun z=>np (z ▸ ha))
  · intro a ha
    have ha : a ∈ fp:=by simpa using ha
    obtain ⟨q1,q2⟩:=h3 a ha
    exact ⟨by rw [upd_ne (show a ≠ p from fun z=>np (z ▸ ha))]; exact q1,q2⟩
  · intro a u e
    by_cases q : a = p
    · subst q
      rw [upd_same] at e
      exact .inl (by rw [upd_same]; exact e)
    · rw [upd_ne q] at e
      rcases s.le a u e with z | ⟨ob,ws,z1,z2⟩
      · exact .inl (by rw [upd_ne q]; exact z)
      · exact .inr ⟨ob,ws,z1,by rw [upd_ne q]; exact z2⟩
  · rw [upd_ne (ne_of_none e f2)]; exact s.r a o e
  · rw [upd_ne (show a ≠ p from fun z=>ha (by rw [z]; exact f2))]; exact s.new a ha
  · rw [upd_ne (ne_of_none (s.up a u e) f1)]; exact s.up a u e
/-- an untracked cell comes beside (an instance's own dict) -/
theorem Stt.beside {p : Addr} {o : HO} (s : Stt K c S H σ ρ τ) (hp : H p = none) : Stt K c S (upd H p o) σ ρ τ:=by
  obtain ⟨f1,f2,f3⟩:=s.fresh hp
  obtain ⟨fp,h1,h2,h3⟩:=s.own
  have np:=f3 fp h1
  refine ⟨⟨fp,h1.keep (Same.refl S) fun a ha=>upd_ne (fun z=>np (z ▸ ha)),h2,h3⟩,s.env,s.loc,s.le.up f1,fun a o e=>?_,s.new,s.up,s.os,s.tb.new hp⟩
  rw [upd_ne (ne_of_none e f2)]; exact s.r a o e
theorem Stt.freeze (s : Stt K c S H σ ρ ((v,x) :: τ)) (hx : Y4 x = false) : ∃ S',Same S S' ∧ Stt K c S' H σ ρ ((v,.v x.toD) :: τ):=by
  obtain ⟨g,h,h1,h2,nd,h3⟩:=s.top hx
  have hg : ∀ a ∈ g,S a = none:=fun a ha=>(h3 a (List.mem_append_left _ ha)).1
  have sm : Same S (addF S H g):=Xh hg
  refine ⟨addF S H g,sm,Stt.push (g:=[]) (h:=h) rfl ?_ (h2.keep sm fun _ _=>rfl) (List.nodup_append.mp nd).2.1 ?_ s.env (fun v' i m=>s.loc v' i (List.mem_cons_of_mem _ m)) (Hz s.le) s.r (fun a ha=>?_) (fun a o e=>sm a o (s.up a o e)) s.os (s.tb.addF hg fun a ha=>h1.nsp x v g a ha)⟩
  · exact RepA.ofv (h1.plain (Le.of_same sm) x v g fun a ha o e=>by rw [Bk ha]; exact e)
  · intro a ha
    have ha : a ∈ h:=by simpa using ha
    have ng : a ∉ g:=fun z=>(List.nodup_append.mp nd).2.2 a z a ha rfl
    exact ⟨by rw [Ww ng]; exact (h3 a (List.mem_append_right _ ha)).1,(h3 a (List.mem_append_right _ ha)).2⟩
  · have ng : a ∉ g:=fun z=>ha (h3 a (List.mem_append_left _ z)).2
    rw [Ww ng]; exact s.new a ha
/-- a slot's thing is taken into the hand -/
theorem Stt.takeSlot (s : Stt K c S H σ ρ τ) (h : ρ[i]? = some (some y)) (hv : σ[i]? = some (some v)) (hn : ∀ u,(u,A.loc i) ∉ τ) : Stt K c S H σ (ρ.set i none) ((v,y) :: τ):=by
  have hy:=Kv (s.env.get h).2
  refine ⟨?_,s.env.put (fun _ e=>nomatch e),fun v' j m=>?_,s.le,s.r,s.new,s.up,s.os,s.tb⟩
  · obtain ⟨fp,h1,h2,h3⟩:=s.own
    have p : (Ji ρ σ ++ Jg τ).Perm (Ji (ρ.set i none) σ ++ Jg ((v,y) :: τ)):=by
      rw [B9 hy]
      exact (List.Perm.append_right _ (Wh h hv)).trans List.perm_middle.symm
    obtain ⟨fq,q1,q2⟩:=RepP.perm p h1
    exact ⟨fq,q1,q2.nodup_iff.mp h2,fun a ha=>h3 a (q2.symm.subset ha)⟩
  · rcases List.mem_cons.mp m with q | q
    · injection q with q1 q2; subst q2; cases hy
    · obtain ⟨z1,z2,z3⟩:=s.loc v' j q
      have ne : i ≠ j:=fun e=>hn v' (e ▸ q)
      exact ⟨z1,z2,by rw [List.getElem?_set_ne ne]; exact z3⟩
/-- a slot's thing is exchanged for what is done with it -/
theorem Stt.slotTo {S' H' : Hp} {y' : A} (s : Stt K c S H σ ρ τ) (h : ρ[i]? = some (some y)) (hv : σ[i]? = some (some v))
    (step : ∀ g f,RepA K S H y v g → RepP K S H (Ji (ρ.set i none) σ ++ Jg τ) f → (g ++ f).Nodup → (∀ a ∈ g ++ f,S a = none ∧ c.R a = none) →
      ∃ g',RepA K S' H' y' v g' ∧ (g' ++ f).Nodup ∧ (∀ a ∈ g' ++ f,S' a = none ∧ c.R a = none) ∧ (∀ a ∈ f,H' a = H a) ∧ Same S S' ∧ Le S' H' ∧ Same c.R H' ∧ (∀ a,c.R a ≠ none → S' a = c.S0 a) ∧ Tb K c.R S' H')
    (hy : Y4 y' = false) : Stt K c S' H' σ (ρ.set i (some y')) τ:=by
  obtain ⟨fp,h1,h2,h3⟩:=s.own
  have p : (Ji ρ σ ++ Jg τ).Perm ((v,y) :: (Ji (ρ.set i none) σ ++ Jg τ)):=List.Perm.append_right _ (Wh h hv)
  obtain ⟨fq,q1,q2⟩:=RepP.perm p h1
  obtain ⟨g,f,a1,a2,a3⟩:=q1
  subst a3
  obtain ⟨g',b1,b2,b3,b4,b5,b6,b7,b8,b9⟩:=step g f a1 a2 (q2.nodup_iff.mp h2) (fun a ha=>h3 a (q2.symm.subset ha))
  have p2 : ((v,y') :: (Ji (ρ.set i none) σ ++ Jg τ)).Perm (Ji (ρ.set i (some y')) σ ++ Jg τ):=List.Perm.append_right _ (Xy (W1 h) hv).symm
  obtain ⟨fr,c1,c2⟩:=RepP.perm p2 (show RepP K S' H' ((v,y') :: (Ji (ρ.set i none) σ ++ Jg τ)) (g' ++ f) from ⟨g',f,b1,a2.keep b5 b4,rfl⟩)
  refine ⟨⟨fr,c1,c2.nodup_iff.mp b2,fun a ha=>b3 a (c2.symm.subset ha)⟩,s.env.put (fun z e=>by cases e; exact ⟨⟨v,hv⟩,Xr hy⟩),fun v' j m=>?_,b6,b7,b8,fun a o e=>b5 a o (s.up a o e),s.os,b9⟩
  obtain ⟨z1,z,z2⟩:=s.loc v' j m
  by_cases e : i = j
  · subst e; exact ⟨z1,y',by rw [List.getElem?_set_self (W1 h)]⟩
  · exact ⟨z1,z,by rw [List.getElem?_set_ne e]; exact z2⟩
/-- a slot's thing becomes shared -/
theorem Stt.freezeSlot (s : Stt K c S H σ ρ τ) (h : ρ[i]? = some (some y)) : ∃ S',Same S S' ∧ Stt K c S' H σ (ρ.set i (some (.v y.toD))) τ:=by
  obtain ⟨⟨v,hv⟩,hy⟩:=s.env.get h
  obtain ⟨fp,h1,h2,h3⟩:=s.own
  have p : (Ji ρ σ ++ Jg τ).Perm ((v,y) :: (Ji (ρ.set i none) σ ++ Jg τ)):=List.Perm.append_right _ (Wh h hv)
  obtain ⟨fq,q1,q2⟩:=RepP.perm p h1
  obtain ⟨g,f,a1,a2,a3⟩:=q1
  refine ⟨addF S H g,Xh fun a ha=>(h3 a (q2.symm.subset (by rw [a3]; exact List.mem_append_left _ ha))).1,s.slotTo (y':=.v y.toD) h hv (fun g' f' b1 b2 nd b3=>?_) rfl⟩
  have eg : g' = g:=RepA.fp_eq y v g' g b1 a1
  subst eg
  have hg : ∀ a ∈ g',S a = none:=fun a ha=>(b3 a (List.mem_append_left _ ha)).1
  have sm : Same S (addF S H g'):=Xh hg
  refine ⟨[],?_,by simpa using (List.nodup_append.mp nd).2.1,fun a ha=>?_,fun _ _=>rfl,sm,Hz s.le,s.r,fun a ha=>?_,s.tb.addF hg fun a ha=>b1.nsp y v g' a ha⟩
  · exact RepA.ofv (b1.plain (Le.of_same sm) y v g' fun a ha o e=>by rw [Bk ha]; exact e)
  · have ha : a ∈ f':=by simpa using ha
    have ng : a ∉ g':=fun z=>(List.nodup_append.mp nd).2.2 a z a ha rfl
    exact ⟨by rw [Ww ng]; exact (b3 a (List.mem_append_right _ ha)).1,(b3 a (List.mem_append_right _ ha)).2⟩
  · have ng : a ∉ g':=fun z=>ha (b3 a (List.mem_append_left _ z)).2
    rw [Ww ng]; exact s.new a ha
end
end Vs
namespace Vs
open PySem L2
variable [Tbs]
abbrev AX:=Addr → List (Str × D) → J0 → Prop
abbrev AK:=A → J0 → Prop
abbrev AE:=AX → J0 → AK → Prop
abbrev AT:=AX → J0 → (Bool → J0 → Prop) → Prop
abbrev AA:=AX → J0 → (List A → J0 → Prop) → Prop
structure AEnds where
  nx : J0 → Prop
  rt : A → J0 → Prop
  bk : J0 → Prop
  ct : J0 → Prop
  ex : AX
abbrev AS:=AEnds → J0 → Prop
/-- what an exception's own dict tells -/
def XD (K : Fg) (S H : Hp) (dd : Option Addr) (fs : List (Str × D)) : Prop:=(fs = [] ∧ dd = none) ∨ ∃ d ws,dd = some d ∧ H d = some (.xd ws) ∧ RepF K S fs ws
def XOk (K : Fg) (c : Ctx) (W : WX) (EA : AX) : Prop:=∀ S H σ ρ C fs dd,Stt K c S H σ ρ [] → XD K S H dd fs → EA C fs ρ → W (.ref C) dd σ H
/-- what follows an expression -/
def KE (K : Fg) (c : Ctx) (σ : L2.St) (τ : List (V × A)) (Q : AK) : VK:=fun v H=>∃ S ρ x,Stt K c S H σ ρ ((v,x) :: τ) ∧ Q x ρ
def KT (K : Fg) (c : Ctx) (σ : L2.St) (τ : List (V × A)) (Q : Bool → J0 → Prop) : Bool → Hp → Prop:=fun b H=>∃ S ρ,Stt K c S H σ ρ τ ∧ Q b ρ
def KA (K : Fg) (c : Ctx) (σ : L2.St) (τ : List (V × A)) (Q : List A → J0 → Prop) : List V → Hp → Prop:=fun vs H=>∃ S ρ xs,vs.length = xs.length ∧ Stt K c S H σ ρ (vs.zip xs ++ τ) ∧ Q xs ρ
/-- the wish about exceptions; the slots that are never stored to -/
structure OL where
  l : List Nat
  J : Hp → Hp → L2.St → Prop
  un : ∀ S H σ d o ws,H d = some (.frz o (.dK ws)) → J S (upd H d (.dK ws)) σ → J S H σ
instance : Membership Nat OL:=⟨fun o i=>i ∈ o.l⟩
instance : Coe (List Nat) OL:=⟨fun l=>⟨l,fun _ _ _=>True,fun _ _ _ _ _ _ _ _=>trivial⟩⟩
structure Pm where
  W : WX
  O : OL
def OsIn (K : Fg) (c : Ctx) (O : OL) : Prop:=(∀ p ∈ c.os,p.1 ∈ O) ∧ (∀ j ∈ O,∃ v,(j,v) ∈ c.os) ∧ ∀ S H σ ρ τ,Stt K c S H σ ρ τ → O.J S H σ
def Yw (K : Fg) (P : Pm) (te : TE) (ae : AE) : Prop:=∀ c EA,OsIn K c P.O → XOk K c P.W EA → ∀ τ S H σ ρ Q (R : VK),Stt K c S H σ ρ τ → ae EA ρ Q → (∀ v H',KE K c σ τ Q v H' → R v H') → te σ H R
def Vp (K : Fg) (P : Pm) (tt : TT) (at_ : AT) : Prop:=∀ c EA,OsIn K c P.O → XOk K c P.W EA → ∀ τ S H σ ρ Q (R : Bool → Hp → Prop),Stt K c S H σ ρ τ → at_ EA ρ Q → (∀ b H',KT K c σ τ Q b H' → R b H') → tt σ H R
def Zn (K : Fg) (P : Pm) (ta : TA) (aa : AA) : Prop:=∀ c EA,OsIn K c P.O → XOk K c P.W EA → ∀ τ S H σ ρ Q (R : List V → Hp → Prop),Stt K c S H σ ρ τ → aa EA ρ Q → (∀ vs H',KA K c σ τ Q vs H' → R vs H') → ta σ H R
/-- the ends of a statement -/
structure Link (K : Fg) (c : Ctx) (D : Ends) (DA : AEnds) : Prop where
  nx : ∀ S H σ ρ,Stt K c S H σ ρ [] → DA.nx ρ → D.nx σ H
  rt : ∀ S H σ ρ v x,Stt K c S H σ ρ [(v,x)] → Y4 x = false → DA.rt x ρ → D.rt v H
  bk : ∀ S H σ ρ,Stt K c S H σ ρ [] → DA.bk ρ → D.bk σ H
  ct : ∀ S H σ ρ,Stt K c S H σ ρ [] → DA.ct ρ → D.ct σ H
def Z1 (K : Fg) (P : Pm) (ts : TS) (as : AS) : Prop:=∀ c D DA,OsIn K c P.O → XOk K c P.W DA.ex → Link K c D DA → ∀ S H σ ρ,Stt K c S H σ ρ [] → as DA ρ → ts D σ H
structure ASp where
  pre : List A → Prop
  post : List A → A → List A → Prop
  exc : List A → Addr → List (Str × D) → List A → Prop:=fun _ _ _ _=>False
def lift (K : Fg) (sp : ASp) : Sp:=fun vs H Q E=>∃ (c : Ctx) (S : Hp) (xs : List A),vs.length = xs.length ∧ c.os = [] ∧ Stt K c S H (vs.map some) (xs.map some) [] ∧ Same c.S0 S ∧ Same S c.S0 ∧ sp.pre xs ∧
  (∀ r xs' v H' S',sp.post xs r xs' → vs.length = xs'.length → Y4 r = false → Stt K c S' H' (vs.map some) (xs'.map some) [(v,r)] → Q v H') ∧
  (∀ C fs xs' dd H' S',sp.exc xs C fs xs' → vs.length = xs'.length → Stt K c S' H' (vs.map some) (xs'.map some) [] → XD K S' H' dd fs → E (.ref C) dd H')
theorem Lw {K : Fg} {sp : ASp} {vs : List V} {H : Hp} {Q Q' : VK} {E E' : XK} (h : lift K sp vs H Q E) (hq : ∀ v H,Q v H → Q' v H) (he : ∀ a b H,E a b H → E' a b H) : lift K sp vs H Q' E':=by
  obtain ⟨c,S,xs,h1,h2,h3,h4,h5,h6,h7,h8⟩:=h
  exact ⟨c,S,xs,h1,h2,h3,h4,h5,h6,fun r xs' v H' S' a b d e=>hq _ _ (h7 r xs' v H' S' a b d e),fun C fs xs' dd H' S' a b d e=>he _ _ _ (h8 C fs xs' dd H' S' a b d e)⟩
def pass : List A → J0 → Option (List A × J0)
  | [],ρ=>some ([],ρ)
  | .loc i :: xs,ρ=>(match ρ[i]? with
    | some (some y)=>(match pass xs (ρ.set i none) with
      | some (ys,ρ')=>some (y :: ys,ρ')
      | none=>none)
    | _=>none)
  | x :: xs,ρ=>(match pass xs ρ with
    | some (ys,ρ')=>some (x :: ys,ρ')
    | none=>none)
/-- what was handed over comes back -/
def give : List A → List A → J0 → J0
  | .loc i :: xs,y :: ys,ρ=>give xs ys (ρ.set i (some y))
  | _ :: xs,_ :: ys,ρ=>give xs ys ρ
  | _,_,ρ=>ρ
theorem Zr : ∀ {vs : List V} {xs : List A},vs.length = xs.length → Ji (xs.map some) (vs.map some) = vs.zip xs
  | [],[],_=>rfl
  | [],_ :: _,h=>by simp at h
  | _ :: _,[],h=>by simp at h
  | v :: vs,x :: xs,h=>by
    simp only [List.map_cons,Ji,List.zip_cons_cons]
    rw [Zr (by simpa using h)]
theorem Fs : ∀ {vs : List V} {xs : List A},vs.length = xs.length → (∀ x ∈ xs,Y4 x = false) → EnvOk (xs.map some) (vs.map some)
  | [],[],_,_=>rfl
  | [],_ :: _,h,_=>by simp at h
  | _ :: _,[],h,_=>by simp at h
  | v :: vs, x :: xs, h, hx => ⟨some v, vs.map some, rfl, fun y e => by
      have e2 : x = y:=Option.some.inj e
      exact ⟨⟨v,rfl⟩,e2 ▸ Xr (hx x (by simp))⟩,Fs (by simpa using h) fun y hy=>hx y (by simp [hy])⟩
theorem EnvOk.noloc : ∀ {xs : List A} {σ : L2.St},EnvOk (xs.map some) σ → ∀ x ∈ xs,Y4 x = false
  | [],_,_,x,hx=>by simp at hx
  | y :: xs,σ,h,x,hx=>by
    obtain ⟨w,r,rfl,h1,h2⟩:=h
    rcases List.mem_cons.mp hx with e | e
    · rw [e]; exact Kv (h1 y rfl).2
    · exact EnvOk.noloc h2 x e
/-- S without some cells -/
def U8 (S : Hp) (fp : List Addr) : Hp:=fun a=>if a ∈ fp then none else S a
section
variable {K : Fg} {c : Ctx} {S H : Hp} {σ : L2.St} {ρ : J0} {τ : List (V × A)}
theorem Wb {fp : List Addr} {a : Addr} (h : a ∈ fp) : U8 S fp a = none:=if_pos h
theorem U6 {fp : List Addr} {a : Addr} (h : a ∉ fp) : U8 S fp a = S a:=if_neg h
theorem RepP.noloc : ∀ {vs : List V} {xs : List A} {fp : List Addr},vs.length = xs.length → RepP K S H (vs.zip xs) fp → ∀ x ∈ xs,Y4 x = false
  | [],[],_,_,_,x,hx=>by simp at hx
  | [],_ :: _,_,h,_,_,_=>by simp at h
  | _ :: _,[],_,h,_,_,_=>by simp at h
  | v :: vs,y :: xs,fp,hl,h,x,hx=>by
    obtain ⟨g,f,h1,h2,_⟩:=h
    rcases List.mem_cons.mp hx with e | e
    · rw [e]
      cases y <;> first | rfl | (simp only [RepA] at h1)
    · exact RepP.noloc (by simpa using hl) h2 x e
theorem Nr : ∀ {xs : List A} {ρ ρ' : J0} {ys : List A},pass xs ρ = some (ys,ρ') → ys.length = xs.length
  | [],ρ,ρ',ys,h=>by
    simp only [pass] at h
    injection h with h3
    injection h3 with h4 h5
    rw [← h4]
  | x :: xs,ρ,ρ',ys,h=>by
    cases hx : Y4 x with
    | false =>
      have e : pass (x :: xs) ρ = (match pass xs ρ with
        | some (ys,ρ')=>some (x :: ys,ρ')
        | none=>none):=by cases x <;> first | rfl | cases hx
      rw [e] at h
      cases q : pass xs ρ with
      | none=>rw [q] at h; cases h
      | some z =>
        obtain ⟨zs,ρ1⟩:=z
        rw [q] at h
        injection h with h3
        injection h3 with h4 h5
        rw [← h4]
        simp [Nr q]
    | true =>
      cases x with
      | loc i =>
        cases hy : ρ[i]? with
        | none=>simp [pass,hy] at h
        | some o =>
          cases o with
          | none=>simp [pass,hy] at h
          | some y =>
            simp only [pass,hy] at h
            cases q : pass xs (ρ.set i none) with
            | none=>rw [q] at h; cases h
            | some z =>
              obtain ⟨zs,ρ1⟩:=z
              rw [q] at h
              injection h with h3
              injection h3 with h4 h5
              rw [← h4]
              simp [Nr q]
      | _=>cases hx
/-- the things: what is handed over,and the rest -/
theorem Pu : ∀ {xs : List A} {vs : List V} {ρ ρ' : J0} {ys : List A},vs.length = xs.length → pass xs ρ = some (ys,ρ') → (∀ v i,(v,A.loc i) ∈ vs.zip xs → σ[i]? = some (some v)) →
    (Ji ρ σ ++ Jg (vs.zip xs)).Perm (vs.zip ys ++ Ji ρ' σ)
  | [],vs,ρ,ρ',ys,hl,h,_=>by
    have e : vs = []:=by simpa using hl
    subst e
    simp only [pass] at h
    injection h with h3
    injection h3 with h4 h5
    subst h4 h5
    simp [Jg]
  | x :: xs,[],ρ,ρ',ys,hl,h,_=>by simp at hl
  | x :: xs,v :: vs,ρ,ρ',ys,hl,h,hs=>by
    have hl' : vs.length = xs.length:=by simpa using hl
    have hs' : ∀ v i,(v,A.loc i) ∈ vs.zip xs → σ[i]? = some (some v):=fun v i q=>hs v i (by simp [q])
    cases hx : Y4 x with
    | false =>
      have e : pass (x :: xs) ρ = (match pass xs ρ with
        | some (ys,ρ')=>some (x :: ys,ρ')
        | none=>none):=by cases x <;> first | rfl | cases hx
      rw [e] at h
      cases q : pass xs ρ with
      | none=>rw [q] at h; cases h
      | some z =>
        obtain ⟨zs,ρ1⟩:=z
        rw [q] at h
        injection h with h3
        injection h3 with h4 h5
        subst h4 h5
        have ih:=Pu hl' q hs'
        rw [List.zip_cons_cons,B9 hx,List.zip_cons_cons]
        exact List.perm_middle.trans (List.Perm.cons _ ih)
    | true =>
      cases x with
      | loc i =>
        have hv : σ[i]? = some (some v):=hs v i (by simp)
        rw [List.zip_cons_cons,JXm]
        cases hy : ρ[i]? with
        | none=>simp [pass,hy] at h
        | some o =>
          cases o with
          | none=>simp [pass,hy] at h
          | some y =>
            simp only [pass,hy] at h
            cases q : pass xs (ρ.set i none) with
            | none=>rw [q] at h; cases h
            | some z =>
              obtain ⟨zs,ρ1⟩:=z
              rw [q] at h
              injection h with h3
              injection h3 with h4 h5
              subst h4 h5
              have ih:=Pu hl' q hs'
              rw [List.zip_cons_cons]
              exact (List.Perm.append_right _ (Wh hy hv)).trans (List.Perm.cons _ ih)
      | _=>cases hx
theorem getElem?_none_set {ρ : J0} {i j : Nat} (h : ρ[j]? = some none) : (ρ.set i none)[j]? = some none:=by
  by_cases e : i = j
  · subst e; rw [List.getElem?_set_self (W1 h)]
  · rw [List.getElem?_set_ne e]; exact h
/-- a slot that is empty stays so while others are handed over -/
theorem Kj : ∀ {xs : List A} {ρ ρ' : J0} {ys : List A},pass xs ρ = some (ys,ρ') → ρ'.length = ρ.length ∧ (∀ j : Nat,ρ[j]? = some none → ρ'[j]? = some none) ∧ (∀ i : Nat,A.loc i ∈ xs → ρ'[i]? = some none) ∧
    (∀ j : Nat,A.loc j ∉ xs → ρ'[j]? = ρ[j]?) ∧ ∀ {σ : L2.St},EnvOk ρ σ → EnvOk ρ' σ
  | [],ρ,ρ',ys,h=>by
    simp only [pass] at h
    injection h with h3
    injection h3 with h4 h5
    subst h5
    exact ⟨rfl,fun _ q=>q,fun _ q=>by simp at q,fun _ _=>rfl,fun q=>q⟩
  | x :: xs,ρ,ρ',ys,h=>by
    cases hx : Y4 x with
    | false =>
      have e : pass (x :: xs) ρ = (match pass xs ρ with
        | some (ys,ρ')=>some (x :: ys,ρ')
        | none=>none):=by cases x <;> first | rfl | cases hx
      rw [e] at h
      cases q : pass xs ρ with
      | none=>rw [q] at h; cases h
      | some z =>
        obtain ⟨zs,ρ1⟩:=z
        rw [q] at h
        injection h with h3
        injection h3 with h4 h5
        subst h5
        obtain ⟨a1,a2,a3,a4,a5⟩:=Kj q
        refine ⟨a1,a2,fun i m=>?_,fun j m=>a4 j fun z=>m (List.mem_cons_of_mem _ z),a5⟩
        rcases List.mem_cons.mp m with z | z
        · rw [← z] at hx; cases hx
        · exact a3 i z
    | true =>
      cases x with
      | loc i =>
        cases hy : ρ[i]? with
        | none=>simp [pass,hy] at h
        | some o =>
          cases o with
          | none=>simp [pass,hy] at h
          | some y =>
            simp only [pass,hy] at h
            cases q : pass xs (ρ.set i none) with
            | none=>rw [q] at h; cases h
            | some z =>
              obtain ⟨zs,ρ1⟩:=z
              rw [q] at h
              injection h with h3
              injection h3 with h4 h5
              subst h5
              obtain ⟨a1,a2,a3,a4,a5⟩:=Kj q
              refine ⟨by simpa using a1,fun j hj=>a2 j (getElem?_none_set hj),fun j m=>?_,fun j m=>?_,fun he=>a5 (he.put fun _ z=>nomatch z)⟩
              · rcases List.mem_cons.mp m with z | z
                · injection z with z; subst z
                  exact a2 j (by rw [List.getElem?_set_self (W1 hy)])
                · exact a3 j z
              · have nj : i ≠ j:=fun z=>m (by simp [z])
                rw [a4 j fun z=>m (List.mem_cons_of_mem _ z),List.getElem?_set_ne nj]
      | _=>cases hx
/-- no slot is handed over twice -/
theorem Kc : ∀ {xs : List A} {ρ ρ' : J0} {ys : List A},pass xs ρ = some (ys,ρ') → ∀ i,ρ[i]? = some none → A.loc i ∉ xs
  | [],ρ,ρ',ys,h,i,_=>by simp
  | x :: xs,ρ,ρ',ys,h,i,hi=>by
    cases hx : Y4 x with
    | false =>
      have e : pass (x :: xs) ρ = (match pass xs ρ with
        | some (ys,ρ')=>some (x :: ys,ρ')
        | none=>none):=by cases x <;> first | rfl | cases hx
      rw [e] at h
      cases q : pass xs ρ with
      | none=>rw [q] at h; cases h
      | some z =>
        intro m
        rcases List.mem_cons.mp m with z' | z'
        · rw [← z'] at hx; cases hx
        · exact Kc (ρ':=z.2) (ys:=z.1) q i hi z'
    | true =>
      cases x with
      | loc j =>
        cases hy : ρ[j]? with
        | none=>simp [pass,hy] at h
        | some o =>
          cases o with
          | none=>simp [pass,hy] at h
          | some y =>
            simp only [pass,hy] at h
            cases q : pass xs (ρ.set j none) with
            | none=>rw [q] at h; cases h
            | some z =>
              intro m
              rcases List.mem_cons.mp m with z' | z'
              · injection z' with z'; subst z'; rw [hi] at hy; cases hy
              · exact Kc (ρ':=z.2) (ys:=z.1) q i (getElem?_none_set hi) z'
      | _=>cases hx
/-- the passed things that stand in no slot,as they are in the end -/
def Ul : List A → List V → List A → List (V × A)
  | .loc _ :: xs,_ :: vs,_ :: ys=>Ul xs vs ys
  | _ :: xs,v :: vs,y :: ys=>(v,y) :: Ul xs vs ys
  | _,_,_=>[]
theorem Cd {x y : A} {v : V} {xs ys : List A} {vs : List V} (h : Y4 x = false) : Ul (x :: xs) (v :: vs) (y :: ys) = (v,y) :: Ul xs vs ys:=by
  cases x <;> first | rfl | cases h
/-- back: the things again -/
theorem Pi : ∀ {xs : List A} {vs : List V} {ρ : J0} {ys : List A},vs.length = xs.length → vs.length = ys.length → (∀ v i,(v,A.loc i) ∈ vs.zip xs → σ[i]? = some (some v)) → (∀ i,A.loc i ∈ xs → ρ[i]? = some none) → (xs.filter Y4).Nodup →
    (vs.zip ys ++ Ji ρ σ).Perm (Ul xs vs ys ++ Ji (give xs ys ρ) σ)
  | [],vs,ρ,ys,hl,hl2,_,_,_=>by
    have e : vs = []:=by simpa using hl
    subst e
    have e2 : give [] ys ρ = ρ:=by cases ys <;> rfl
    rw [e2]
    simp [Ul]
  | x :: xs,[],ρ,ys,hl,hl2,_,_,_=>by simp at hl
  | x :: xs,v :: vs,ρ,[],hl,hl2,_,_,_=>by simp at hl2
  | x :: xs,v :: vs,ρ,y :: ys,hl,hl2,hs,hn,hd=>by
    have hl' : vs.length = xs.length:=by simpa using hl
    have hl2' : vs.length = ys.length:=by simpa using hl2
    have hs' : ∀ v i,(v,A.loc i) ∈ vs.zip xs → σ[i]? = some (some v):=fun v i q=>hs v i (by simp [q])
    cases hx : Y4 x with
    | false =>
      have e : give (x :: xs) (y :: ys) ρ = give xs ys ρ:=by cases x <;> first | rfl | cases hx
      rw [e,Cd hx,List.zip_cons_cons]
      rw [List.filter_cons_of_neg (by rw [hx]; exact Bool.false_ne_true)] at hd
      exact List.Perm.cons _ (Pi hl' hl2' hs' (fun i m=>hn i (List.mem_cons_of_mem _ m)) hd)
    | true =>
      cases x with
      | loc i =>
        have hv : σ[i]? = some (some v):=hs v i (by simp)
        have hi : ρ[i]? = some none:=hn i (by simp)
        have hd' : A.loc i ∉ xs ∧ (xs.filter Y4).Nodup:=by
          rw [List.filter_cons_of_pos (by exact hx)] at hd
          obtain ⟨d1,d2⟩:=List.nodup_cons.mp hd
          exact ⟨fun m=>d1 (List.mem_filter.mpr ⟨m,rfl⟩),d2⟩
        have hn' : ∀ j,A.loc j ∈ xs → (ρ.set i (some y))[j]? = some none:=fun j m=>by
          have ne : i ≠ j:=fun z=>hd'.1 (z ▸ m)
          rw [List.getElem?_set_ne ne]
          exact hn j (List.mem_cons_of_mem _ m)
        have ih:=Pi (ρ:=ρ.set i (some y)) hl' hl2' hs' hn' hd'.2
        have p : (Ji (ρ.set i (some y)) σ).Perm ((v,y) :: Ji ρ σ):=by
          have q:=Xy (ρ:=ρ) (σ:=σ) (i:=i) (y:=y) (v:=v) (W1 hi) hv
          rwa [Hn hi] at q
        show ((v,y) :: (vs.zip ys ++ Ji ρ σ)).Perm (Ul xs vs ys ++ Ji (give xs ys (ρ.set i (some y))) σ)
        exact (List.perm_middle.symm.trans (List.Perm.append_left _ p.symm)).trans ih
      | _=>cases hx
theorem Pa : ∀ {xs : List A} {vs : List V} {ρ : J0} {ys : List A},vs.length = xs.length → vs.length = ys.length → (∀ v i,(v,A.loc i) ∈ vs.zip xs → σ[i]? = some (some v)) → (∀ i,A.loc i ∈ xs → ρ[i]? = some none) → (xs.filter Y4).Nodup → (∀ y ∈ ys,Y4 y = false) →
    EnvOk ρ σ → EnvOk (give xs ys ρ) σ ∧ (∀ (j : Nat) y,ρ[j]? = some (some y) → (give xs ys ρ)[j]? = some (some y)) ∧ ∀ i : Nat,A.loc i ∈ xs → ∃ y,(give xs ys ρ)[i]? = some (some y)
  | [],vs,ρ,ys,hl,hl2,_,_,_,_,he=>by
    have e : give [] ys ρ = ρ:=by cases ys <;> rfl
    rw [e]
    exact ⟨he,fun _ _ q=>q,fun _ q=>by simp at q⟩
  | x :: xs,[],ρ,ys,hl,hl2,_,_,_,_,he=>by simp at hl
  | x :: xs,v :: vs,ρ,[],hl,hl2,_,_,_,_,he=>by simp at hl2
  | x :: xs,v :: vs,ρ,y :: ys,hl,hl2,hs,hn,hd,hy,he=>by
    have hl' : vs.length = xs.length:=by simpa using hl
    have hl2' : vs.length = ys.length:=by simpa using hl2
    have hs' : ∀ v i,(v,A.loc i) ∈ vs.zip xs → σ[i]? = some (some v):=fun v i q=>hs v i (by simp [q])
    have hy' : ∀ y ∈ ys,Y4 y = false:=fun z m=>hy z (List.mem_cons_of_mem _ m)
    cases hx : Y4 x with
    | false =>
      have e : give (x :: xs) (y :: ys) ρ = give xs ys ρ:=by cases x <;> first | rfl | cases hx
      rw [e]
      rw [List.filter_cons_of_neg (by rw [hx]; exact Bool.false_ne_true)] at hd
      obtain ⟨b4,b5,b6⟩:=Pa hl' hl2' hs' (fun i m=>hn i (List.mem_cons_of_mem _ m)) hd hy' he
      refine ⟨b4,b5,fun i m=>?_⟩
      rcases List.mem_cons.mp m with z | z
      · rw [← z] at hx; cases hx
      · exact b6 i z
    | true =>
      cases x with
      | loc i =>
        have hv : σ[i]? = some (some v):=hs v i (by simp)
        have hi : ρ[i]? = some none:=hn i (by simp)
        have hd' : A.loc i ∉ xs ∧ (xs.filter Y4).Nodup:=by
          rw [List.filter_cons_of_pos (by exact hx)] at hd
          obtain ⟨d1,d2⟩:=List.nodup_cons.mp hd
          exact ⟨fun m=>d1 (List.mem_filter.mpr ⟨m,rfl⟩),d2⟩
        have hn' : ∀ j,A.loc j ∈ xs → (ρ.set i (some y))[j]? = some none:=fun j m=>by
          have ne : i ≠ j:=fun z=>hd'.1 (z ▸ m)
          rw [List.getElem?_set_ne ne]
          exact hn j (List.mem_cons_of_mem _ m)
        obtain ⟨b4,b5,b6⟩:=Pa hl' hl2' hs' hn' hd'.2 hy' (he.put (o:=some y) (i:=i) fun z e=>by cases e; exact ⟨⟨v,hv⟩,Xr (hy y (by simp))⟩)
        refine ⟨b4,fun j z hj=>b5 j z ?_,fun j m=>?_⟩
        · have ne : i ≠ j:=fun q=>by subst q; rw [hi] at hj; cases hj
          rw [List.getElem?_set_ne ne]; exact hj
        · rcases List.mem_cons.mp m with z | z
          · injection z with z; subst z
            exact ⟨y,b5 j y (by rw [List.getElem?_set_self (W1 hi)])⟩
          · exact b6 j z
      | _=>cases hx
theorem Kn : ∀ {xs : List A} {ρ ρ' : J0} {ys : List A},pass xs ρ = some (ys,ρ') → (xs.filter Y4).Nodup
  | [],ρ,ρ',ys,h=>by simp
  | x :: xs,ρ,ρ',ys,h=>by
    cases hx : Y4 x with
    | false =>
      have e : pass (x :: xs) ρ = (match pass xs ρ with
        | some (ys,ρ')=>some (x :: ys,ρ')
        | none=>none):=by cases x <;> first | rfl | cases hx
      rw [e] at h
      cases q : pass xs ρ with
      | none=>rw [q] at h; cases h
      | some z =>
        rw [List.filter_cons_of_neg (by rw [hx]; exact Bool.false_ne_true)]
        exact Kn (ρ':=z.2) (ys:=z.1) q
    | true =>
      cases x with
      | loc j =>
        cases hy : ρ[j]? with
        | none=>simp [pass,hy] at h
        | some o =>
          cases o with
          | none=>simp [pass,hy] at h
          | some y =>
            simp only [pass,hy] at h
            cases q : pass xs (ρ.set j none) with
            | none=>rw [q] at h; cases h
            | some z =>
              rw [List.filter_cons_of_pos (by exact hx)]
              refine List.nodup_cons.mpr ⟨fun m=>?_,Kn (ρ':=z.2) (ys:=z.1) q⟩
              exact Kc (ρ':=z.2) (ys:=z.1) q j (by rw [List.getElem?_set_self (W1 hy)]) (List.mem_filter.mp m).1
      | _=>cases hx
/-- THE CALL -/
def Yp (sp : ASp) (xs : List A) : AE:=fun EA ρ Q=>∃ ys ρ',pass xs ρ = some (ys,ρ') ∧ sp.pre ys ∧ (∀ r ys',sp.post ys r ys' → ys'.length = ys.length → Q r (give xs ys' ρ')) ∧ ∀ C fs ys',sp.exc ys C fs ys' → ys'.length = ys.length → EA C fs (give xs ys' ρ')
theorem JBp {xs ys : List A} {vs : List V} {ρ' : J0} (hl : vs.length = xs.length) (s : Stt K c S H σ ρ (vs.zip xs ++ τ)) (hp : pass xs ρ = some (ys,ρ')) :
    ∃ c' : Ctx,c'.os = [] ∧ c'.S0 = S ∧ vs.length = ys.length ∧ Stt K c' S H (vs.map some) (ys.map some) [] ∧
      ∀ {H' S' : Hp} {ys' : List A} {τ' : List (V × A)},ys'.length = ys.length → (∀ p ∈ τ',Y4 p.2 = false) → Stt K c' S' H' (vs.map some) (ys'.map some) τ' → Stt K c S' H' σ (give xs ys' ρ') (τ' ++ (Ul xs vs ys' ++ τ)):=by
  obtain ⟨fp,h1,h2,h3⟩:=s.own
  have hlen : ys.length = xs.length:=Nr hp
  have hlv : vs.length = ys.length:=hl.trans hlen.symm
  have hs : ∀ v i,(v,A.loc i) ∈ vs.zip xs → σ[i]? = some (some v):=fun v i m=>(s.loc v i (List.mem_append_left _ m)).1
  obtain ⟨k1,k2,k3,k4,k5⟩:=Kj hp
  have he' : EnvOk ρ' σ:=k5 s.env
  have p : (Ji ρ σ ++ Jg (vs.zip xs ++ τ)).Perm (vs.zip ys ++ (Ji ρ' σ ++ Jg τ)):=by
    have e : Jg (vs.zip xs ++ τ) = Jg (vs.zip xs) ++ Jg τ:=List.filter_append ..
    rw [e,← List.append_assoc,← List.append_assoc]
    exact List.Perm.append_right _ (Pu hl hp hs)
  obtain ⟨fq,q1,q2⟩:=RepP.perm p h1
  obtain ⟨fh,fr,r1,r2,r3⟩:=q1.append
  subst r3
  have nd : (fh ++ fr).Nodup:=q2.nodup_iff.mp h2
  have h3' : ∀ a ∈ fh ++ fr,S a = none ∧ c.R a = none:=fun a ha=>h3 a (q2.symm.subset ha)
  have dj : ∀ a ∈ fh,a ∉ fr:=fun a ha hb=>(List.nodup_append.mp nd).2.2 a ha a hb rfl
  let ft:=fh ++ (Tbs.T K).map (·.1)
  have inT : ∀ a ∈ (Tbs.T K).map (·.1),c.R a = none ∧ ∃ ps,H a = some (.tbl ps):=fun a ha=>by
    obtain ⟨p,hp,e⟩:=List.mem_map.mp ha
    obtain ⟨q1,_,ps,q2,_⟩:=s.tb p hp
    rw [← e]
    exact ⟨q1,ps,q2⟩
  let c' : Ctx:=⟨U8 H ft,S,[]⟩
  have nl : ∀ x ∈ ys,Y4 x = false:=RepP.noloc hlv r1
  have s0 : Stt K c' S H (vs.map some) (ys.map some) []:=by
    refine ⟨⟨fh,?_,(List.nodup_append.mp nd).1,fun a ha=>⟨(h3' a (List.mem_append_left _ ha)).1,Wb (List.mem_append_left _ ha)⟩⟩,Fs hlv nl,fun _ _ m=>by simp at m,s.le,fun a o e=>?_,fun _ _=>rfl,Same.refl S,(fun p m=>by cases m),fun p hp=>⟨Wb (List.mem_append_right _ (List.mem_map.mpr ⟨p,hp,rfl⟩)),(s.tb p hp).2⟩⟩
    · rw [Zr hlv]
      simpa [Jg] using r1
    · by_cases q : a ∈ ft
      · rw [show c'.R a = none from Wb q] at e; cases e
      · rw [show c'.R a = H a from U6 q] at e; exact e
  refine ⟨c',rfl,rfl,hlv,s0,?_⟩
  intro H' S' ys' τ' hl' hτ s'
  obtain ⟨gp,g1,g2,g3⟩:=s'.own
  have hlv' : vs.length = ys'.length:=hlv.trans hl'.symm
  rw [Zr hlv'] at g1
  have Rfe : ∀ a ∈ fr,U8 H ft a = H a:=fun a ha=>U6 fun z=>by
    rcases List.mem_append.mp z with z | z
    · exact dj a z ha
    · obtain ⟨o,q1,q2⟩:=r2.nsp a ha
      obtain ⟨_,ps,q3⟩:=inT a z
      rw [q3] at q1; cases q1; cases q2
  have same : ∀ a ∈ fr,H' a = H a:=fun a ha=>by
    have th : H a ≠ none:=r2.there a ha
    cases e : H a with
    | none=>exact absurd e th
    | some o=>exact s'.r a o ((Rfe a ha).trans e)
  have Ssame : Same S S':=s'.up
  have none' : ∀ a ∈ fr,S' a = none:=fun a ha=>by
    have th : H a ≠ none:=r2.there a ha
    rw [s'.new a (by rw [show c'.R a = H a from Rfe a ha]; exact th)]
    exact (h3' a (List.mem_append_right _ ha)).1
  have djg : ∀ a ∈ gp,a ∉ fr:=fun a ha hb=>by
    have z : U8 H ft a = none:=(g3 a ha).2
    rw [Rfe a hb] at z
    exact r2.there a hb z
  have RR : ∀ a o,c.R a = some o → U8 H ft a = some o:=fun a o e=>by
    have na : a ∉ ft:=fun z=>by
      rcases List.mem_append.mp z with z | z
      · rw [(h3' a (List.mem_append_left _ z)).2] at e; cases e
      · rw [(inT a z).1] at e; cases e
    rw [U6 na]; exact s.r a o e
  have inR : ∀ a,U8 H ft a = none → c.R a = none:=fun a e=>by
    cases z : c.R a with
    | none=>rfl
    | some o=>rw [RR a o z] at e; cases e
  have v1 : RepP K S' H' (Ji ρ' σ ++ Jg τ) fr:=r2.keep Ssame same
  have big : RepP K S' H' ((vs.zip ys' ++ Jg τ') ++ (Ji ρ' σ ++ Jg τ)) (gp ++ fr):=g1.join v1
  have nl' : ∀ x ∈ ys',Y4 x = false:=EnvOk.noloc s'.env
  have gpm:=Pi (σ:=σ) (ρ:=ρ') hl hlv' hs (fun i m=>k3 i m) (Kn hp)
  obtain ⟨w4,w5,w6⟩:=Pa (σ:=σ) (ρ:=ρ') hl hlv' hs (fun i m=>k3 i m) (Kn hp) nl' he'
  have tb : Jg (Ul xs vs ys') = Ul xs vs ys':=by
    have : ∀ p ∈ Ul xs vs ys',Y4 p.2 = false:=by
      have key : ∀ (xs : List A) (vs : List V) (zs : List A),(∀ z ∈ zs,Y4 z = false) → ∀ p ∈ Ul xs vs zs,Y4 p.2 = false:=by
        intro xs
        induction xs with
        | nil=>intro vs zs _ p m; simp [Ul] at m
        | cons x xs ih =>
          intro vs zs hz p m
          cases vs with
          | nil=>cases x <;> simp [Ul] at m
          | cons v vs =>
            cases zs with
            | nil=>cases x <;> simp [Ul] at m
            | cons z zs =>
              cases hx : Y4 x with
              | false =>
                rw [Cd hx] at m
                rcases List.mem_cons.mp m with e | e
                · rw [e]; exact hz z (by simp)
                · exact ih vs zs (fun y hy=>hz y (List.mem_cons_of_mem _ hy)) p e
              | true =>
                cases x with
                | loc i=>exact ih vs zs (fun y hy=>hz y (List.mem_cons_of_mem _ hy)) p m
                | _=>cases hx
      exact key xs vs ys' nl'
    refine List.filter_eq_self.mpr fun p m=>?_
    have q:=this p m
    obtain ⟨u,z⟩:=p
    cases z <;> first | rfl | cases q
  have etmp : Jg (τ' ++ (Ul xs vs ys' ++ τ)) = Jg τ' ++ (Ul xs vs ys' ++ Jg τ):=by
    unfold Jg at tb ⊢
    rw [List.filter_append,List.filter_append,tb]
  have pm : ((vs.zip ys' ++ Jg τ') ++ (Ji ρ' σ ++ Jg τ)).Perm (Ji (give xs ys' ρ') σ ++ Jg (τ' ++ (Ul xs vs ys' ++ τ))):=by
    rw [etmp]
    have a1 : ((vs.zip ys' ++ Jg τ') ++ (Ji ρ' σ ++ Jg τ)).Perm ((vs.zip ys' ++ Ji ρ' σ) ++ (Jg τ' ++ Jg τ)):=by
      rw [List.append_assoc,List.append_assoc]
      refine List.Perm.append_left _ ?_
      rw [← List.append_assoc,← List.append_assoc]
      exact List.Perm.append_right _ List.perm_append_comm
    have a2:=List.Perm.append_right (Jg τ' ++ Jg τ) gpm
    have a3 : ((Ul xs vs ys' ++ Ji (give xs ys' ρ') σ) ++ (Jg τ' ++ Jg τ)).Perm (Ji (give xs ys' ρ') σ ++ (Jg τ' ++ (Ul xs vs ys' ++ Jg τ))):=by
      refine (List.Perm.append_right _ List.perm_append_comm).trans ?_
      rw [List.append_assoc]
      refine List.Perm.append_left _ ?_
      rw [← List.append_assoc,← List.append_assoc]
      exact List.Perm.append_right _ List.perm_append_comm
    exact (a1.trans a2).trans a3
  obtain ⟨fz,z1,z2⟩:=RepP.perm pm big
  have ndb : (gp ++ fr).Nodup:=List.nodup_append.mpr ⟨g2,(List.nodup_append.mp nd).2.1,fun a ha b hb e=>djg a ha (e ▸ hb)⟩
  refine ⟨⟨fz,z1,z2.nodup_iff.mp ndb,fun a ha=>?_⟩,w4,fun v i m=>?_,s'.le,fun a o e=>s'.r a o (RR a o e),fun a ha=>?_,fun a o e=>Ssame a o (s.up a o e),s.os,fun p hp=>⟨(s.tb p hp).1,(s'.tb p hp).2⟩⟩
  · rcases List.mem_append.mp (z2.symm.subset ha) with y | y
    · exact ⟨(g3 a y).1,inR a (g3 a y).2⟩
    · exact ⟨none' a y,(h3' a (List.mem_append_right _ y)).2⟩
  · rcases List.mem_append.mp m with z | z
    · have:=hτ _ z; cases this
    · rcases List.mem_append.mp z with z | z
      · have tb2 : (v,A.loc i) ∈ Jg (Ul xs vs ys'):=by rw [tb]; exact z
        have:=(List.mem_filter.mp tb2).2
        cases this
      · obtain ⟨y1,y,y2⟩:=s.loc v i (List.mem_append_right _ z)
        refine ⟨y1,?_⟩
        by_cases e : A.loc i ∈ xs
        · exact w6 i e
        · exact ⟨y,w5 i y (by rw [k4 i e]; exact y2)⟩
  · have z : U8 H ft a ≠ none:=fun e=>by
      cases y : c.R a with
      | none=>exact ha y
      | some o=>rw [RR a o y] at e; cases e
    rw [s'.new a z]; exact s.new a ha
theorem Ms {sp : ASp} {xs : List A} {vs : List V} {W : WX} {EA : AX} {Q : AK} (hw : XOk K c W EA) (hl : vs.length = xs.length) (s : Stt K c S H σ ρ (vs.zip xs ++ τ)) (h : Yp sp xs EA ρ Q) :
    lift K sp vs H (KE K c σ τ Q) (fun cls d H'=>W cls d σ H'):=by
  obtain ⟨ys,ρ',hp,hpre,hq,hx⟩:=h
  obtain ⟨c',h1,h2,hlv,s0,back⟩:=JBp hl s hp
  refine ⟨c',S,ys,hlv,h1,s0,by rw [h2]; exact Same.refl S,by rw [h2]; exact Same.refl S,hpre,fun r xs' v H' S' hpo hl' hr s'=>?_,fun C fs xs' dd H' S' hex hl' s' hd=>?_⟩
  · have s2:=back (hl'.symm.trans hlv) (τ':=[(v,r)]) (fun p m=>by
      have e : p = (v,r):=by simpa using m
      rw [e]; exact hr) s'
    refine ⟨S',give xs xs' ρ',r,?_,hq r xs' hpo (hl'.symm.trans hlv)⟩
    have s3 : Stt K c S' H' σ (give xs xs' ρ') (Ul xs vs xs' ++ ((v,r) :: τ)):=s2.swap (by
      rw [List.cons_append,List.nil_append]
      exact List.perm_middle.symm)
    exact s3.drops
  · have s2 : Stt K c S' H' σ (give xs xs' ρ') (Ul xs vs xs' ++ τ):=back (τ':=[]) (hl'.symm.trans hlv) (fun p m=>by simp at m) s'
    exact hw S' H' σ (give xs xs' ρ') C fs dd (Stt.drops (τ':=[]) (ts:=Ul xs vs xs' ++ τ) (by simpa using s2)) hd (hx C fs xs' hex (hl'.symm.trans hlv))
end
end Vs
namespace Vs
open PySem L2
variable [Tbs]
structure QE (X : Cx) (P : Pm) (e : Expr) (ae : AE) : Prop where
  ex : ∃ te,PE X e te ∧ Yw X.K P te ae
structure QT (X : Cx) (P : Pm) (e : Expr) (a : AT) : Prop where
  ex : ∃ t,PT X e t ∧ Vp X.K P t a
structure QW (X : Cx) (P : Pm) (e : Expr) (a : AT) : Prop where
  ex : ∃ t,PW X e t ∧ Vp X.K P t a
structure QA (X : Cx) (P : Pm) (es : List Expr) (a : AA) : Prop where
  ex : ∃ t,PA X es t ∧ Zn X.K P t a
structure QS (X : Cx) (P : Pm) (st : Stmt) (a : AS) : Prop where
  ex : ∃ t,PS X st t ∧ Z1 X.K P t a
structure QSs (X : Cx) (P : Pm) (st : List Stmt) (a : AS) : Prop where
  ex : ∃ t,PSs X st t ∧ Z1 X.K P t a
def Yd (x : A) (ρ : J0) (k : D → J0 → Prop) : Prop:=match x with
  | .loc i=>∃ y,ρ[i]? = some (some y) ∧ k y.toD (ρ.set i (some (.v y.toD)))
  | y=>k y.toD ρ
section
variable {K : Fg} {c : Ctx} {S H : Hp} {σ : L2.St} {ρ : J0} {τ : List (V × A)} {v : V} {x y : A} {i : Nat}
theorem W3 {k : D → J0 → Prop} (s : Stt K c S H σ ρ ((v,x) :: τ)) (h : Yd x ρ k) : ∃ S' d ρ',Same S S' ∧ Stt K c S' H σ ρ' ((v,.v d) :: τ) ∧ k d ρ':=by
  cases hx : Y4 x with
  | false =>
    obtain ⟨S',sm,s'⟩:=s.freeze hx
    refine ⟨S',x.toD,ρ,sm,s',?_⟩
    cases x <;> first | exact h | cases hx
  | true =>
    cases x with
    | loc i =>
      obtain ⟨y,hy,hk⟩:=h
      obtain ⟨S',sm,s'⟩:=s.freezeSlot hy
      have hv : σ[i]? = some (some v):=(s.loc v i (List.mem_cons_self ..)).1
      obtain ⟨v',hv',hr⟩:=s'.slot (i:=i) (d:=y.toD) (by rw [List.getElem?_set_self (W1 hy)])
      rw [hv] at hv'
      cases hv'
      exact ⟨S',y.toD,_,sm,s'.drop.hold hr,hk⟩
    | _=>cases hx
def Z8 : List A → J0 → (List D → J0 → Prop) → Prop
  | [],ρ,k=>k [] ρ
  | x :: xs,ρ,k=>Yd x ρ fun d ρ'=>Z8 xs ρ' fun ds ρ''=>k (d :: ds) ρ''
theorem Nb : ∀ {xs : List A} {vs : List V} {S : Hp} {ρ : J0} {k : List D → J0 → Prop},vs.length = xs.length → Stt K c S H σ ρ (vs.zip xs ++ τ) → Z8 xs ρ k → ∃ S' ds ρ',Same S S' ∧ RepL K S' ds vs ∧ Stt K c S' H σ ρ' τ ∧ k ds ρ'
  | [],vs,S,ρ,k,hl,s,h=>by
    have e : vs = []:=by simpa using hl
    subst e
    exact ⟨S,[],ρ,Same.refl S,by simp only [RepL],by simpa using s,h⟩
  | x :: xs,[],S,ρ,k,hl,s,h=>by simp at hl
  | x :: xs,v :: vs,S,ρ,k,hl,s,h=>by
    obtain ⟨S1,d,ρ1,sm,s1,h1⟩:=W3 (τ:=vs.zip xs ++ τ) (by simpa using s) h
    have hr:=s1.data
    obtain ⟨S2,ds,ρ2,sm2,r2,s2,h2⟩:=Nb (by simpa using hl) s1.drop h1
    exact ⟨S2,d :: ds,ρ2,sm.trans sm2,by simp only [RepL]; exact ⟨v,vs,rfl,Rep.le (Le.of_same sm2) d v hr,r2⟩,s2,h2⟩
end
section
variable {X : Cx} {P : Pm} {K : Fg}
def aC (d : D) : AE:=fun _ ρ Q=>Q (.v d) ρ
def sc : D → Option V
  | .non=>some .non
  | .bl b=>some (.bl b)
  | .int i=>some (.int i)
  | .str x=>some (.str x)
  | .ty n=>some (.ty n)
  | _=>none
theorem Z0 {K : Fg} {S : Hp} {d : D} {v : V} (h : sc d = some v) : Rep K S d v:=by
  cases d <;> simp only [sc] at h <;> first | (injection h with h; simp only [Rep]; exact h.symm) | cases h
theorem H8 {d : D} {v : V} (h : sc d = some v) : Yw K P (tC v) (aC d):=fun c EA _ _ τ S H σ ρ Q R s q k=>k _ _ ⟨S,ρ,.v d,s.hold (Z0 h),q⟩
theorem Jn {i j pos} : QE X P (.Constant (.int i) j pos) (aC (.int i)):=⟨_,pe_int,H8 rfl⟩
theorem Vw {b j pos} : QE X P (.Constant (.bool b) j pos) (aC (.bl b)):=⟨_,pe_bl,H8 rfl⟩
theorem Xk {j pos} : QE X P (.Constant .none j pos) (aC .non):=⟨_,pe_non,H8 rfl⟩
theorem Jj {x j pos} : QE X P (.Constant (.str x) j pos) (aC (.str x)):=⟨_,pe_str,H8 rfl⟩
/-- a module's constant -/
theorem JBk {x : Str} {d : D} {v : V} {u : Value} {pos : Pos} (hd : sc d = some v) (hg : Gl X x) (hm : X.mg x = some u) (r : RelV v u) (h : (x == ("__debug__" : Str)) = false:=by decide) : QE X P (.Name x pos) (aC d):=⟨_,pe_glob hg hm r h,H8 hd⟩
/-- a name's shared datum; what a name holds -/
def J7 (i : Nat) : AE:=fun _ ρ Q=>∃ d,ρ[i]? = some (some (.v d)) ∧ Q (.v d) ρ
def Jl (i : Nat) : AE:=fun _ ρ Q=>(∃ y,ρ[i]? = some (some y)) ∧ Q (.loc i) ρ
theorem JHp {i : Nat} : Yw K P (tVar i) (J7 i):=fun c EA _ _ τ S H σ ρ Q R s ⟨d,e,q⟩ k=>by
  obtain ⟨v,hv,hr⟩:=s.slot e
  exact ⟨v,hv,k _ _ ⟨S,ρ,.v d,s.hold hr,q⟩⟩
theorem Stt.ref {c : Ctx} {S H : Hp} {σ : L2.St} {ρ : J0} {τ : List (V × A)} {v : V} {y : A} {i : Nat} (s : Stt K c S H σ ρ τ) (h : ρ[i]? = some (some y)) (hv : σ[i]? = some (some v)) : Stt K c S H σ ρ ((v,.loc i) :: τ) :=
  ⟨s.own,s.env,fun v' j m=>by
    rcases List.mem_cons.mp m with q | q
    · injection q with q1 q2
      injection q2 with q2
      subst q1 q2
      exact ⟨hv,y,h⟩
    · exact s.loc v' j q,s.le,s.r,s.new,s.up,s.os,s.tb⟩
theorem JF3 {i : Nat} : Yw K P (tVar i) (Jl i):=fun c EA _ _ τ S H σ ρ Q R s ⟨⟨y,e⟩,q⟩ k=>by
  obtain ⟨⟨v,hv⟩,_⟩:=s.env.get e
  exact ⟨v,hv,k _ _ ⟨S,ρ,.loc i,s.ref e hv,q⟩⟩
theorem qv (i : Nat) {x : Str} {pos : Pos} (hN : X.N[i]? = some x:=by rfl) (hv : Vis X.env.scope x:=by first | exact Or.inl rfl | exact Or.inr (Or.inl rfl) | exact Or.inr (Or.inr rfl)) (hd : (x == ("__debug__" : Str)) = false:=by decide)
    (hcd : (x == ("__classdict__" : Str)) = false:=by decide) : QE X P (.Name x pos) (J7 i):=⟨_,pe_var hN hv hd hcd,JHp⟩
theorem qr (i : Nat) {x : Str} {pos : Pos} (hN : X.N[i]? = some x:=by rfl) (hv : Vis X.env.scope x:=by first | exact Or.inl rfl | exact Or.inr (Or.inl rfl) | exact Or.inr (Or.inr rfl)) (hd : (x == ("__debug__" : Str)) = false:=by decide)
    (hcd : (x == ("__classdict__" : Str)) = false:=by decide) : QE X P (.Name x pos) (Jl i):=⟨_,pe_var hN hv hd hcd,JF3⟩
abbrev AR2:=A → A → J0 → AK → Prop
abbrev AR1:=A → J0 → AK → Prop
abbrev ARs:=List A → J0 → AK → Prop
def Yj (K : Fg) (r : R2) (ra : AR2) : Prop:=∀ c τ S H σ ρ vx vy x y Q (R : VK),Stt K c S H σ ρ ((vy,y) :: (vx,x) :: τ) → ra x y ρ Q → (∀ v H',KE K c σ τ Q v H' → R v H') → r vx vy H R
def Wm (K : Fg) (r : List V → Hp → VK → Prop) (ra : ARs) : Prop:=∀ c τ S H σ ρ vs xs Q (R : VK),vs.length = xs.length → Stt K c S H σ ρ (vs.zip xs ++ τ) → ra xs ρ Q → (∀ v H',KE K c σ τ Q v H' → R v H') → r vs H R
def aOp (ra : AR2) (aa ab : AE) : AE:=fun EA ρ Q=>aa EA ρ fun x ρ1=>ab EA ρ1 fun y ρ2=>ra x y ρ2 Q
def aUn (ra : AR1) (aa : AE) : AE:=fun EA ρ Q=>aa EA ρ fun x ρ1=>ra x ρ1 Q
theorem G8 {r : R2} {ra : AR2} {ta tb : TE} {aa ab : AE} (ha : Yw K P ta aa) (hb : Yw K P tb ab) (hr : Yj K r ra) : Yw K P (tOp r ta tb) (aOp ra aa ab):=fun c EA ho hw τ S H σ ρ Q R s q k =>
  ha c EA ho hw τ S H σ ρ _ _ s q (fun vx H1 ⟨S1,ρ1,x,s1,q1⟩=>hb c EA ho hw ((vx,x) :: τ) S1 H1 σ ρ1 _ _ s1 q1 (fun vy H2 ⟨S2,ρ2,y,s2,q2⟩=>hr c τ S2 H2 σ ρ2 vx vy x y Q R s2 q2 k))
theorem Ys {a b : Expr} {op : Operator} {pos : Pos} {aa ab : AE} {r : R2} {ra : AR2} (ho : OpR X (binaryOp op) r) (hr : Yj X.K r ra) (ha : QE X P a aa) (hb : QE X P b ab) : QE X P (.BinOp a op b pos) (aOp ra aa ab):=by
  obtain ⟨ta,pa,sa⟩:=ha.ex
  obtain ⟨tb,pb,sb⟩:=hb.ex
  exact ⟨_,pe_op ho pa pb,G8 sa sb hr⟩
theorem Zf {a b : Expr} {op : CmpOp} {pos : Pos} {aa ab : AE} {r : R2} {ra : AR2} (ho : OpR X (compareOp op) r) (hr : Yj X.K r ra) (ha : QE X P a aa) (hb : QE X P b ab) (hm : behindInMarks op b = false) : QE X P (.Compare a [op] [b] pos) (aOp ra aa ab):=by
  obtain ⟨ta,pa,sa⟩:=ha.ex
  obtain ⟨tb,pb,sb⟩:=hb.ex
  exact ⟨_,pe_cmpR ho pa pb hm,G8 sa sb hr⟩
def Y5 (ae : AE) : AT:=fun EA ρ Q=>ae EA ρ fun x ρ1=>∃ b,dat x ρ1 = some (.bl b) ∧ Q b ρ1
theorem Mj {te : TE} {ae : AE} (h : Yw K P te ae) : Vp K P (tTest te) (Y5 ae):=fun c EA ho hw τ S H σ ρ Q R s q k =>
  h c EA ho hw τ S H σ ρ _ _ s q (fun v H1 ⟨S1,ρ1,x,s1,b,e,q1⟩=>by
    have r:=s1.dat (List.mem_cons_self ..) e
    simp only [Rep] at r
    exact ⟨b,r,k _ _ ⟨S1,ρ1,s1.drop,q1⟩⟩)
theorem Yr {a b : Expr} {op : CmpOp} {pos : Pos} {aa ab : AE} {r : R2} {ra : AR2} (ho : OpR X (compareOp op) r) (hr : Yj X.K r ra) (ha : QE X P a aa) (hb : QE X P b ab) (hm : behindInMarks op b = false) : QT X P (.Compare a [op] [b] pos) (Y5 (aOp ra aa ab)):=by
  obtain ⟨ta,pa,sa⟩:=ha.ex
  obtain ⟨tb,pb,sb⟩:=hb.ex
  exact ⟨_,pt_cmpR ho pa pb hm,Mj (G8 sa sb hr)⟩
theorem Vd {e : Expr} {ae : AE} (h : QE X P e ae) (he : ∀ whole,isTrue e X.env whole = (do let v ← whole; standAt e.pos; holding [v] (truthy v)):=by intro _; rfl) : QT X P e (Y5 ae):=by
  obtain ⟨t,p,s⟩:=h.ex
  exact ⟨_,pt_val p he,Mj s⟩
/-- a op b op' c -/
def Xc (ra rb : AR2) (aa ab ac : AE) : AE:=fun EA ρ Q=>aa EA ρ fun x ρ1=>ab EA ρ1 fun y ρ2=>∃ dy,y = .v dy ∧ ra x y ρ2 fun z ρ3=>∃ b,dat z ρ3 = some (.bl b) ∧ if b = true then ac EA ρ3 fun w ρ4=>rb (.v dy) w ρ4 Q else Q (.v (.bl false)) ρ3
theorem Sm {r r' : R2} {ra rb : AR2} {ta tb tc : TE} {aa ab ac : AE} (ha : Yw K P ta aa) (hb : Yw K P tb ab) (hc : Yw K P tc ac) (h1 : Yj K r ra) (h2 : Yj K r' rb) : Yw K P (tChain r r' ta tb tc) (Xc ra rb aa ab ac):=fun c EA ho hw τ S H σ ρ Q R s q k =>
  ha c EA ho hw τ S H σ ρ _ _ s q (fun vx H1 ⟨S1,ρ1,x,s1,q1⟩=>hb c EA ho hw ((vx,x) :: τ) S1 H1 σ ρ1 _ _ s1 q1 (fun vy H2 ⟨S2,ρ2,y,s2,dy,ey,q2⟩=>by
    subst ey
    have s2' : Stt K c S2 H2 σ ρ2 ((vy,.v dy) :: (vx,x) :: (vy,.v dy) :: τ):=by
      have hr:=s2.data
      have z : Stt K c S2 H2 σ ρ2 ((vy,.v dy) :: (vy,.v dy) :: (vx,x) :: τ):=s2.hold hr
      exact z.swap (List.Perm.cons _ (.swap _ _ _))
    refine h1 c ((vy,.v dy) :: τ) S2 H2 σ ρ2 vx vy x (.v dy) _ _ s2' q2 (fun vz H3 ⟨S3,ρ3,z,s3,b,e,q3⟩=>?_)
    have rz:=s3.dat (List.mem_cons_self ..) e
    simp only [Rep] at rz
    refine ⟨b,rz,?_⟩
    cases b with
    | true =>
      rw [if_pos rfl] at q3 ⊢
      exact hc c EA ho hw ((vy,.v dy) :: τ) S3 H3 σ ρ3 _ _ s3.drop q3 (fun vw H4 ⟨S4,ρ4,w,s4,q4⟩=>h2 c τ S4 H4 σ ρ4 vy vw (.v dy) w Q R s4 q4 k)
    | false =>
      rw [if_neg Bool.false_ne_true] at q3 ⊢
      exact k _ _ ⟨S3,ρ3,.v (.bl false),s3.drop.drop.hold (Z0 rfl),q3⟩))
theorem JKk {a b d : Expr} {op op' : CmpOp} {pos : Pos} {aa ab ac : AE} {r r' : R2} {ra rb : AR2} (ho : OpR X (compareOp op) r) (hr : Yj X.K r ra) (ho' : OpR X (compareOp op') r') (hr' : Yj X.K r' rb) (ha : QE X P a aa) (hb : QE X P b ab) (hc : QE X P d ac)
    (hm : lastMarks [op,op'] [b,d] = false:=by rfl) : QE X P (.Compare a [op,op'] [b,d] pos) (Xc ra rb aa ab ac):=by
  obtain ⟨ta,pa,sa⟩:=ha.ex
  obtain ⟨tb,pb,sb⟩:=hb.ex
  obtain ⟨tc,pc,sc⟩:=hc.ex
  exact ⟨_,pe_chain ho ho' pa pb pc hm,Sm sa sb sc hr hr'⟩
theorem En {a b d : Expr} {op op' : CmpOp} {pos : Pos} {aa ab ac : AE} {r r' : R2} {ra rb : AR2} (ho : OpR X (compareOp op) r) (hr : Yj X.K r ra) (ho' : OpR X (compareOp op') r') (hr' : Yj X.K r' rb) (ha : QE X P a aa) (hb : QE X P b ab) (hc : QE X P d ac)
    (hm : lastMarks [op,op'] [b,d] = false:=by rfl) : QT X P (.Compare a [op,op'] [b,d] pos) (Y5 (Xc ra rb aa ab ac)):=by
  obtain ⟨ta,pa,sa⟩:=ha.ex
  obtain ⟨tb,pb,sb⟩:=hb.ex
  obtain ⟨tc,pc,sc⟩:=hc.ex
  exact ⟨_,pt_chain ho ho' pa pb pc hm,Mj (Sm sa sb sc hr hr')⟩
def Zv (t u : AT) : AT:=fun EA ρ Q=>t EA ρ fun b ρ1=>if b = true then u EA ρ1 Q else Q false ρ1
def Uv (t u : AT) : AT:=fun EA ρ Q=>t EA ρ fun b ρ1=>if b = true then Q true ρ1 else u EA ρ1 Q
def Uj (t : AT) : AT:=fun EA ρ Q=>t EA ρ fun b ρ1=>Q (!b) ρ1
theorem JHl {t u : TT} {a b : AT} (h1 : Vp K P t a) (h2 : Vp K P u b) : Vp K P (tAnd t u) (Zv a b):=fun c EA ho hw τ S H σ ρ Q R s q k =>
  h1 c EA ho hw τ S H σ ρ _ _ s q (fun v H1 ⟨S1,ρ1,s1,q1⟩=>by
    cases v with
    | true=>rw [if_pos rfl] at q1 ⊢; exact h2 c EA ho hw τ S1 H1 σ ρ1 Q R s1 q1 k
    | false=>rw [if_neg Bool.false_ne_true] at q1 ⊢; exact k _ _ ⟨S1,ρ1,s1,q1⟩)
theorem JKf {t u : TT} {a b : AT} (h1 : Vp K P t a) (h2 : Vp K P u b) : Vp K P (tOr t u) (Uv a b):=fun c EA ho hw τ S H σ ρ Q R s q k =>
  h1 c EA ho hw τ S H σ ρ _ _ s q (fun v H1 ⟨S1,ρ1,s1,q1⟩=>by
    cases v with
    | true=>rw [if_pos rfl] at q1 ⊢; exact k _ _ ⟨S1,ρ1,s1,q1⟩
    | false=>rw [if_neg Bool.false_ne_true] at q1 ⊢; exact h2 c EA ho hw τ S1 H1 σ ρ1 Q R s1 q1 k)
theorem JLu {t : TT} {a : AT} (h : Vp K P t a) : Vp K P (tNot t) (Uj a):=fun c EA ho hw τ S H σ ρ Q R s q k =>
  h c EA ho hw τ S H σ ρ _ _ s q (fun v H1 ⟨S1,ρ1,s1,q1⟩=>k _ _ ⟨S1,ρ1,s1,q1⟩)
variable {a b : Expr} {rest : List Expr} {pos : Pos}
theorem K7 {t : AT} (h : QT X P a t) : QW X P (.BoolOp .And [a] pos) t:=let ⟨_,p,s⟩:=h.ex; ⟨_,pw_and1 p,s⟩
theorem Wn {t : AT} (h : QT X P a t) : QW X P (.BoolOp .Or [a] pos) t:=let ⟨_,p,s⟩:=h.ex; ⟨_,pw_or1 p,s⟩
theorem Gg {t u : AT} (h : QT X P a t) (h2 : QW X P (.BoolOp .And (b :: rest) pos) u) : QW X P (.BoolOp .And (a :: b :: rest) pos) (Zv t u):=let ⟨_,p,s⟩:=h.ex; let ⟨_,p2,s2⟩:=h2.ex; ⟨_,pw_and p p2,JHl s s2⟩
theorem Vl {t u : AT} (h : QT X P a t) (h2 : QW X P (.BoolOp .Or (b :: rest) pos) u) : QW X P (.BoolOp .Or (a :: b :: rest) pos) (Uv t u):=let ⟨_,p,s⟩:=h.ex; let ⟨_,p2,s2⟩:=h2.ex; ⟨_,pw_or p p2,JKf s s2⟩
theorem Vt {t : AT} {e : Expr} (h : QW X P e t) : QT X P e t:=let ⟨_,p,s⟩:=h.ex; ⟨_,p.pt,s⟩
theorem V8 {t : AT} (h : QT X P a t) : QT X P (.UnaryOp .Not a pos) (Uj t):=let ⟨_,p,s⟩:=h.ex; ⟨_,pt_not p,JLu s⟩
def Zm (aa ab : AE) : AE:=fun EA ρ Q=>aa EA ρ fun x ρ1=>∃ b,dat x ρ1 = some (.bl b) ∧ if b = true then ab EA ρ1 Q else Q (.v (.bl false)) ρ1
def aOr (aa ab : AE) : AE:=fun EA ρ Q=>aa EA ρ fun x ρ1=>∃ b,dat x ρ1 = some (.bl b) ∧ if b = true then Q (.v (.bl true)) ρ1 else ab EA ρ1 Q
def JGg (aa : AE) : AE:=fun EA ρ Q=>aa EA ρ fun x ρ1=>∃ b,dat x ρ1 = some (.bl b) ∧ Q (.v (.bl (!b))) ρ1
theorem JZf {ta tb : TE} {aa ab : AE} (h1 : Yw K P ta aa) (h2 : Yw K P tb ab) : Yw K P (tAndV ta tb) (Zm aa ab):=fun c EA ho hw τ S H σ ρ Q R s q k =>
  h1 c EA ho hw τ S H σ ρ _ _ s q (fun v H1 ⟨S1,ρ1,x,s1,b,e,q1⟩=>by
    have r:=s1.dat (List.mem_cons_self ..) e
    simp only [Rep] at r
    refine ⟨b,r,?_⟩
    cases b with
    | true=>rw [if_pos rfl] at q1 ⊢; exact h2 c EA ho hw τ S1 H1 σ ρ1 Q R s1.drop q1 k
    | false=>rw [if_neg Bool.false_ne_true] at q1 ⊢; exact k _ _ ⟨S1,ρ1,_,s1.drop.hold (Z0 rfl),q1⟩)
theorem O4 {op} {t : AE} (h : QE X P a t) : QE X P (.BoolOp op [a] pos) t:=let ⟨_,p,s⟩:=h.ex; ⟨_,pe_one p,s⟩
theorem G6 {t u : AE} (h : QE X P a t) (h2 : QE X P (.BoolOp .And (b :: rest) pos) u) : QE X P (.BoolOp .And (a :: b :: rest) pos) (Zm t u):=let ⟨_,p,s⟩:=h.ex; let ⟨_,p2,s2⟩:=h2.ex; ⟨_,pe_and p p2,JZf s s2⟩
/-- a if t else b -/
def aIf (t : AT) (aa ab : AE) : AE:=fun EA ρ Q=>t EA ρ fun b ρ1=>if b = true then aa EA ρ1 Q else ab EA ρ1 Q
def J9 : AA:=fun _ ρ Q=>Q [] ρ
def J2 (ae : AE) (aa : AA) : AA:=fun EA ρ Q=>ae EA ρ fun x ρ1=>aa EA ρ1 fun xs ρ2=>Q (x :: xs) ρ2
theorem Sj : Zn K P tNil J9:=fun c EA ho hw τ S H σ ρ Q R s q k=>k _ _ ⟨S,ρ,[],rfl,by simpa using s,q⟩
theorem JBd {te : TE} {ta : TA} {ae : AE} {aa : AA} (h1 : Yw K P te ae) (h2 : Zn K P ta aa) : Zn K P (tCons te ta) (J2 ae aa):=fun c EA ho hw τ S H σ ρ Q R s q k =>
  h1 c EA ho hw τ S H σ ρ _ _ s q (fun v H1 ⟨S1,ρ1,x,s1,q1⟩=>h2 c EA ho hw ((v,x) :: τ) S1 H1 σ ρ1 _ _ s1 q1 (fun vs H2 ⟨S2,ρ2,xs,hl,s2,q2⟩ =>
    k _ _ ⟨S2,ρ2,x :: xs,by simp [hl],by
      rw [List.zip_cons_cons]
      exact s2.swap List.perm_middle,q2⟩))
theorem Jc : QA X P [] J9:=⟨_,pa_nil,Sj⟩
theorem J4 {e : Expr} {es : List Expr} {ae : AE} {aa : AA} (h1 : QE X P e ae) (h2 : QA X P es aa) (hs : starEach (e :: es) X.env = (false,eval e X.env) :: starEach es X.env:=by rfl) : QA X P (e :: es) (J2 ae aa) :=
  let ⟨_,p,s⟩:=h1.ex; let ⟨_,p2,s2⟩:=h2.ex; ⟨_,pa_cons p p2 hs,JBd s s2⟩
/-- (a,b,..): a shared tuple -/
def U7 (aa : AA) : AE:=fun EA ρ Q=>aa EA ρ fun xs ρ1=>xs.length ≤ 1000 ∧ Z8 xs ρ1 fun ds ρ2=>Q (.v (.tup ds)) ρ2
def Uc (aa : AA) : AE:=fun EA ρ Q=>aa EA ρ fun xs ρ1=>xs.length ≤ 1000 ∧ Z8 xs ρ1 fun ds ρ2=>Q (.lst ds) ρ2
theorem JWw {n : Nat} (h : n ≤ 1000) : n ≤ sizeLine:=Nat.le_trans h (by decide)
theorem Ug {es : List Expr} {aa : AA} {x1} (h : QA X P es aa) : QE X P (.Tuple es x1 pos) (U7 aa):=by
  obtain ⟨t,p,s⟩:=h.ex
  refine ⟨_,pe_tup p,fun c EA ho hw τ S H σ ρ Q R st q k=>s c EA ho hw τ S H σ ρ _ _ st q (fun vs H1 ⟨S1,ρ1,xs,hl,s1,hz,q1⟩=>⟨by rw [hl]; exact JWw hz,fun p hp=>?_⟩)⟩
  obtain ⟨S2,ds,ρ2,sm,rl,s2,q2⟩:=Nb hl s1 q1
  have f1:=(s2.fresh hp).1
  refine k _ _ ⟨_,ρ2,.v (.tup ds),s2.share (o:=.tup vs) hp ?_,q2⟩
  simp only [Rep]
  exact ⟨p,vs,rfl,SqT.of upd_same,RepL.le (Le.of_same (Same.up f1)) ds vs rl⟩
theorem Ur {es : List Expr} {aa : AA} (h : QA X P es aa) : QE X P (.List es pos) (Uc aa):=by
  obtain ⟨t,p,s⟩:=h.ex
  refine ⟨_,pe_lst p,fun c EA ho hw τ S H σ ρ Q R st q k=>s c EA ho hw τ S H σ ρ _ _ st q (fun vs H1 ⟨S1,ρ1,xs,hl,s1,hz,q1⟩=>⟨by rw [hl]; exact JWw hz,fun p hp=>?_⟩)⟩
  obtain ⟨S2,ds,ρ2,sm,rl,s2,q2⟩:=Nb hl s1 q1
  refine k _ _ ⟨_,ρ2,.lst ds,s2.alloc hp rfl ?_,q2⟩
  simp only [RepA]
  exact ⟨p,vs,rfl,upd_same,rl,by first | rfl | trivial⟩
/-- {} -/
def Fl : AE:=fun _ ρ Q=>Q (.dic []) ρ
theorem P9 : QE X P (.Dict [] [] pos) Fl:=⟨_,pe_dnewK,fun c EA ho hw τ S H σ ρ Q R s q k p hp=>k _ _ ⟨S,ρ,.dic [],s.alloc hp rfl (by
  simp only [RepA]
  exact ⟨p,[],rfl,upd_same,by simp only [RepK],by first | rfl | trivial⟩),q⟩⟩
/-- a built-in called by its name -/
def aCB (ra : ARs) (aa : AA) : AE:=fun EA ρ Q=>aa EA ρ fun xs ρ1=>ra xs ρ1 Q
theorem Ts {r : List V → Hp → VK → Prop} {ra : ARs} {ta : TA} {aa : AA} (hr : Wm K r ra) (h : Zn K P ta aa) : Yw K P (tCB r ta) (aCB ra aa):=fun c EA ho hw τ S H σ ρ Q R s q k =>
  h c EA ho hw τ S H σ ρ _ _ s q (fun vs H1 ⟨S1,ρ1,xs,hl,s1,q1⟩=>hr c τ S1 H1 σ ρ1 vs xs Q R hl s1 q1 k)
theorem Ua {x : Str} {id : String} {e : Expr} {es : List Expr} {aa : AA} {r : List V → Hp → VK → Prop} {ra : ARs} {p : Pos} (hc : CallR X (.builtin id) r) (hr : Wm X.K r ra) (hg : Gl X x) (hm : X.mg x = none) (hv : bootBuiltins x = some (.builtin id)) (ha : QA X P (e :: es) aa) (hn : x ≠ "__name__":=by decide) (hdb : (x == ("__debug__" : Str)) = false:=by decide) (he : starEach (e :: es) X.env = (false,eval e X.env) :: starEach es X.env:=by rfl) (hpl : (backTo pos (starEach es X.env)).any (·.1) = false:=by rfl) :
    QE X P (.Call (.Name x p) (e :: es) [] pos) (aCB ra aa):=let ⟨_,pa,sa⟩:=ha.ex; ⟨_,pe_callB hc hg hm hv pa hn hdb he hpl,Ts hr sa⟩
theorem W2 {x : Str} {T : String} {e : Expr} {es : List Expr} {aa : AA} {r : List V → Hp → VK → Prop} {ra : ARs} {p : Pos} (hc : CallR X (.type T) r) (hr : Wm X.K r ra) (hg : Gl X x) (hm : X.mg x = none) (hv : bootBuiltins x = some (.type T)) (ha : QA X P (e :: es) aa) (hn : x ≠ "__name__":=by decide) (hdb : (x == ("__debug__" : Str)) = false:=by decide) (he : starEach (e :: es) X.env = (false,eval e X.env) :: starEach es X.env:=by rfl) (hpl : (backTo pos (starEach es X.env)).any (·.1) = false:=by rfl) :
    QE X P (.Call (.Name x p) (e :: es) [] pos) (aCB ra aa):=let ⟨_,pa,sa⟩:=ha.ex; ⟨_,pe_callTy hc hg hm hv pa hn hdb he hpl,Ts hr sa⟩
end
end Vs
namespace Vs
open PySem L2
variable [Tbs]
mutual
def pd : D → PyData
  | .non=>.none
  | .bl b=>.bool b
  | .int i=>.int i
  | .str x=>.str x
  | .lst xs=>.list (pdL xs)
  | .tup xs=>.tuple (pdL xs)
  | .ty _=>.none
  | .dic _=>.none
  | .obj _ _=>.none
  | .any=>.none
def pdL : List D → List PyData
  | []=>[]
  | x :: xs=>pd x :: pdL xs
end
/-- no dicts,no instances,nested at most n deep -/
def PlD : Nat → D → Prop
  | _,.non=>True
  | _,.bl _=>True
  | _,.int _=>True
  | _,.str _=>True
  | 0,.lst _=>False
  | 0,.tup _=>False
  | n + 1,.lst xs=>∀ x ∈ xs,PlD n x
  | n + 1,.tup xs=>∀ x ∈ xs,PlD n x
  | _,.ty _=>False
  | _,.dic _=>False
  | _,.obj _ _=>False
  | _,.any=>False
mutual
def deq : D → D → Bool
  | .non,.non=>true
  | .bl a,.bl b=>a == b
  | .bl a,.int j=>(if a then 1 else 0) == j
  | .int i,.bl b=>i == (if b then 1 else 0)
  | .int i,.int j=>i == j
  | .str x,.str y=>x == y
  | .lst xs,.lst ys=>We xs ys
  | .tup xs,.tup ys=>We xs ys
  | _,_=>false
def We : List D → List D → Bool
  | [],[]=>true
  | x :: xs,y :: ys=>deq x y && We xs ys
  | _,_=>false
end
theorem Az : ∀ xs : List D,pdL xs = xs.map pd
  | []=>rfl
  | x :: xs=>by simp only [pdL,List.map_cons,Az xs]
mutual
theorem F1 : ∀ (n : Nat) (d e : D),PlD n d → PlD n e → deq d e = PyData.eqv (pd d) (pd e)
  | n,d,e,hd,he=>by
    cases d <;> cases e <;> first
      | (simp only [deq,pd,PyData.eqv]; done)
      | (cases n <;> simp only [PlD] at hd he; done)
      | skip
    · rename_i xs ys
      cases n with
      | zero=>simp only [PlD] at hd
      | succ n =>
        simp only [PlD] at hd he
        simp only [deq,pd,PyData.eqv]
        exact N3 n xs ys hd he
    · rename_i xs ys
      cases n with
      | zero=>simp only [PlD] at hd
      | succ n =>
        simp only [PlD] at hd he
        simp only [deq,pd,PyData.eqv]
        exact N3 n xs ys hd he
theorem N3 : ∀ (n : Nat) (xs ys : List D),(∀ x ∈ xs,PlD n x) → (∀ x ∈ ys,PlD n x) → We xs ys = PyData.eqvAll (pdL xs) (pdL ys)
  | n,[],[],_,_=>by simp only [We,pdL,PyData.eqvAll]
  | n,[],_ :: _,_,_=>by simp only [We,pdL,PyData.eqvAll]
  | n,_ :: _,[],_,_=>by simp only [We,pdL,PyData.eqvAll]
  | n,x :: xs,y :: ys,h1,h2=>by
    simp only [We,pdL,PyData.eqvAll]
    rw [F1 n x y (h1 x (by simp)) (h2 y (by simp)),N3 n xs ys (fun z hz=>h1 z (by simp [hz])) (fun z hz=>h2 z (by simp [hz]))]
end
mutual
theorem W9 : ∀ (n : Nat) (d : D),PlD n d → (pd d).plain = true ∧ (pd d).depth ≤ n
  | n,d,h=>by
    cases d <;> first
      | (simp only [pd,PyData.plain,PyData.depth]; exact ⟨rfl,Nat.zero_le _⟩)
      | (simp only [pd,PyData.plain,PyData.depth]; exact ⟨trivial,Nat.zero_le _⟩)
      | (cases n <;> simp only [PlD] at h; done)
      | skip
    · rename_i xs
      cases n with
      | zero=>simp only [PlD] at h
      | succ n =>
        simp only [PlD] at h
        obtain ⟨h1,h2⟩:=Xq n xs h
        simp only [pd,PyData.plain,PyData.depth]
        exact ⟨h1,by omega⟩
    · rename_i xs
      cases n with
      | zero=>simp only [PlD] at h
      | succ n =>
        simp only [PlD] at h
        obtain ⟨h1,h2⟩:=Xq n xs h
        simp only [pd,PyData.plain,PyData.depth]
        exact ⟨h1,by omega⟩
theorem Xq : ∀ (n : Nat) (xs : List D),(∀ x ∈ xs,PlD n x) → PyData.plainAll (pdL xs) = true ∧ PyData.depthAll (pdL xs) ≤ n
  | n,[],_=>by simp only [pdL,PyData.plainAll,PyData.depthAll]; exact ⟨trivial,Nat.zero_le _⟩
  | n,x :: xs,h=>by
    obtain ⟨h1,h2⟩:=W9 n x (h x (by simp))
    obtain ⟨h3,h4⟩:=Xq n xs fun z hz=>h z (by simp [hz])
    simp only [pdL,PyData.plainAll,PyData.depthAll,h1,h3]
    exact ⟨rfl,Nat.max_le.mpr ⟨h2,h4⟩⟩
end
section
variable {K : Fg} {H : Hp}
mutual
theorem Vn : ∀ (n : Nat) (d : D) (v : V),PlD n d → Rep K H d v → Dp K H v (pd d)
  | n,d,v,h,r=>by
    cases d <;> first
      | (simp only [Rep] at r; subst r; simp only [pd]; first | exact .non | exact .bl _ | exact .int _ | exact .str _)
      | (cases n <;> simp only [PlD] at h; done)
      | skip
    · rename_i xs
      cases n with
      | zero=>simp only [PlD] at h
      | succ n =>
        simp only [PlD] at h
        simp only [Rep] at r
        obtain ⟨a,vs,rfl,h1,h2⟩:=r
        simp only [pd]
        exact .lst h1 (Oq n xs vs h h2)
    · rename_i xs
      cases n with
      | zero=>simp only [PlD] at h
      | succ n =>
        simp only [PlD] at h
        simp only [Rep] at r
        obtain ⟨a,vs,rfl,h1,h2⟩:=r
        simp only [pd]
        exact .tup h1 (Oq n xs vs h h2)
theorem Oq : ∀ (n : Nat) (xs : List D) (vs : List V),(∀ x ∈ xs,PlD n x) → RepL K H xs vs → DpAll K H vs (pdL xs)
  | n,[],vs,_,r=>by
    simp only [RepL] at r
    subst r
    simp only [pdL]
    exact .nil
  | n,x :: xs,vs,h,r=>by
    simp only [RepL] at r
    obtain ⟨v,w,rfl,r1,r2⟩:=r
    simp only [pdL]
    exact .cons (Vn n x v (h x (by simp)) r1) (Oq n xs w (fun z hz=>h z (by simp [hz])) r2)
end
end
section
variable {K : Fg} {c : Ctx} {S H : Hp} {σ : L2.St} {ρ : J0} {τ : List (V × A)} {v : V} {x y : A} {i : Nat} {P : Pm}
theorem Stt.thing {d : D} (s : Stt K c S H σ ρ τ) (m : (v,x) ∈ τ) (h : Vs.dat x ρ = some d) : ∃ y g,RepA K S H y v g ∧ y.toD = d:=by
  obtain ⟨fp,h1,_,_⟩:=s.own
  cases hx : Y4 x with
  | false =>
    cases hp : JJn x with
    | false =>
      have e : x.toD = d:=by
        cases x <;> first | exact Option.some.inj h | (cases hx; done) | (cases hp; done)
      have m2 : (v,x) ∈ Ji ρ σ ++ Jg τ:=List.mem_append_right _ (List.mem_filter.mpr ⟨m,by cases x <;> first | rfl | cases hx⟩)
      obtain ⟨g,a1,_⟩:=h1.pick m2
      exact ⟨x,g,a1,e⟩
    | true =>
      cases x with
      | pth i p w =>
        simp only [Vs.dat] at h
        split at h
        · rename_i t ht
          obtain ⟨n,e1,e2⟩:=Dj h
          obtain ⟨g,a1,_⟩:=s.atP m ht e1
          exact ⟨n,g,a1,e2⟩
        · cases h
      | _=>cases hp
  | true =>
    cases x with
    | loc i =>
      obtain ⟨hv,y,hy⟩:=s.loc v i m
      have e : y.toD = d:=by
        simp only [Vs.dat,hy] at h
        exact Option.some.inj h
      obtain ⟨f1,f2,q1,q2,q3⟩:=h1.append
      obtain ⟨fq,z1,z2⟩:=RepP.perm (Wh hy hv) q1
      obtain ⟨g,h',a1,_,_⟩:=z1
      exact ⟨y,g,a1,e⟩
    | _=>cases hx
theorem Vy {g : List Addr} {xs : List D} (r : RepA K S H y v g) (e : y.toD = .lst xs) (hl : Le S H) : ∃ a vs,v = .ref a ∧ SqL K H a vs ∧ RepL K S xs vs:=by
  cases y with
  | v d =>
    simp only [A.toD] at e
    subst e
    simp only [RepA,Rep] at r
    obtain ⟨⟨a,vs,h1,h2,h3⟩,_⟩:=r
    exact ⟨a,vs,h1,SqL.le hl h2,h3⟩
  | lst ys =>
    simp only [A.toD] at e
    injection e with e
    subst e
    simp only [RepA] at r
    obtain ⟨a,vs,h1,h2,h3,_⟩:=r
    exact ⟨a,vs,h1,SqL.of h2,h3⟩
  | dic ys=>simp only [A.toD] at e; cases e
  | obj C ys=>simp only [A.toD] at e; cases e
  | nl ys=>simp only [A.toD] at e; cases e
  | nd ys=>simp only [A.toD] at e; cases e
  | nt ys=>simp only [A.toD] at e; cases e
  | cel w x=>simp only [A.toD] at e; cases e
  | pth i p w=>simp only [A.toD] at e; cases e
  | loc i=>simp only [RepA] at r
theorem X9 {g : List Addr} {xs : List D} (r : RepA K S H y v g) (e : y.toD = .tup xs) (hl : Le S H) : ∃ a vs,v = .ref a ∧ SqT K S a vs ∧ SqT K H a vs ∧ RepL K S xs vs:=by
  cases y with
  | v d =>
    simp only [A.toD] at e
    subst e
    simp only [RepA,Rep] at r
    obtain ⟨⟨a,vs,h1,h2,h3⟩,_⟩:=r
    exact ⟨a,vs,h1,h2,SqT.le hl h2,h3⟩
  | lst ys=>simp only [A.toD] at e; cases e
  | dic ys=>simp only [A.toD] at e; cases e
  | obj C ys=>simp only [A.toD] at e; cases e
  | nl ys=>simp only [A.toD] at e; cases e
  | nd ys=>simp only [A.toD] at e; cases e
  | nt ys=>simp only [A.toD] at e; cases e
  | cel w x=>simp only [A.toD] at e; cases e
  | pth i p w=>simp only [A.toD] at e; cases e
  | loc i=>simp only [RepA] at r
theorem Gv {g : List Addr} {xs : List (Key × D)} (r : RepA K S H y v g) (e : y.toD = .dic xs) (hl : Le S H) : ∃ a ws,v = .ref a ∧ Rd H a (.dK ws) ∧ RepK K S xs ws:=by
  cases y with
  | v d =>
    simp only [A.toD] at e
    subst e
    simp only [RepA,Rep] at r
    obtain ⟨⟨a,vs,h1,h2,h3⟩,_⟩:=r
    exact ⟨a,vs,h1,Rd.le hl (.inr (.inr ⟨_,rfl⟩)) h2,h3⟩
  | dic ys =>
    simp only [A.toD] at e
    injection e with e
    subst e
    simp only [RepA] at r
    obtain ⟨a,vs,h1,h2,h3,_⟩:=r
    exact ⟨a,vs,h1,.inl h2,h3⟩
  | lst ys=>simp only [A.toD] at e; cases e
  | obj C ys=>simp only [A.toD] at e; cases e
  | nl ys=>simp only [A.toD] at e; cases e
  | nd ys=>simp only [A.toD] at e; cases e
  | nt ys=>simp only [A.toD] at e; cases e
  | cel w x=>simp only [A.toD] at e; cases e
  | pth i p w=>simp only [A.toD] at e; cases e
  | loc i=>simp only [RepA] at r
theorem RepL.len : ∀ {xs : List D} {vs : List V},RepL K S xs vs → vs.length = xs.length
  | [],vs,h=>by simp only [RepL] at h; rw [h]; rfl
  | x :: xs,vs,h=>by
    simp only [RepL] at h
    obtain ⟨v,r,rfl,_,h2⟩:=h
    simp [RepL.len h2]
theorem RepL.get : ∀ {xs : List D} {vs : List V} {i : Nat} {d : D},RepL K S xs vs → xs[i]? = some d → ∃ v,vs[i]? = some v ∧ Rep K S d v
  | [],vs,i,d,_,h=>by simp at h
  | x :: xs,vs,i,d,h,e=>by
    simp only [RepL] at h
    obtain ⟨v,r,rfl,h1,h2⟩:=h
    cases i with
    | zero =>
      have : x = d:=by simpa using e
      subst this
      exact ⟨v,by simp,h1⟩
    | succ i =>
      obtain ⟨w,e1,e2⟩:=RepL.get (i:=i) h2 (by simpa using e)
      exact ⟨w,by simpa using e1,e2⟩
theorem RepL.at {xs : List D} {vs : List V} {j : Int} {d : D} (h : RepL K S xs vs) (e : atI xs j = some d) : ∃ v,atI vs j = some v ∧ Rep K S d v:=by
  unfold atI at e ⊢
  rw [h.len]
  cases q : ixN xs.length j with
  | none=>rw [q] at e; cases e
  | some n =>
    rw [q] at e
    exact h.get e
theorem RepL.set : ∀ {xs : List D} {vs : List V} {d : D} {v : V} (i : Nat),RepL K S xs vs → Rep K S d v → RepL K S (xs.set i d) (vs.set i v)
  | [],vs,d,v,i,h,_=>by
    simp only [RepL] at h
    subst h
    simp [RepL]
  | x :: xs,vs,d,v,0,h,hr=>by
    simp only [RepL] at h
    obtain ⟨w,r,rfl,h1,h2⟩:=h
    simp only [List.set_cons_zero,RepL]
    exact ⟨v,r,rfl,hr,h2⟩
  | x :: xs,vs,d,v,i + 1,h,hr=>by
    simp only [RepL] at h
    obtain ⟨w,r,rfl,h1,h2⟩:=h
    simp only [List.set_cons_succ,RepL]
    exact ⟨w,r.set i v,rfl,h1,RepL.set i h2 hr⟩
theorem RepL.app : ∀ {xs ys : List D} {vs ws : List V},RepL K S xs vs → RepL K S ys ws → RepL K S (xs ++ ys) (vs ++ ws)
  | [],ys,vs,ws,h,h'=>by
    simp only [RepL] at h
    subst h
    exact h'
  | x :: xs,ys,vs,ws,h,h'=>by
    simp only [RepL] at h
    obtain ⟨v,r,rfl,h1,h2⟩:=h
    simp only [List.cons_append,RepL]
    exact ⟨v,r ++ ws,rfl,h1,RepL.app h2 h'⟩
theorem RepL.take : ∀ {xs : List D} {vs : List V} (n : Nat),RepL K S xs vs → RepL K S (xs.take n) (vs.take n)
  | xs,vs,0,_=>by simp [RepL]
  | [],vs,n + 1,h=>by
    simp only [RepL] at h
    subst h
    simp [RepL]
  | x :: xs,vs,n + 1,h=>by
    simp only [RepL] at h
    obtain ⟨v,r,rfl,h1,h2⟩:=h
    simp only [List.take_succ_cons,RepL]
    exact ⟨v,r.take n,rfl,h1,RepL.take n h2⟩
theorem RepL.drop : ∀ {xs : List D} {vs : List V} (n : Nat),RepL K S xs vs → RepL K S (xs.drop n) (vs.drop n)
  | xs,vs,0,h=>by simpa using h
  | [],vs,n + 1,h=>by
    simp only [RepL] at h
    subst h
    simp [RepL]
  | x :: xs,vs,n + 1,h=>by
    simp only [RepL] at h
    obtain ⟨v,r,rfl,h1,h2⟩:=h
    simp only [List.drop_succ_cons]
    exact RepL.drop n h2
def valD : List (Key × D) → Key → Option D
  | [],_=>none
  | (k',x) :: r,k=>if k' = k then some x else valD r k
def putD (kvs : List (Key × D)) (k : Key) (d : D) : List (Key × D):=if (kvs.any fun p=>decide (p.1 = k)) = true then kvs.map (fun p=>if p.1 = k then (p.1,d) else p) else kvs ++ [(k,d)]
/-- a datum as a key -/
def keyD : D → Option Key
  | .int i=>some (.inl i)
  | .str x=>some (.inr x)
  | _=>none
theorem X3 {d : D} {k : Key} {v : V} (h : keyD d = some k) (r : Rep K S d v) : v = kV k:=by
  cases d <;> simp [keyD] at h <;> subst h <;> simpa only [Rep,kV] using r
theorem RepK.val : ∀ {kvs : List (Key × D)} {ws : List (Key × V)} {k : Key},RepK K S kvs ws → (valD kvs k = none ∧ valV ws k = none) ∨ ∃ d v,valD kvs k = some d ∧ valV ws k = some v ∧ Rep K S d v
  | [],ws,k,h=>by
    simp only [RepK] at h
    subst h
    exact .inl ⟨rfl,rfl⟩
  | (k',x) :: r,ws,k,h=>by
    simp only [RepK] at h
    obtain ⟨v,r',rfl,h1,h2⟩:=h
    by_cases e : k' = k
    · exact .inr ⟨x,v,by simp [valD,e],by simp [valV,List.find?_cons,e],h1⟩
    · have e1 : valD ((k',x) :: r) k = valD r k:=by simp [valD,e]
      have e2 : valV ((k',v) :: r') k = valV r' k:=by simp [valV,List.find?_cons,e]
      rw [e1,e2]
      exact RepK.val h2
theorem RepK.len : ∀ {kvs : List (Key × D)} {ws : List (Key × V)},RepK K S kvs ws → ws.length = kvs.length
  | [],ws,h=>by simp only [RepK] at h; rw [h]; rfl
  | (k',x) :: r,ws,h=>by
    simp only [RepK] at h
    obtain ⟨v,r',rfl,h1,h2⟩:=h
    simp [RepK.len h2]
theorem RepK.any : ∀ {kvs : List (Key × D)} {ws : List (Key × V)} (k : Key),RepK K S kvs ws → (ws.any fun p=>decide (p.1 = k)) = kvs.any fun p=>decide (p.1 = k)
  | [],ws,k,h=>by simp only [RepK] at h; rw [h]; rfl
  | (k',x) :: r,ws,k,h=>by
    simp only [RepK] at h
    obtain ⟨v,r',rfl,h1,h2⟩:=h
    simp only [List.any_cons,RepK.any k h2]
theorem RepK.mapk : ∀ {kvs : List (Key × D)} {ws : List (Key × V)} (k : Key) {d : D} {v : V},RepK K S kvs ws → Rep K S d v → RepK K S (kvs.map fun p=>if p.1 = k then (p.1,d) else p) (ws.map fun p=>if p.1 = k then (p.1,v) else p)
  | [],ws,k,d,v,h,_=>by
    simp only [RepK] at h
    subst h
    simp [RepK]
  | (k',x) :: r,ws,k,d,v,h,hr=>by
    simp only [RepK] at h
    obtain ⟨w,r',rfl,h1,h2⟩:=h
    have ih:=RepK.mapk k h2 hr
    simp only [List.map_cons]
    by_cases e : k' = k
    · simp only [e,if_true,RepK]
      exact ⟨v,_,rfl,hr,ih⟩
    · simp only [e,if_false,RepK]
      exact ⟨w,_,rfl,h1,ih⟩
theorem RepK.app : ∀ {kvs : List (Key × D)} {ws : List (Key × V)} (k : Key) {d : D} {v : V},RepK K S kvs ws → Rep K S d v → RepK K S (kvs ++ [(k,d)]) (ws ++ [(k,v)])
  | [],ws,k,d,v,h,hr=>by
    simp only [RepK] at h
    subst h
    simp only [List.nil_append,RepK]
    exact ⟨v,[],rfl,hr,rfl⟩
  | (k',x) :: r,ws,k,d,v,h,hr=>by
    simp only [RepK] at h
    obtain ⟨w,r',rfl,h1,h2⟩:=h
    simp only [List.cons_append,RepK]
    exact ⟨w,_,rfl,h1,RepK.app k h2 hr⟩
theorem RepK.put {kvs : List (Key × D)} {ws : List (Key × V)} (k : Key) {d : D} {v : V} (h : RepK K S kvs ws) (hr : Rep K S d v) : RepK K S (putD kvs k d) (putK ws k v):=by
  unfold putD putK
  rw [h.any k]
  split
  · exact h.mapk k hr
  · exact h.app k hr
end
section
variable {X : Cx} {K : Fg}
/-- numbers -/
def aI0 (g : Int → Int → D) : AR2:=fun x y ρ Q=>∃ i j,dat x ρ = some (.int i) ∧ dat y ρ = some (.int j) ∧ Q (.v (g i j)) ρ
def aI (C : Int → Int → Prop) (g : Int → Int → D) : AR2:=fun x y ρ Q=>∃ i j,dat x ρ = some (.int i) ∧ dat y ρ = some (.int j) ∧ C i j ∧ Q (.v (g i j)) ρ
theorem Wu {c : Ctx} {S H : Hp} {σ : L2.St} {ρ : J0} {τ : List (V × A)} {vx vy : V} {x y : A} {d e : D} (s : Stt K c S H σ ρ ((vy,y) :: (vx,x) :: τ)) (h1 : dat x ρ = some d) (h2 : dat y ρ = some e) : Rep K H d vx ∧ Rep K H e vy :=
  ⟨s.dat (List.mem_cons_of_mem _ (List.mem_cons_self ..)) h1,s.dat (List.mem_cons_self ..) h2⟩
theorem KE.sc {c : Ctx} {S H : Hp} {σ : L2.St} {ρ : J0} {τ : List (V × A)} {d : D} {v : V} {Q : AK} (s : Stt K c S H σ ρ τ) (h : Vs.sc d = some v) (q : Q (.v d) ρ) : KE K c σ τ Q v H:=⟨S,ρ,.v d,s.hold (Z0 h),q⟩
theorem Bu {g : Int → Int → V} {g' : Int → Int → D} (h : ∀ i j,sc (g' i j) = some (g i j)) : Yj K (rI0 g) (aI0 g'):=by
  intro c τ S H σ ρ vx vy x y Q R s q k
  obtain ⟨i,j,h1,h2,q⟩:=q
  obtain ⟨r1,r2⟩:=Wu s h1 h2
  simp only [Rep] at r1 r2
  exact ⟨i,j,r1,r2,k _ _ (KE.sc s.drop.drop (h i j) q)⟩
theorem Lh {C : Int → Int → Prop} {g : Int → Int → V} {g' : Int → Int → D} (h : ∀ i j,sc (g' i j) = some (g i j)) : Yj K (rI C g) (aI C g'):=by
  intro c τ S H σ ρ vx vy x y Q R s q k
  obtain ⟨i,j,h1,h2,hc,q⟩:=q
  obtain ⟨r1,r2⟩:=Wu s h1 h2
  simp only [Rep] at r1 r2
  exact ⟨i,j,r1,r2,hc,k _ _ (KE.sc s.drop.drop (h i j) q)⟩
def JBx : AR2:=aI0 fun i j=>.int (i + j)
def L5 : AR2:=aI0 fun i j=>.int (i - j)
def Xl : AR2:=aI CMul fun i j=>.int (i * j)
def X4 : AR2:=aI (fun _ j=>0 < j) fun i j=>.int (i % j)
def M5 : AR2:=aI CPow fun i j=>.int (i ^ j.toNat)
def aLt : AR2:=aI0 fun i j=>.bl (decide (i < j))
def aLe : AR2:=aI0 fun i j=>.bl (decide (i ≤ j))
def aGt : AR2:=aI0 fun i j=>.bl (decide (j < i))
def aGe : AR2:=aI0 fun i j=>.bl (decide (j ≤ i))
theorem JXk : Yj K (rI0 fun i j=>.int (i + j)) JBx:=Bu fun _ _=>rfl
theorem JG4 : Yj K (rI0 fun i j=>.int (i - j)) L5:=Bu fun _ _=>rfl
theorem G4 : Yj K (rI CMul fun i j=>.int (i * j)) Xl:=Lh fun _ _=>rfl
theorem Hl : Yj K (rI (fun _ j=>0 < j) fun i j=>.int (i % j)) X4:=Lh fun _ _=>rfl
theorem JBl : Yj K (rI CPow fun i j=>.int (i ^ j.toNat)) M5:=Lh fun _ _=>rfl
theorem F5 : Yj K (rI0 fun i j=>.bl (decide (i < j))) aLt:=Bu fun _ _=>rfl
theorem Fu : Yj K (rI0 fun i j=>.bl (decide (i ≤ j))) aLe:=Bu fun _ _=>rfl
theorem L4 : Yj K (rI0 fun i j=>.bl (decide (j < i))) aGt:=Bu fun _ _=>rfl
theorem JGf : Yj K (rI0 fun i j=>.bl (decide (j ≤ i))) aGe:=Bu fun _ _=>rfl
def JFw : AR1:=fun x ρ Q=>∃ i,dat x ρ = some (.int i) ∧ Q (.v (.int (-i))) ρ
/-- == -/
def JVq (K : Fg) : R2:=fun x y H Q=>∃ d e,Rep K H d x ∧ Rep K H e y ∧ PlD 20 d ∧ PlD 20 e ∧ Q (.bl (deq d e)) H
def Sn (K : Fg) : R2:=fun x y H Q=>∃ d e,Rep K H d x ∧ Rep K H e y ∧ PlD 20 d ∧ PlD 20 e ∧ Q (.bl (!deq d e)) H
theorem or_eq (hu : X.A.units + 64 < cLine) : OpR X (compareOp .Eq) (JVq X.K):=by
  intro pins s σ H x y v u Q I rx ry h
  obtain ⟨d,e,hd,he,pd1,pe1,q⟩:=h
  obtain ⟨as,r1⟩:=Dp.reads I _ x v (Vn 20 d x pd1 hd) rx
  obtain ⟨bs,r2⟩:=Dp.reads I _ y u (Vn 20 e y pe1 he) ry
  obtain ⟨a1,a2⟩:=W9 20 d pd1
  obtain ⟨b1,b2⟩:=W9 20 e pe1
  refine SeqAt.eq_plain r1 r2 a1 b1 ?_ ⟨.bl _,H,I,rfl,?_⟩
  · have:=Nat.min_le_left (pd d).depth (pd e).depth
    omega
  · rw [← F1 20 d e pd1 pe1]; exact q
theorem Bv (hu : X.A.units + 64 < cLine) : OpR X (compareOp .NotEq) (Sn X.K):=by
  intro pins s σ H x y v u Q I rx ry h
  obtain ⟨d,e,hd,he,pd1,pe1,q⟩:=h
  obtain ⟨as,r1⟩:=Dp.reads I _ x v (Vn 20 d x pd1 hd) rx
  obtain ⟨bs,r2⟩:=Dp.reads I _ y u (Vn 20 e y pe1 he) ry
  obtain ⟨a1,a2⟩:=W9 20 d pd1
  obtain ⟨b1,b2⟩:=W9 20 e pe1
  refine SeqAt.ne_plain r1 r2 a1 b1 ?_ ⟨.bl _,H,I,rfl,?_⟩
  · have:=Nat.min_le_left (pd d).depth (pd e).depth
    omega
  · rw [← F1 20 d e pd1 pe1]; exact q
def aEq : AR2:=fun x y ρ Q=>∃ d e,dat x ρ = some d ∧ dat y ρ = some e ∧ PlD 20 d ∧ PlD 20 e ∧ Q (.v (.bl (deq d e))) ρ
def aNe : AR2:=fun x y ρ Q=>∃ d e,dat x ρ = some d ∧ dat y ρ = some e ∧ PlD 20 d ∧ PlD 20 e ∧ Q (.v (.bl (!deq d e))) ρ
theorem s_eq : Yj K (JVq K) aEq:=by
  intro c τ S H σ ρ vx vy x y Q R s q k
  obtain ⟨d,e,h1,h2,p1,p2,q⟩:=q
  obtain ⟨r1,r2⟩:=Wu s h1 h2
  exact ⟨d,e,r1,r2,p1,p2,k _ _ (KE.sc s.drop.drop rfl q)⟩
theorem Fb : Yj K (Sn K) aNe:=by
  intro c τ S H σ ρ vx vy x y Q R s q k
  obtain ⟨d,e,h1,h2,p1,p2,q⟩:=q
  obtain ⟨r1,r2⟩:=Wu s h1 h2
  exact ⟨d,e,r1,r2,p1,p2,k _ _ (KE.sc s.drop.drop rfl q)⟩
/-- is None -/
def isNon : D → Bool
  | .non=>true
  | _=>false
theorem JKl {H : Hp} {d : D} {v : V} (r : Rep K H d v) : decide (v = .non) = isNon d:=by
  cases d <;> simp only [Rep] at r <;> first
    | (subst r; rfl)
    | (obtain ⟨_,_,rfl,_⟩:=r; rfl)
    | (obtain ⟨_,_,_,rfl,_⟩:=r; rfl)
def aIs : AR2:=fun x y ρ Q=>∃ d,dat x ρ = some d ∧ dat y ρ = some .non ∧ Q (.v (.bl (isNon d))) ρ
def JKo : AR2:=fun x y ρ Q=>∃ d,dat x ρ = some d ∧ dat y ρ = some .non ∧ Q (.v (.bl (!isNon d))) ρ
theorem JM6 : Yj K (fun x y H Q=>y = .non ∧ Q (.bl (decide (x = .non))) H) aIs:=by
  intro c τ S H σ ρ vx vy x y Q R s q k
  obtain ⟨d,h1,h2,q⟩:=q
  obtain ⟨r1,r2⟩:=Wu s h1 h2
  simp only [Rep] at r2
  refine ⟨r2,?_⟩
  rw [JKl r1]
  exact k _ _ (KE.sc s.drop.drop rfl q)
/-- x in c -/
def InD (d e : D) (b : Bool) : Prop:=match e with
  | .lst xs=>PlD 20 d ∧ (∀ x ∈ xs,PlD 20 x) ∧ b = xs.any fun z=>deq z d
  | .tup xs=>PlD 20 d ∧ (∀ x ∈ xs,PlD 20 x) ∧ b = xs.any fun z=>deq z d
  | .dic kvs=>∃ k,keyD d = some k ∧ b = (valD kvs k).isSome
  | .str z=>∃ c,d = .str ⟨#[c]⟩ ∧ b = decide (c ∈ z.cps.toList)
  | _=>False
def Oc (K : Fg) (neg : Bool) : R2:=fun x y H Q=>∃ d e b,Rep K H d x ∧ Rep K H e y ∧ InD d e b ∧ Q (.bl (if neg then !b else b)) H
theorem Lb {xs : List D} {d : D} (hx : ∀ x ∈ xs,PlD 20 x) (hd : PlD 20 d) : ((pdL xs).any fun y=>PyData.eqv y (pd d)) = xs.any fun z=>deq z d:=by
  rw [Az,List.any_map]
  induction xs with
  | nil=>rfl
  | cons x xs ih =>
    have:=ih fun z hz=>hx z (by simp [hz])
    simp only [List.any_cons,Function.comp] at this ⊢
    rw [F1 20 x d (hx x (by simp)) hd,this]
theorem Cm (hu : X.A.units + 64 < cLine) : OpR X (compareOp .In) (Oc X.K false):=by
  intro pins s σ H x y v u Q I rx ry h
  obtain ⟨d,e,b,hd,he,hin,q⟩:=h
  cases e with
  | lst xs =>
    simp only [InD] at hin
    obtain ⟨p1,p2,rfl⟩:=hin
    obtain ⟨as,r1⟩:=Dp.reads I _ x v (Vn 20 d x p1 hd) rx
    obtain ⟨bs,r2⟩:=Dp.reads I _ y u (Vn 21 (.lst xs) y (by simpa only [PlD] using p2) he) ry
    obtain ⟨a1,a2⟩:=W9 20 d p1
    obtain ⟨b1,b2⟩:=Xq 20 xs p2
    simp only [pd] at r2
    refine SeqAt.in_list_data r2 r1 b1 a1 ?_ ⟨.bl _,H,I,rfl,?_⟩
    · have:=Nat.min_le_right (PyData.depthAll (pdL xs)) (pd d).depth
      omega
    · rw [Lb p2 p1]; exact q
  | tup xs =>
    simp only [InD] at hin
    obtain ⟨p1,p2,rfl⟩:=hin
    obtain ⟨as,r1⟩:=Dp.reads I _ x v (Vn 20 d x p1 hd) rx
    obtain ⟨bs,r2⟩:=Dp.reads I _ y u (Vn 21 (.tup xs) y (by simpa only [PlD] using p2) he) ry
    obtain ⟨a1,a2⟩:=W9 20 d p1
    obtain ⟨b1,b2⟩:=Xq 20 xs p2
    simp only [pd] at r2
    refine SeqAt.in_tuple_data r2 r1 b1 a1 ?_ ⟨.bl _,H,I,rfl,?_⟩
    · have:=Nat.min_le_right (PyData.depthAll (pdL xs)) (pd d).depth
      omega
    · rw [Lb p2 p1]; exact q
  | dic kvs =>
    simp only [InD] at hin
    obtain ⟨k,hk,rfl⟩:=hin
    simp only [Rep] at he
    obtain ⟨a,ws,rfl,h1,h2⟩:=he
    have ex:=X3 hk hd
    subst ex
    cases ry
    refine d_in (by omega) I (o:=valV ws k) (.inl ⟨ws,k,h1,rfl,rfl⟩) rx fun s' I'=>⟨.bl _,H,I',rfl,?_⟩
    rcases h2.val (k:=k) with ⟨e1,e2⟩ | ⟨d',v',e1,e2,_⟩ <;> (rw [e2]; rw [e1] at q; exact q)
  | str z =>
    simp only [InD] at hin
    obtain ⟨ch,rfl,rfl⟩:=hin
    simp only [Rep] at hd he
    exact op_in_sign pins s σ H x y v u Q I rx ry ⟨ch,z,hd,he,q⟩
  | non=>cases hin
  | bl _=>cases hin
  | int _=>cases hin
  | ty _=>cases hin
  | obj _ _=>cases hin
  | any=>cases hin
theorem JB0 (hu : X.A.units + 64 < cLine) : OpR X (compareOp .NotIn) (Oc X.K true):=by
  intro pins s σ H x y v u Q I rx ry h
  obtain ⟨d,e,b,hd,he,hin,q⟩:=h
  cases e with
  | lst xs =>
    simp only [InD] at hin
    obtain ⟨p1,p2,rfl⟩:=hin
    obtain ⟨as,r1⟩:=Dp.reads I _ x v (Vn 20 d x p1 hd) rx
    obtain ⟨bs,r2⟩:=Dp.reads I _ y u (Vn 21 (.lst xs) y (by simpa only [PlD] using p2) he) ry
    obtain ⟨a1,a2⟩:=W9 20 d p1
    obtain ⟨b1,b2⟩:=Xq 20 xs p2
    simp only [pd] at r2
    refine SeqAt.notIn_list_data r2 r1 b1 a1 ?_ ⟨.bl _,H,I,rfl,?_⟩
    · have:=Nat.min_le_right (PyData.depthAll (pdL xs)) (pd d).depth
      omega
    · rw [Lb p2 p1]; exact q
  | tup xs =>
    simp only [InD] at hin
    obtain ⟨p1,p2,rfl⟩:=hin
    obtain ⟨as,r1⟩:=Dp.reads I _ x v (Vn 20 d x p1 hd) rx
    obtain ⟨bs,r2⟩:=Dp.reads I _ y u (Vn 21 (.tup xs) y (by simpa only [PlD] using p2) he) ry
    obtain ⟨a1,a2⟩:=W9 20 d p1
    obtain ⟨b1,b2⟩:=Xq 20 xs p2
    simp only [pd] at r2
    refine SeqAt.notIn_tuple_data r2 r1 b1 a1 ?_ ⟨.bl _,H,I,rfl,?_⟩
    · have:=Nat.min_le_right (PyData.depthAll (pdL xs)) (pd d).depth
      omega
    · rw [Lb p2 p1]; exact q
  | dic kvs =>
    simp only [InD] at hin
    obtain ⟨k,hk,rfl⟩:=hin
    simp only [Rep] at he
    obtain ⟨a,ws,rfl,h1,h2⟩:=he
    have ex:=X3 hk hd
    subst ex
    cases ry
    refine d_notIn (by omega) I (o:=valV ws k) (.inl ⟨ws,k,h1,rfl,rfl⟩) rx fun s' I'=>⟨.bl _,H,I',rfl,?_⟩
    rcases h2.val (k:=k) with ⟨e1,e2⟩ | ⟨d',v',e1,e2,_⟩ <;> (rw [e2]; rw [e1] at q; exact q)
  | str z =>
    simp only [InD] at hin
    obtain ⟨ch,rfl,rfl⟩:=hin
    simp only [Rep] at hd he
    exact op_notIn_sign pins s σ H x y v u Q I rx ry ⟨ch,z,hd,he,q⟩
  | non=>cases hin
  | bl _=>cases hin
  | int _=>cases hin
  | ty _=>cases hin
  | obj _ _=>cases hin
  | any=>cases hin
def aIn (neg : Bool) : AR2:=fun x y ρ Q=>∃ d e b,dat x ρ = some d ∧ dat y ρ = some e ∧ InD d e b ∧ Q (.v (.bl (if neg then !b else b))) ρ
theorem Ph {neg : Bool} : Yj K (Oc K neg) (aIn neg):=by
  intro c τ S H σ ρ vx vy x y Q R s q k
  obtain ⟨d,e,b,h1,h2,hi,q⟩:=q
  obtain ⟨r1,r2⟩:=Wu s h1 h2
  exact ⟨d,e,b,r1,r2,hi,k _ _ (KE.sc s.drop.drop rfl q)⟩
end
end Vs
namespace Vs
open PySem L2
variable [Tbs]
section
variable {X : Cx} {P : Pm} {K : Fg} {a b e : Expr} {pos : Pos} {aa ab : AE}
def ItD (d i z : D) : Prop:=match d with
  | .lst xs=>∃ j,i = .int j ∧ atI xs j = some z
  | .tup xs=>∃ j,i = .int j ∧ atI xs j = some z
  | .str x=>∃ j ch,i = .int j ∧ x.length ≤ 100000 ∧ atI x.cps.toList j = some ch ∧ z = .str ⟨#[ch]⟩
  | _=>False
def JHy : AR2:=fun x y ρ Q=>∃ d i z,dat x ρ = some d ∧ dat y ρ = some i ∧ ItD d i z ∧ Q (.v z) ρ
theorem JGw : Yj K (rIx K) JHy:=by
  intro c τ S H σ ρ vx vy x y Q R s q k
  obtain ⟨d,i,z,h1,h2,hi,q⟩:=q
  obtain ⟨y0,g,r0,e0⟩:=s.thing (List.mem_cons_of_mem _ (List.mem_cons_self ..)) h1
  have r2:=(Wu s h1 h2).2
  cases d with
  | lst xs =>
    simp only [ItD] at hi
    obtain ⟨j,rfl,hj⟩:=hi
    obtain ⟨p,vs,rfl,h3,h4⟩:=Vy r0 e0 s.le
    simp only [Rep] at r2
    obtain ⟨w,e1,e2⟩:=h4.at hj
    exact .inl ⟨p,vs,j,w,rfl,r2,h3,e1,k _ _ ⟨S,ρ,.v z,s.drop.drop.hold e2,q⟩⟩
  | tup xs =>
    simp only [ItD] at hi
    obtain ⟨j,rfl,hj⟩:=hi
    obtain ⟨p,vs,rfl,_,h3,h4⟩:=X9 r0 e0 s.le
    simp only [Rep] at r2
    obtain ⟨w,e1,e2⟩:=h4.at hj
    exact .inr (.inl ⟨p,vs,j,w,rfl,r2,h3,e1,k _ _ ⟨S,ρ,.v z,s.drop.drop.hold e2,q⟩⟩)
  | str t =>
    simp only [ItD] at hi
    obtain ⟨j,ch,rfl,hl,hj,rfl⟩:=hi
    have r1:=(Wu s h1 h2).1
    simp only [Rep] at r1 r2
    exact .inr (.inr ⟨t,j,ch,r1,r2,Nat.le_trans hl (by decide),hj,k _ _ (KE.sc s.drop.drop rfl q)⟩)
  | non=>cases hi
  | bl _=>cases hi
  | int _=>cases hi
  | ty _=>cases hi
  | dic _=>cases hi
  | obj _ _=>cases hi
  | any=>cases hi
/-- d[k] -/
def JGr : AR2:=fun x y ρ Q=>∃ kvs i k z,dat x ρ = some (.dic kvs) ∧ dat y ρ = some i ∧ keyD i = some k ∧ valD kvs k = some z ∧ Q (.v z) ρ
/-- d.get(k) -/
def JMw (aa ab : AE) : AE:=fun EA ρ Q=>aa EA ρ fun x ρ1=>(∃ kvs,dat x ρ1 = some (.dic kvs)) ∧ ab EA ρ1 fun y ρ2=>∃ kvs i k,dat x ρ2 = some (.dic kvs) ∧ dat y ρ2 = some i ∧ keyD i = some k ∧ Q (.v ((valD kvs k).getD .non)) ρ2
abbrev AO:=AX → J0 → (Option Int → J0 → Prop) → Prop
structure QO (X : Cx) (P : Pm) (e : Option Expr) (ao : AO) : Prop where
  ex : ∃ t,PO X e t ∧ ∀ c EA,OsIn X.K c P.O → XOk X.K c P.W EA → ∀ τ S H σ ρ Q (R : Option Int → Hp → Prop),Stt X.K c S H σ ρ τ → ao EA ρ Q → (∀ o H',(∃ S' ρ',Stt X.K c S' H' σ ρ' τ ∧ Q o ρ') → R o H') → t σ H R
def Zh : AO:=fun _ ρ Q=>Q none ρ
def Ze (ae : AE) : AO:=fun EA ρ Q=>ae EA ρ fun x ρ1=>∃ i,dat x ρ1 = some (.int i) ∧ Q (some i) ρ1
theorem B2 : QO X P none Zh:=⟨_,po_none,fun c EA _ _ τ S H σ ρ Q R s q k=>k _ _ ⟨S,ρ,s,q⟩⟩
theorem Xp (ha : QE X P a aa) : QO X P (some a) (Ze aa):=by
  obtain ⟨ta,pa,sa⟩:=ha.ex
  refine ⟨_,po_some pa,fun c EA ho hw τ S H σ ρ Q R s q k=>sa c EA ho hw τ S H σ ρ _ _ s q fun vx H1 ⟨S1,ρ1,x,s1,i,h1,q1⟩=>?_⟩
  have r:=s1.dat (List.mem_cons_self ..) h1
  simp only [Rep] at r
  exact ⟨i,r,k _ _ ⟨S1,ρ1,s1.drop,q1⟩⟩
def cutD (xs : List D) (lo hi : Option Int) : List D:=(xs.drop (HT.sIx xs.length 0 lo)).take (HT.sIx xs.length xs.length hi - HT.sIx xs.length 0 lo)
theorem RepL.cut {S : Hp} {xs : List D} {vs : List V} (lo hi : Option Int) (h : RepL K S xs vs) : RepL K S (cutD xs lo hi) (cutV vs lo hi):=by
  unfold cutD cutV
  rw [h.len]
  exact (h.drop _).take _
def Zg (aa : AE) (al ah : AO) : AE:=fun EA ρ Q=>aa EA ρ fun x ρ1=>al EA ρ1 fun lo ρ2=>ah EA ρ2 fun hi ρ3=>∃ d,dat x ρ3 = some d ∧ match d with
  | .lst xs=>Q (.lst (cutD xs lo hi)) ρ3
  | .tup xs=>Q (.v (.tup (cutD xs lo hi))) ρ3
  | _=>False
theorem JGq {vs : List V} {lo hi : Option Int} (h1 : HT.sIx vs.length 0 lo = 0) (h2 : HT.sIx vs.length vs.length hi = vs.length) : cutV vs lo hi = vs:=by
  unfold cutV
  rw [h1,h2]
  simp
theorem Bc {lo hi : Option Expr} {p2 : Pos} {al ah : AO} (ha : QE X P a aa) (hl : QO X P lo al) (hh : QO X P hi ah) : QE X P (.Subscript a (.Slice lo hi none p2) pos) (Zg aa al ah):=by
  obtain ⟨ta,pa,sa⟩:=ha.ex
  obtain ⟨tl,pl,sl⟩:=hl.ex
  obtain ⟨th,ph,sh⟩:=hh.ex
  refine ⟨_,pe_slice (SlR.or sl_list sl_tupA) pa pl ph,fun c EA ho hw τ S H σ ρ Q R s q k=>sa c EA ho hw τ S H σ ρ _ _ s q fun vx H1 ⟨S1,ρ1,x,s1,q1⟩ =>
    sl c EA ho hw _ S1 H1 σ ρ1 _ _ s1 q1 fun l H2 ⟨S2,ρ2,s2,q2⟩=>sh c EA ho hw _ S2 H2 σ ρ2 _ _ s2 q2 fun u H3 ⟨S3,ρ3,s3,d,h1,q3⟩=>?_⟩
  obtain ⟨y0,g,r0,e0⟩:=s3.thing (List.mem_cons_self ..) h1
  cases d with
  | lst xs =>
    obtain ⟨p,vs,rfl,h5,h6⟩:=Vy r0 e0 s3.le
    refine .inl ⟨p,vs,rfl,h5,fun pn hp=>k _ _ ⟨S3,ρ3,.lst (cutD xs l u),s3.drop.alloc hp rfl ?_,q3⟩⟩
    simp only [RepA]
    exact ⟨pn,_,rfl,upd_same,h6.cut l u,by first | rfl | trivial⟩
  | tup xs =>
    obtain ⟨p,vs,rfl,h4,h5,h6⟩:=X9 r0 e0 s3.le
    refine .inr ⟨p,vs,rfl,h5,fun hw2=>k _ _ ⟨S3,ρ3,.v (.tup (cutD xs l u)),s3.drop.hold ?_,q3⟩,fun _ pn hp=>?_⟩
    · have e1:=h6.cut l u
      rw [JGq hw2.1 hw2.2] at e1
      simp only [Rep]
      exact ⟨p,vs,rfl,h4,e1⟩
    · have f1:=(s3.fresh hp).1
      refine k _ _ ⟨_,ρ3,.v (.tup (cutD xs l u)),s3.drop.share (o:=.tup (cutV vs l u)) hp ?_,q3⟩
      simp only [Rep]
      exact ⟨pn,_,rfl,SqT.of upd_same,RepL.le (Le.of_same (Same.up f1)) _ _ (h6.cut l u)⟩
  | non=>cases q3
  | bl _=>cases q3
  | int _=>cases q3
  | str _=>cases q3
  | ty _=>cases q3
  | dic _=>cases q3
  | obj _ _=>cases q3
  | any=>cases q3
def JZr : AR2:=fun x y ρ Q=>∃ i j,dat x ρ = some (.str i) ∧ dat y ρ = some (.str j) ∧ i.length + j.length ≤ 100000 ∧ Q (.v (.str (i ++ j))) ρ
theorem JGk : Yj K (fun x y H Q=>∃ i j,x = .str i ∧ y = .str j ∧ i.length + j.length ≤ sizeLine ∧ Q (.str (i ++ j)) H) JZr:=by
  intro c τ S H σ ρ vx vy x y Q R s q k
  obtain ⟨i,j,h1,h2,hc,q⟩:=q
  obtain ⟨r1,r2⟩:=Wu s h1 h2
  simp only [Rep] at r1 r2
  exact ⟨i,j,r1,r2,Nat.le_trans hc (by decide),k _ _ (KE.sc s.drop.drop rfl q)⟩
/-- tuples,lists -/
def JK5 : AR2:=fun x y ρ Q=>∃ xs ys,dat x ρ = some (.tup xs) ∧ dat y ρ = some (.tup ys) ∧ xs.length + ys.length ≤ 100000 ∧ Q (.v (.tup (xs ++ ys))) ρ
theorem JMy : Yj K (rCatA K) JK5:=by
  intro c τ S H σ ρ vx vy x y Q R s q k
  obtain ⟨xs,ys,h1,h2,hc,q⟩:=q
  obtain ⟨y0,g,r0,e0⟩:=s.thing (List.mem_cons_of_mem _ (List.mem_cons_self ..)) h1
  obtain ⟨y1,g1,r1,e1⟩:=s.thing (List.mem_cons_self ..) h2
  obtain ⟨p,vs,rfl,a1,a2,a3⟩:=X9 r0 e0 s.le
  obtain ⟨p',vs',rfl,b1,b2,b3⟩:=X9 r1 e1 s.le
  have ab:=a3.app b3
  refine ⟨p,p',vs,vs',rfl,rfl,a2,b2,by rw [a3.len,b3.len]; exact Nat.le_trans hc (by decide),fun z=>?_,fun z1 z2=>?_,fun z1 z2 pn hp=>?_⟩
  · rw [z] at ab
    refine k _ _ ⟨S,ρ,.v (.tup (xs ++ ys)),s.drop.drop.hold ?_,q⟩
    simp only [Rep]
    exact ⟨p',vs',rfl,b1,ab⟩
  · rw [z2,List.append_nil] at ab
    refine k _ _ ⟨S,ρ,.v (.tup (xs ++ ys)),s.drop.drop.hold ?_,q⟩
    simp only [Rep]
    exact ⟨p,vs,rfl,a1,ab⟩
  · have f1:=(s.fresh hp).1
    refine k _ _ ⟨_,ρ,.v (.tup (xs ++ ys)),s.drop.drop.share (o:=.tup (vs ++ vs')) hp ?_,q⟩
    simp only [Rep]
    exact ⟨pn,_,rfl,SqT.of upd_same,RepL.le (Le.of_same (Same.up f1)) _ _ ab⟩
theorem one_arg {c : Ctx} {S H : Hp} {σ : L2.St} {ρ : J0} {τ : List (V × A)} {vs : List V} {x : A} (hl : vs.length = [x].length) (s : Stt K c S H σ ρ (vs.zip [x] ++ τ)) : ∃ v,vs = [v] ∧ Stt K c S H σ ρ ((v,x) :: τ):=by
  match vs,hl,s with
  | [v],_,s=>exact ⟨v,rfl,by simpa using s⟩
def Uh : D → Option Nat
  | .lst xs=>some xs.length
  | .tup xs=>some xs.length
  | .dic xs=>some xs.length
  | .str x=>if x.length ≤ 100000 then some x.length else none
  | _=>none
def Cp (K : Fg) : List V → Hp → VK → Prop:=fun xs H Q=>(∃ x n,xs = [x] ∧ LenV K x H n ∧ Q (.int n) H) ∨ ∃ a kvs,xs = [V.ref a] ∧ Rd H a (.dK kvs) ∧ Q (.int kvs.length) H
theorem V9 : CallR X (.builtin "len") (Cp X.K):=by
  intro pins s σ H xs us Q I r h
  rcases h with h | ⟨a,kvs,rfl,ha,q⟩
  · exact call_len pins s σ H xs us Q I r h
  · obtain ⟨u,rfl,ru⟩:=vals1 r
    cases ru
    exact d_len I ha fun t s' I'=>⟨.int kvs.length,H,I',⟨t,rfl⟩,q⟩
def Uk : ARs:=fun xs ρ Q=>∃ x d n,xs = [x] ∧ dat x ρ = some d ∧ Uh d = some n ∧ Q (.v (.int n)) ρ
theorem V5 : Wm K (Cp K) Uk:=by
  intro c τ S H σ ρ vs xs Q R hl s q k
  obtain ⟨x,d,n,rfl,h1,h2,q⟩:=q
  obtain ⟨v,rfl,s⟩:=one_arg hl s
  obtain ⟨y0,g,r0,e0⟩:=s.thing (List.mem_cons_self ..) h1
  have kk : R (.int n) H:=k _ _ (KE.sc s.drop rfl q)
  cases d with
  | lst xs =>
    simp only [Uh] at h2; injection h2 with h2; subst h2
    obtain ⟨p,vs,rfl,h3,h4⟩:=Vy r0 e0 s.le
    exact .inl ⟨_,xs.length,rfl,.inl ⟨vs,h3,h4.len.symm⟩,kk⟩
  | tup xs =>
    simp only [Uh] at h2; injection h2 with h2; subst h2
    obtain ⟨p,vs,rfl,_,h3,h4⟩:=X9 r0 e0 s.le
    exact .inl ⟨_,xs.length,rfl,.inr ⟨vs,h3,h4.len.symm⟩,kk⟩
  | dic xs =>
    simp only [Uh] at h2; injection h2 with h2; subst h2
    obtain ⟨p,vs,rfl,h3,h4⟩:=Gv r0 e0 s.le
    exact .inr ⟨p,vs,rfl,h3,by rw [h4.len]; exact kk⟩
  | str z =>
    simp only [Uh] at h2
    have r:=s.dat (List.mem_cons_self ..) h1
    simp only [Rep] at r
    subst r
    by_cases hz : z.length ≤ 100000
    · rw [if_pos hz] at h2; injection h2 with h2; subst h2
      exact .inl ⟨_,z.length,rfl,⟨Nat.le_trans hz (by decide),rfl⟩,kk⟩
    · rw [if_neg hz] at h2; cases h2
  | non=>cases h2
  | bl _=>cases h2
  | int _=>cases h2
  | ty _=>cases h2
  | obj _ _=>cases h2
  | any=>cases h2
/-- int(x) of a number or a truth value -/
def Wz : ARs:=fun xs ρ Q=>∃ x,xs = [x] ∧ ((∃ i,dat x ρ = some (.int i) ∧ Q (.v (.int i)) ρ) ∨ ∃ b,dat x ρ = some (.bl b) ∧ Q (.v (.int (if b then 1 else 0))) ρ)
theorem Bt : Wm K (fun xs H Q=>(∃ i,xs = [.int i] ∧ Q (.int i) H) ∨ ∃ k,xs = [.bl k] ∧ Q (.int (if k then 1 else 0)) H) Wz:=by
  intro c τ S H σ ρ vs xs Q R hl s q k
  obtain ⟨x,rfl,q⟩:=q
  obtain ⟨v,rfl,s⟩:=one_arg hl s
  rcases q with ⟨i,h1,q⟩ | ⟨b,h1,q⟩
  · have r:=s.dat (List.mem_cons_self ..) h1
    simp only [Rep] at r
    exact .inl ⟨i,by rw [r],k _ _ (KE.sc s.drop rfl q)⟩
  · have r:=s.dat (List.mem_cons_self ..) h1
    simp only [Rep] at r
    exact .inr ⟨b,by rw [r],k _ _ (KE.sc s.drop rfl q)⟩
def Lm : ARs:=fun xs ρ Q=>∃ x i,xs = [x] ∧ dat x ρ = some (.int i) ∧ Q (.v (.int (if i < 0 then -i else i))) ρ
theorem JKg : Wm K (fun xs H Q=>∃ i,xs = [.int i] ∧ Q (.int (if i < 0 then -i else i)) H) Lm:=by
  intro c τ S H σ ρ vs xs Q R hl s q k
  obtain ⟨x,i,rfl,h1,q⟩:=q
  obtain ⟨v,rfl,s⟩:=one_arg hl s
  have r:=s.dat (List.mem_cons_self ..) h1
  simp only [Rep] at r
  exact ⟨i,by rw [r],k _ _ (KE.sc s.drop rfl q)⟩
def JXp : ARs:=fun xs ρ Q=>∃ x y i j,xs = [x,y] ∧ dat x ρ = some (.int i) ∧ dat y ρ = some (.int j) ∧ Q (.v (.int (if j > i then j else i))) ρ
def JH7 : ARs:=fun xs ρ Q=>∃ x y i j,xs = [x,y] ∧ dat x ρ = some (.int i) ∧ dat y ρ = some (.int j) ∧ Q (.v (.int (if j < i then j else i))) ρ
/-- list(x): of a list,a tuple,a dict -/
def keyOf : Key → D
  | .inl i=>.int i
  | .inr x=>.str x
def Gf : D → Option (List D)
  | .lst xs=>some xs
  | .tup xs=>some xs
  | .dic kvs=>some (kvs.map fun p=>keyOf p.1)
  | _=>none
def Er (K : Fg) : List V → Hp → VK → Prop:=fun xs H Q=>(∃ p ys,xs = [.ref p] ∧ (SqL K H p ys ∨ SqT K H p ys) ∧ ∀ l,H l = none → Q (.ref l) (upd H l (.lst ys))) ∨
  ∃ (a : Addr) (kvs : List (Key × V)),xs = [.ref a] ∧ Rd H a (.dK kvs) ∧ ∀ p,H p = none → Q (.ref p) (upd H p (.lst (kvs.map fun kv=>kV kv.1)))
theorem Hv (hc : X.calm = true) : CallR X (.type "list") (Er X.K):=by
  intro pins s σ H xs us Q I r h
  rcases h with h | h
  · exact call_list_of pins s σ H xs us Q I r h
  · exact call_listD hc pins s σ H xs us Q I r h
theorem JVl {S : Hp} : ∀ {kvs : List (Key × D)} {ws : List (Key × V)},RepK K S kvs ws → RepL K S (kvs.map fun p=>keyOf p.1) (ws.map fun kv=>kV kv.1)
  | [],ws,h=>by
    simp only [RepK] at h
    subst h
    simp [RepL]
  | (k,x) :: r,ws,h=>by
    simp only [RepK] at h
    obtain ⟨v,r',rfl,h1,h2⟩:=h
    simp only [List.map_cons,RepL]
    refine ⟨_,_,rfl,?_,JVl h2⟩
    cases k <;> simp only [keyOf,Rep,kV]
def B5 : ARs:=fun xs ρ Q=>∃ x d ys,xs = [x] ∧ dat x ρ = some d ∧ Gf d = some ys ∧ Q (.lst ys) ρ
theorem Stt.newList {c : Ctx} {S H : Hp} {σ : L2.St} {ρ : J0} {τ : List (V × A)} {p : Addr} {vs : List V} {ds : List D} (s : Stt K c S H σ ρ τ) (hp : H p = none) (h : RepL K S ds vs) : Stt K c S (upd H p (.lst vs)) σ ρ ((.ref p,.lst ds) :: τ):=by
  refine s.alloc hp rfl ?_
  simp only [RepA]
  exact ⟨p,vs,rfl,upd_same,h,by first | rfl | trivial⟩
theorem Lz : Wm K (Er K) B5:=by
  intro c τ S H σ ρ vs xs Q R hl s q k
  obtain ⟨x,d,ys,rfl,h1,h2,q⟩:=q
  obtain ⟨v,rfl,s⟩:=one_arg hl s
  obtain ⟨y0,g,r0,e0⟩:=s.thing (List.mem_cons_self ..) h1
  cases d with
  | lst xs =>
    simp only [Gf] at h2; injection h2 with h2; subst h2
    obtain ⟨p,vs,rfl,h3,h4⟩:=Vy r0 e0 s.le
    exact .inl ⟨p,vs,rfl,.inl h3,fun l hn=>k _ _ ⟨S,ρ,_,s.drop.newList hn h4,q⟩⟩
  | tup xs =>
    simp only [Gf] at h2; injection h2 with h2; subst h2
    obtain ⟨p,vs,rfl,_,h3,h4⟩:=X9 r0 e0 s.le
    exact .inl ⟨p,vs,rfl,.inr h3,fun l hn=>k _ _ ⟨S,ρ,_,s.drop.newList hn h4,q⟩⟩
  | dic xs =>
    simp only [Gf] at h2; injection h2 with h2; subst h2
    obtain ⟨p,vs,rfl,h3,h4⟩:=Gv r0 e0 s.le
    exact .inr ⟨p,vs,rfl,h3,fun l hn=>k _ _ ⟨S,ρ,_,s.drop.newList hn (JVl h4),q⟩⟩
  | non=>cases h2
  | bl _=>cases h2
  | int _=>cases h2
  | str _=>cases h2
  | ty _=>cases h2
  | obj _ _=>cases h2
  | any=>cases h2
/-- tuple(x) of a list or a tuple -/
def Zu : ARs:=fun xs ρ Q=>∃ x d ys,xs = [x] ∧ dat x ρ = some d ∧ (d = .lst ys ∨ d = .tup ys) ∧ Q (.v (.tup ys)) ρ
theorem Oi : Wm K (fun xs H Q=>∃ p ys,xs = [.ref p] ∧ ((SqL K H p ys ∧ ∀ l,H l = none → Q (.ref l) (upd H l (.tup ys))) ∨ (SqT K H p ys ∧ Q (.ref p) H))) Zu:=by
  intro c τ S H σ ρ vs xs Q R hl s q k
  obtain ⟨x,d,ys,rfl,h1,h2,q⟩:=q
  obtain ⟨v,rfl,s⟩:=one_arg hl s
  obtain ⟨y0,g,r0,e0⟩:=s.thing (List.mem_cons_self ..) h1
  rcases h2 with rfl | rfl
  · obtain ⟨p,vs,rfl,h3,h4⟩:=Vy r0 e0 s.le
    refine ⟨p,vs,rfl,.inl ⟨h3,fun l hn=>?_⟩⟩
    have f1:=(s.fresh hn).1
    refine k _ _ ⟨_,ρ,_,s.drop.share (o:=.tup vs) (d:=.tup ys) hn ?_,q⟩
    simp only [Rep]
    exact ⟨l,vs,rfl,SqT.of upd_same,RepL.le (Le.of_same (Same.up f1)) _ _ h4⟩
  · obtain ⟨p,vs,rfl,h3,h5,h4⟩:=X9 r0 e0 s.le
    refine ⟨p,vs,rfl,.inr ⟨h5,k _ _ ⟨S,ρ,_,s.drop.hold (d:=.tup ys) ?_,q⟩⟩⟩
    simp only [Rep]
    exact ⟨p,vs,rfl,h3,h4⟩
/-- all(xs) of a list of truth values -/
def F3 : ARs:=fun xs ρ Q=>∃ (x : A) (bs : List Bool),xs = [x] ∧ dat x ρ = some (.lst (bs.map D.bl)) ∧ Q (.v (.bl (bs.all id))) ρ
theorem R6 {S : Hp} : ∀ {bs : List Bool} {vs : List V},RepL K S (bs.map D.bl) vs → vs = bs.map V.bl
  | [],vs,h=>by simp only [List.map_nil,RepL] at h; rw [h]; rfl
  | b :: bs,vs,h=>by
    simp only [List.map_cons,RepL] at h
    obtain ⟨v,r,rfl,h1,h2⟩:=h
    simp only [Rep] at h1
    rw [h1,R6 h2]; rfl
theorem Pe : Wm K (rAll K) F3:=by
  intro c τ S H σ ρ vs xs Q R hl s q k
  obtain ⟨x,bs,rfl,h1,q⟩:=q
  obtain ⟨v,rfl,s⟩:=one_arg hl s
  obtain ⟨y0,g,r0,e0⟩:=s.thing (List.mem_cons_self ..) h1
  obtain ⟨p,vs,rfl,h3,h4⟩:=Vy r0 e0 s.le
  have e:=R6 h4
  subst e
  exact ⟨p,bs,rfl,h3,k _ _ (KE.sc s.drop rfl q)⟩
end
end Vs
namespace Vs
open PySem L2
variable [Tbs]
section
variable {X : Cx} {P : Pm} {K : Fg} {pos : Pos}
def Yt : AS:=fun DA ρ=>DA.nx ρ
def Jm (a b : AS) : AS:=fun DA ρ=>a { DA with nx:=b DA } ρ
def Wo (ae : AE) : AS:=fun DA ρ=>ae DA.ex ρ fun _ ρ'=>DA.nx ρ'
def Zi (x : A) (ρ : J0) (rt : A → J0 → Prop) : Prop:=match x with
  | .loc i=>∃ y,ρ[i]? = some (some y) ∧ rt y (ρ.set i none)
  | y=>rt y ρ
def Yc (ae : AE) : AS:=fun DA ρ=>ae DA.ex ρ fun x ρ'=>Zi x ρ' DA.rt
def JF6 : AS:=fun DA ρ=>DA.rt (.v .non) ρ
def Yq (t : AT) (a b : AS) : AS:=fun DA ρ=>t DA.ex ρ fun b' ρ'=>if b' = true then a DA ρ' else b DA ρ'
def JN4 : AS:=fun DA ρ=>DA.bk ρ
def JKq : AS:=fun DA ρ=>DA.ct ρ
theorem JFo : Z1 K P tNext Yt:=fun c D DA _ _ l S H σ ρ s q=>l.nx S H σ ρ s q
theorem JL8 {t u : TS} {a b : AS} (h1 : Z1 K P t a) (h2 : Z1 K P u b) : Z1 K P (tSeq t u) (Jm a b):=fun c D DA ho hw l S H σ ρ s q =>
  h1 c { D with nx:=u D } { DA with nx:=b DA } ho hw ⟨fun S H σ ρ s q=>h2 c D DA ho hw l S H σ ρ s q,l.rt,l.bk,l.ct⟩ S H σ ρ s q
theorem JFj {te : TE} {ae : AE} (h : Yw K P te ae) : Z1 K P (tDrop te) (Wo ae):=fun c D DA ho hw l S H σ ρ s q =>
  h c DA.ex ho hw [] S H σ ρ _ _ s q fun v H1 ⟨S1,ρ1,x,s1,q1⟩=>l.nx S1 H1 σ ρ1 s1.drop q1
theorem JBj {c : Ctx} {S H : Hp} {σ : L2.St} {ρ : J0} {v : V} {x : A} {rt : A → J0 → Prop} {R : Prop} (s : Stt K c S H σ ρ [(v,x)]) (h : Zi x ρ rt) (k : ∀ y ρ',Y4 y = false → Stt K c S H σ ρ' [(v,y)] → rt y ρ' → R) : R:=by
  cases hx : Y4 x with
  | false =>
    refine k x ρ hx s ?_
    cases x <;> first | exact h | cases hx
  | true =>
    cases x with
    | loc i =>
      obtain ⟨y,hy,hr⟩:=h
      have hv:=(s.loc v i (List.mem_cons_self ..)).1
      exact k y _ (Kv (s.env.get hy).2) (s.drop.takeSlot hy hv (fun u m=>by simp at m)) hr
    | _=>cases hx
theorem JBu {te : TE} {ae : AE} (h : Yw K P te ae) : Z1 K P (tRet te) (Yc ae):=fun c D DA ho hw l S H σ ρ s q =>
  h c DA.ex ho hw [] S H σ ρ _ _ s q fun v H1 ⟨S1,ρ1,x,s1,q1⟩=>JBj s1 q1 fun y ρ' hy s2 q2=>l.rt S1 H1 σ ρ' v y s2 hy q2
theorem JB8 {t : TT} {a : AT} {u u' : TS} {b b' : AS} (h : Vp K P t a) (h1 : Z1 K P u b) (h2 : Z1 K P u' b') : Z1 K P (tIfS t u u') (Yq a b b'):=fun c D DA ho hw l S H σ ρ s q =>
  h c DA.ex ho hw [] S H σ ρ _ _ s q fun v H1 ⟨S1,ρ1,s1,q1⟩=>by
    cases v with
    | true=>rw [if_pos rfl] at q1 ⊢; exact h1 c D DA ho hw l S1 H1 σ ρ1 s1 q1
    | false=>rw [if_neg Bool.false_ne_true] at q1 ⊢; exact h2 c D DA ho hw l S1 H1 σ ρ1 s1 q1
theorem U3 : QSs X P [] Yt:=⟨_,pss_nil,JFo⟩
theorem Jr {st : Stmt} {rest : List Stmt} {a b : AS} (h1 : QS X P st a) (h2 : QSs X P rest b) : QSs X P (st :: rest) (Jm a b):=let ⟨_,p,s⟩:=h1.ex; let ⟨_,p2,s2⟩:=h2.ex; ⟨_,pss_cons p p2,JL8 s s2⟩
theorem Y3 {st : Stmt} {a : AS} (h1 : QS X P st a) : QSs X P [st] a:=let ⟨_,p,s⟩:=h1.ex; ⟨_,pss_one p,s⟩
theorem Zw {e : Expr} {ae : AE} (h : QE X P e ae) (hs : swapsWith e none pos.line X.env = pure false:=by rfl) : QS X P (.Expr e pos) (Wo ae):=let ⟨_,p,s⟩:=h.ex; ⟨_,ps_expr p hs,JFj s⟩
theorem Yg {e : Expr} {ae : AE} (h : QE X P e ae) : QS X P (.Return (some e) pos) (Yc ae):=let ⟨_,p,s⟩:=h.ex; ⟨_,ps_ret p,JBu s⟩
theorem Yz {e : Expr} {a b : List Stmt} {t : AT} {u u' : AS} (h : QT X P e t) (h1 : QSs X P a u) (h2 : QSs X P b u') : QS X P (.If e a b pos) (Yq t u u'):=let ⟨_,p,s⟩:=h.ex; let ⟨_,p1,s1⟩:=h1.ex; let ⟨_,p2,s2⟩:=h2.ex; ⟨_,ps_if p p1 p2,JB8 s s1 s2⟩
theorem Stt.clear {c : Ctx} {S H : Hp} {σ : L2.St} {ρ : J0} {τ : List (V × A)} (s : Stt K c S H σ ρ τ) (i : Nat) (hn : ∀ v,(v,A.loc i) ∉ τ) : Stt K c S H σ (ρ.set i none) τ:=by
  cases h : ρ[i]? with
  | none =>
    have : ρ.set i none = ρ:=List.set_eq_of_length_le (by simpa using h)
    rw [this]; exact s
  | some o =>
    cases o with
    | none=>rw [Hn h]; exact s
    | some y =>
      obtain ⟨⟨v,hv⟩,_⟩:=s.env.get h
      exact (s.takeSlot h hv hn).drop
theorem Stt.store {c : Ctx} {S H : Hp} {σ : L2.St} {ρ : J0} {τ : List (V × A)} {v : V} {x : A} {i : Nat} (s : Stt K c S H σ ρ ((v,x) :: τ)) (hx : Y4 x = false) (ho : ∀ p ∈ c.os,p.1 ≠ i) (hn : ∀ u,(u,A.loc i) ∉ τ) : Stt K c S H (σ.set i (some v)) (ρ.set i (some x)) τ:=by
  have s1 : Stt K c S H σ (ρ.set i none) ((v,x) :: τ):=s.clear i fun u m=>by
    rcases List.mem_cons.mp m with q | q
    · injection q with _ q; rw [← q] at hx; cases hx
    · exact hn u q
  refine ⟨?_,?_,fun u j m=>?_,s1.le,s1.r,s1.new,s1.up,fun p m=>?_,s1.tb⟩
  · by_cases hi : i < ρ.length
    · obtain ⟨fp,h1,h2,h3⟩:=s1.own
      have hlen : i < σ.length:=by rw [s.env.len]; exact hi
      have hv : (σ.set i (some v))[i]? = some (some v):=by rw [List.getElem?_set_self hlen]
      have p : (Ji (ρ.set i none) σ ++ Jg ((v,x) :: τ)).Perm (Ji (ρ.set i (some x)) (σ.set i (some v)) ++ Jg τ):=by
        rw [B9 hx]
        have q:=Xy (ρ:=ρ) (σ:=σ.set i (some v)) (i:=i) (y:=x) (v:=v) hi hv
        rw [Pw] at q
        exact List.perm_middle.trans (List.Perm.append_right _ q.symm)
      obtain ⟨fq,q1,q2⟩:=RepP.perm p h1
      exact ⟨fq,q1,q2.nodup_iff.mp h2,fun a ha=>h3 a (q2.symm.subset ha)⟩
    · have hl : ρ.length ≤ i:=by omega
      rw [List.set_eq_of_length_le hl,List.set_eq_of_length_le (by rw [s.env.len]; exact hl)]
      exact s.drop.own
  · exact s.env.store fun y e=>by cases e; exact ⟨⟨v,rfl⟩,Xr hx⟩
  · obtain ⟨z1,y,z2⟩:=s.loc u j (List.mem_cons_of_mem _ m)
    have ne : i ≠ j:=fun e=>hn u (e ▸ m)
    exact ⟨by rw [List.getElem?_set_ne ne]; exact z1,y,by rw [List.getElem?_set_ne ne]; exact z2⟩
  · rw [List.getElem?_set_ne (Ne.symm (ho p m))]
    exact s.os p m
def Z6 (x : A) (ρ : J0) (i : Nat) (nx : J0 → Prop) : Prop:=match x with
  | .loc j=>∃ y,ρ[j]? = some (some y) ∧ nx ((ρ.set j (some (.v y.toD))).set i (some (.v y.toD)))
  | y=>nx (ρ.set i (some y))
theorem Sw {c : Ctx} {S H : Hp} {σ : L2.St} {ρ : J0} {v : V} {x : A} {i : Nat} {nx : J0 → Prop} {R : Prop} (s : Stt K c S H σ ρ [(v,x)]) (ho : ∀ p ∈ c.os,p.1 ≠ i) (h : Z6 x ρ i nx) (k : ∀ S' ρ',Stt K c S' H (σ.set i (some v)) ρ' [] → nx ρ' → R) : R:=by
  cases hx : Y4 x with
  | false =>
    refine k S _ (s.store hx ho (by simp)) ?_
    cases x <;> first | exact h | cases hx
  | true =>
    cases x with
    | loc j =>
      obtain ⟨y,hy,hk⟩:=h
      obtain ⟨S',d,ρ',sm,s',hk'⟩:=W3 (k:=fun d ρ'=>nx (ρ'.set i (some (.v d)))) s ⟨y,hy,hk⟩
      exact k S' _ (s'.store rfl ho (by simp)) hk'
    | _=>cases hx
def Ye (i : Nat) (ae : AE) : AS:=fun DA ρ=>ae DA.ex ρ fun x ρ'=>Z6 x ρ' i DA.nx
theorem OsIn.ne {K : Fg} {c : Ctx} {O : OL} {i : Nat} (h : OsIn K c O) (hi : i ∉ O) : ∀ p ∈ c.os,p.1 ≠ i:=fun p m e=>hi (e ▸ h.1 p m)
theorem Yo {i : Nat} {x : Str} {e : Expr} {ae : AE} {pos' : Pos} (hN : X.N.Nodup) (hi : X.N[i]? = some x) (hx : Loc X.env.scope x) (h : QE X P e ae) (hO : i ∉ P.O) (hs : swapsWith e (some (.Name x pos')) pos.line X.env = pure false:=by rfl) (hf : X.fn x = true ∨ X.env.scope.names.lookup x = some .local:=by first | exact .inl rfl | exact .inr rfl | assumption) :
    QS X P (.Assign [.Name x pos'] e pos) (Ye i ae):=by
  obtain ⟨t,p,s⟩:=h.ex
  refine ⟨_,ps_set hN hi hx p hs hf,fun c D DA ho hw l S H σ ρ st q=>s c DA.ex ho hw [] S H σ ρ _ _ st q fun v H1 ⟨S1,ρ1,y,s1,q1⟩=>?_⟩
  exact Sw s1 (ho.ne hO) q1 fun S' ρ' s2 q2=>l.nx S' H1 _ ρ' s2 q2
theorem Stt.write {c : Ctx} {S H : Hp} {σ : L2.St} {ρ : J0} {τ : List (V × A)} {p : Addr} {o : HO} {y y' : A} {j : Nat} (s : Stt K c S H σ ρ τ) (h : ρ[j]? = some (some y)) (hv : σ[j]? = some (some (.ref p))) (hg : ∀ g,RepA K S H y (.ref p) g → g = [p]) (hy : Y4 y' = false) (hr : RepA K S (upd H p o) y' (.ref p) [p]) :
    Stt K c S (upd H p o) σ (ρ.set j (some y')) τ:=by
  refine s.slotTo h hv (fun g f a1 a2 nd a3=>?_) hy
  have eg:=hg g a1
  subst eg
  have np : p ∉ f:=fun z=>(List.nodup_append.mp nd).2.2 p (List.mem_cons_self ..) p z rfl
  have Sp : S p = none:=(a3 p (by simp)).1
  have Rp : c.R p = none:=(a3 p (by simp)).2
  exact ⟨[p],hr,nd,a3,fun a ha=>upd_ne (fun z=>np (z ▸ ha)),Same.refl S,s.le.up Sp,fun a o' e=>by rw [upd_ne (ne_of_none e Rp)]; exact s.r a o' e,s.new,(by
    obtain ⟨u,e1,e2⟩:=a1.nsp y (.ref p) [p] p (by simp)
    exact s.tb.put e1 e2)⟩
theorem RepA.lst_inv {S H : Hp} {xs : List D} {v : V} {g : List Addr} (h : RepA K S H (.lst xs) v g) : ∃ a vs,v = .ref a ∧ H a = some (.lst vs) ∧ RepL K S xs vs ∧ g = [a]:=by simpa only [RepA] using h
theorem RepA.dic_inv {S H : Hp} {xs : List (Key × D)} {v : V} {g : List Addr} (h : RepA K S H (.dic xs) v g) : ∃ a ws,v = .ref a ∧ H a = some (.dK ws) ∧ RepK K S xs ws ∧ g = [a]:=by simpa only [RepA] using h
theorem RepA.mk_lst {S H : Hp} {xs : List D} {a : Addr} {vs : List V} (h : H a = some (.lst vs)) (r : RepL K S xs vs) : RepA K S H (.lst xs) (.ref a) [a]:=by
  simp only [RepA]
  exact ⟨a,vs,rfl,h,r,by first | rfl | trivial⟩
theorem RepA.mk_dic {S H : Hp} {xs : List (Key × D)} {a : Addr} {vs : List (Key × V)} (h : H a = some (.dK vs)) (r : RepK K S xs vs) : RepA K S H (.dic xs) (.ref a) [a]:=by
  simp only [RepA]
  exact ⟨a,vs,rfl,h,r,by first | rfl | trivial⟩
theorem Stt.slotA {c : Ctx} {S H : Hp} {σ : L2.St} {ρ : J0} {τ : List (V × A)} {y : A} {j : Nat} {v : V} (s : Stt K c S H σ ρ τ) (h : ρ[j]? = some (some y)) (hv : σ[j]? = some (some v)) : ∃ g,RepA K S H y v g:=by
  obtain ⟨fp,h1,_,_⟩:=s.own
  obtain ⟨f1,f2,q1,q2,q3⟩:=h1.append
  obtain ⟨fq,z1,z2⟩:=RepP.perm (Wh h hv) q1
  obtain ⟨g,h',a1,_,_⟩:=z1
  exact ⟨g,a1⟩
/-- o.append(e),o an owned list -/
def Fe (ao ae : AE) : AE:=fun EA ρ Q=>ao EA ρ fun o ρ1=>(∃ xs,dat o ρ1 = some (.lst xs)) ∧ ae EA ρ1 fun x ρ2=>Yd x ρ2 fun d ρ3=>∃ j xs,o = .loc j ∧ ρ3[j]? = some (some (.lst xs)) ∧ xs.length ≤ 100000 ∧ Q (.v .non) (ρ3.set j (some (.lst (xs ++ [d]))))
theorem Ol {o e : Expr} {ao ae : AE} {apos cpos : Pos} (ho' : QE X P o ao) (he : QE X P e ae) (hbase : attributeBase o "append" X.env (eval o X.env) = eval o X.env:=by rfl)
    (hfew : ((backTo cpos (starEach (e :: []) X.env)).all (fun x=>!x.1) && (backToKw cpos (keywordEach [] X.env)).all (fun x=>x.1.isSome)
      && decide ((e :: []).length + ([] : List Keyword).length + (if ([] : List Keyword).isEmpty then 0 else 1) < 30)) = true:=by rfl)
    (hline : (apos.endLine == cpos.line) = true:=by rfl) (hs : starEach [e] X.env = (false,eval e X.env) :: starEach [] X.env:=by rfl) (hplain : (backTo cpos (starEach [] X.env)).any (·.1) = false:=by rfl) :
    QE X P (.Call (.Attribute o "append" apos) [e] [] cpos) (Fe ao ae):=by
  obtain ⟨to,po,so⟩:=ho'.ex
  obtain ⟨te,pe,se⟩:=he.ex
  refine ⟨_,pe_bm PySem.F.plainAttrs_list PySem.F.slot_list_append PySem.F.type_list_append mt_append po (pa_cons pe pa_nil hs) hbase hfew hline hs hplain,fun c EA ho hw τ S H σ ρ Q R st q k=>so c EA ho hw τ S H σ ρ _ _ st q fun vo H1 ⟨S1,ρ1,xo,s1,⟨xs0,h0⟩,q1⟩=>?_⟩
  obtain ⟨y0,g0,r0,e0⟩:=s1.thing (List.mem_cons_self ..) h0
  obtain ⟨p,vs,rfl,h3,h4⟩:=Vy r0 e0 s1.le
  refine ⟨.inl ⟨rfl,vs,h3⟩,se c EA ho hw _ S1 H1 σ ρ1 _ _ s1 q1 fun v H2 ⟨S2,ρ2,x,s2,q2⟩=>?_⟩
  obtain ⟨S3,d,ρ3,sm,s3,j,xs,eo,hj,hn,q3⟩:=W3 s2 q2
  subst eo
  have hvo : σ[j]? = some (some (.ref p)):=(s3.loc _ j (by simp)).1
  obtain ⟨g,ra⟩:=s3.slotA hj hvo
  obtain ⟨p',ws,e1,hp,rl,rfl⟩:=ra.lst_inv
  cases e1
  have rd : Rep X.K S3 d v:=s3.data
  refine ⟨p,ws,v,rfl,rfl,hp,by rw [rl.len]; exact Nat.lt_of_le_of_lt hn (by decide),k _ _ ⟨S3,_,.v .non,?_,q3⟩⟩
  have s5:=s3.write (o:=.lst (ws ++ [v])) (y':=.lst (xs ++ [d])) hj hvo (fun g' h=>by obtain ⟨a',_,e,_,_,e2⟩:=h.lst_inv; cases e; exact e2) rfl (.mk_lst upd_same (rl.app (by simp only [RepL]; exact ⟨v,[],rfl,rd,rfl⟩)))
  exact s5.drop.drop.hold (Z0 rfl)
end
end Vs
namespace Vs
open PySem PyProof.Rows L2
variable [Tbs]
/-- what the parameters hold at the end: those that are never stored to,by their slots; the others are shared -/
def fin (O : List Nat) : Nat → List A → J0 → Option (List A)
  | _,[],_=>some []
  | k,x :: xs,o :: ρ=>(if k ∈ O then (match o with
      | some y=>(match fin O (k + 1) xs ρ with
        | some ys=>some (y :: ys)
        | none=>none)
      | none=>none)
    else (match x with
      | .v d=>(match fin O (k + 1) xs ρ with
        | some ys=>some (.v d :: ys)
        | none=>none)
      | _=>none))
  | _,_ :: _,[]=>none
def Yn (n : Nat) (xs : List A) : J0:=xs.map some ++ List.replicate (n - xs.length) none
def U9 (O : List Nat) (sp : ASp) (xs : List A) : AEnds where
  nx:=fun ρ=>∃ xs',fin O 0 xs ρ = some xs' ∧ sp.post xs (.v .non) xs'
  rt:=fun r ρ=>∃ xs',fin O 0 xs ρ = some xs' ∧ sp.post xs r xs'
  bk:=fun _=>False
  ct:=fun _=>False
  ex:=fun C fs ρ=>∃ xs',fin O 0 xs ρ = some xs' ∧ sp.exc xs C fs xs'
section
variable {K : Fg}
theorem N4 {S S0 H : Hp} {O : List Nat} (hs : Same S0 S) : ∀ {xs : List A} {vs : List V} {ρ : J0} {σ : L2.St} {ys : List A} {f : List Addr} {k : Nat},vs.length = xs.length → (∀ (j : Nat) (v : V) (d : D),vs[j]? = some v → xs[j]? = some (A.v d) → Rep K S0 d v) → EnvOk ρ σ → (∀ (j : Nat) v,vs[j]? = some v → k + j ∈ O → σ[j]? = some (some v)) → fin O k xs ρ = some ys → RepP K S H (Ji ρ σ) f →
    ∃ g,RepP K S H (vs.zip ys) g ∧ g.Sublist f ∧ vs.length = ys.length
  | [],vs,ρ,σ,ys,f,k,hl,_,_,_,h,hp=>by
    have e : vs = []:=by simpa using hl
    subst e
    simp only [fin] at h
    injection h with h
    subst h
    exact ⟨[],rfl,List.nil_sublist _,rfl⟩
  | x :: xs,[],ρ,σ,ys,f,k,hl,_,_,_,h,hp=>by simp at hl
  | x :: xs,v :: vs,[],σ,ys,f,k,hl,_,_,_,h,hp=>by simp [fin] at h
  | x :: xs,v :: vs,o :: ρ,σ,ys,f,k,hl,h0,he,ho,h,hp=>by
    obtain ⟨w,r,rfl,h1,h2⟩:=he
    have hl' : vs.length = xs.length:=by simpa using hl
    have h0' : ∀ (j : Nat) (v : V) (d : D),vs[j]? = some v → xs[j]? = some (A.v d) → Rep K S0 d v:=fun j u d a b=>h0 (j + 1) u d (by simpa using a) (by simpa using b)
    have ho' : ∀ (j : Nat) u,vs[j]? = some u → (k + 1) + j ∈ O → r[j]? = some (some u):=fun j u a b=>by
      have:=ho (j + 1) u (by simpa using a) (by rw [← Nat.add_assoc,Nat.add_right_comm]; exact b)
      simpa using this
    simp only [fin] at h
    by_cases hk : k ∈ O
    · rw [if_pos hk] at h
      cases o with
      | none=>cases h
      | some y =>
        have hw : w = some v:=by
          have:=ho 0 v (by simp) (by simpa using hk)
          simpa using this
        subst hw
        cases q : fin O (k + 1) xs ρ with
        | none=>rw [q] at h; cases h
        | some zs =>
          rw [q] at h
          injection h with h
          subst h
          simp only [Ji] at hp
          obtain ⟨g,f',a1,a2,rfl⟩:=hp
          obtain ⟨g',b1,b2,b3⟩:=N4 hs hl' h0' h2 ho' q a2
          exact ⟨g ++ g',⟨g,g',a1,b1,rfl⟩,List.Sublist.append (List.Sublist.refl _) b2,by simp [b3]⟩
    · rw [if_neg hk] at h
      cases x with
      | v d =>
        cases q : fin O (k + 1) xs ρ with
        | none=>rw [q] at h; cases h
        | some zs =>
          rw [q] at h
          injection h with h
          subst h
          have tail : ∃ f',RepP K S H (Ji ρ r) f' ∧ f'.Sublist f:=by
            cases o with
            | none =>
              refine ⟨f,?_,List.Sublist.refl _⟩
              cases w <;> simpa only [Ji] using hp
            | some y =>
              cases w with
              | none=>exact ⟨f,by simpa only [Ji] using hp,List.Sublist.refl _⟩
              | some u =>
                simp only [Ji] at hp
                obtain ⟨g,f',a1,a2,rfl⟩:=hp
                exact ⟨f',a2,List.sublist_append_right _ _⟩
          obtain ⟨f',t1,t2⟩:=tail
          obtain ⟨g',b1,b2,b3⟩:=N4 hs hl' h0' h2 ho' q t1
          exact ⟨g',⟨[],g',RepA.ofv (Rep.le (Le.of_same hs) d v (h0 0 v d (by simp) (by simp))),b1,by simp⟩,b2.trans t2,by simp [b3]⟩
      | _=>cases h
theorem N2 : ∀ {vs : List V} {xs : List A} (n : Nat),vs.length = xs.length → Ji (xs.map some ++ List.replicate n none) (vs.map some ++ List.replicate n none) = vs.zip xs
  | [],[],0,_=>rfl
  | [],[],n + 1,_=>by
    have:=N2 (vs:=[]) (xs:=[]) n rfl
    simp only [List.map_nil,List.nil_append,List.replicate_succ,Ji] at this ⊢
    exact this
  | [],_ :: _,_,h=>by simp at h
  | _ :: _,[],_,h=>by simp at h
  | v :: vs,x :: xs,n,h=>by
    simp only [List.map_cons,List.cons_append,Ji,List.zip_cons_cons]
    rw [N2 n (by simpa using h)]
theorem O8 : ∀ {vs : List V} {xs : List A} (n : Nat),vs.length = xs.length → (∀ x ∈ xs,Y4 x = false) → EnvOk (xs.map some ++ List.replicate n none) (vs.map some ++ List.replicate n none)
  | [],[],0,_,_=>rfl
  | [],[],n + 1,_,_=>by
    have:=O8 (vs:=[]) (xs:=[]) n rfl (by simp)
    simp only [List.map_nil,List.nil_append] at this ⊢
    exact ⟨none,_,rfl,fun _ e=>(nomatch e),this⟩
  | [],_ :: _,_,h,_=>by simp at h
  | _ :: _,[],_,h,_=>by simp at h
  | v :: vs, x :: xs, n, h, hx => ⟨some v, _, rfl, fun y e => by
      have e2 : x = y:=Option.some.inj e
      exact ⟨⟨v,rfl⟩,e2 ▸ Xr (hx x (by simp))⟩,O8 n (by simpa using h) fun y hy=>hx y (by simp [hy])⟩
/-- the slots that are never stored to,with their values -/
def P4 (O : List Nat) (vs : List V) : List (Nat × V):=O.filterMap fun j=>(vs[j]?).map fun v=>(j,v)
theorem osOf_mem {O : List Nat} {vs : List V} {p : Nat × V} : p ∈ P4 O vs ↔ p.1 ∈ O ∧ vs[p.1]? = some p.2:=by
  unfold P4
  rw [List.mem_filterMap]
  constructor
  · rintro ⟨j,h1,h2⟩
    cases e : vs[j]? with
    | none=>rw [e] at h2; cases h2
    | some v =>
      rw [e] at h2
      have h3 : (j,v) = p:=Option.some.inj h2
      subst h3
      exact ⟨h1,e⟩
  · rintro ⟨h1,h2⟩
    exact ⟨p.1,h1,by rw [h2]; rfl⟩
section
variable {Pr : Program} {w : World} {mg : Str → Option Value} {base : Heap} {x qual : Str} {params : Arguments} {body : List Stmt} {scope : Scope} {dvs : List V} {kws : List (Str × V)} {f : Addr} {fd : FuncData}
abbrev Fok (Pr : Program) (w : World) (K : Fg) (mg : Str → Option Value) (base : Heap) (k : Nat) (f : Addr) (fd : FuncData) (ps : List Str) (sp : ASp) : Prop:=FnOk Pr w K mg base (L2.CX Pr w) k f fd ps (lift K sp)
omit [Tbs] in
theorem FunD.okC {CX : CXT} {N ps : List Str} {k : Nat} {sp : Sp} (F : FunD K x qual params body scope dvs kws f fd) (S : FnScope N ps scope) (len : ∀ vs H Q E,sp vs H Q E → vs.length = ps.length)
    (hbody : ∀ (cdv : Value),fd.code = cdv → ∀ (A : Around) (outer : List Env) (s : Shared) (H : Hp) (vs : List V) (Q : VK) (E : XK),Room k (A.deeper (envOfC qual scope s.heap.objs.size f cdv)) → sp vs H Q E →
      ∃ t,PSs (cxOf CX Pr w K mg base N qual scope f cdv A outer s H E) body t ∧ t { nx:=fun _ H'=>Q .non H',rt:=Q } (L2.start N vs) H) : FnOk Pr w K mg base CX (k + 1) f fd ps sp:=by
  obtain ⟨oc,od,dV,kV,doc,pm,an,cdv,ct,osl,rfl,lk,hcd,_,_⟩:=F.ex
  exact fn_of lk hcd S len fun A outer s H vs Q E hr hsp=>hbody cdv rfl A outer s H vs Q E hr hsp
theorem JXj {N ps : List Str} {k : Nat} {sp : ASp} (O : List Nat) (F : FunD K x qual params body scope dvs kws f fd) (S : FnScope N ps scope) (hlen : ∀ xs,sp.pre xs → xs.length = ps.length) (hO : ∀ j ∈ O,j < ps.length)
    (hb : ∀ (cdv : Value),fd.code = cdv → ∀ (Ar : Around) (outer : List Env) (s : Shared) (H : Hp) (E : XK),Room k (Ar.deeper (envOfC qual scope s.heap.objs.size f cdv)) →
      ∃ as,QSs (cxOf (L2.CX Pr w) Pr w K mg base N qual scope f cdv Ar outer s H E) ⟨fun cls d _ H=>E cls d H,O⟩ body as ∧ ∀ xs,sp.pre xs → as (U9 O sp xs) (Yn N.length xs)) : Fok Pr w K mg base (k + 1) f fd ps sp:=by
  refine FunD.okC F S (fun vs H Q E h=>?_) (fun cdv ec Ar outer s H vs Q E hr h=>?_)
  · obtain ⟨c,S',xs,h1,_,_,_,_,h2,_⟩:=h
    rw [h1]; exact hlen xs h2
  obtain ⟨as,hq,hr2⟩:=hb cdv ec Ar outer s H E hr
  obtain ⟨t,ht,hs⟩:=hq.ex
  refine ⟨t,ht,?_⟩
  obtain ⟨c,S1,xs,hl,hos,st,ss1,ss2,hpre,hQ,hE⟩:=h
  have hnl:=EnvOk.noloc st.env
  obtain ⟨fp,a1,a2,a3⟩:=st.own
  rw [Zr hl] at a1
  have a1' : RepP K S1 H (vs.zip xs) fp:=by simpa [Jg] using a1
  have lenps:=hlen xs hpre
  -- shared data of the parameters
  have sh : ∀ (j : Nat) v d,vs[j]? = some v → xs[j]? = some (A.v d) → Rep K S1 d v:=fun j v d e1 e2=>by
    have m : (v,A.v d) ∈ vs.zip xs:=List.mem_of_getElem? (i:=j) (by rw [List.getElem?_zip_eq_some]; exact ⟨e1,e2⟩)
    obtain ⟨g,b1,_⟩:=a1'.pick m
    simp only [RepA] at b1
    exact b1.1
  let c2 : Ctx:=⟨c.R,c.S0,P4 O vs⟩
  have len0 : Yn N.length xs = xs.map some ++ List.replicate (N.length - vs.length) none:=by unfold Yn; rw [hl]
  have hlt : ∀ j ∈ O,j < vs.length:=fun j hj=>by rw [hl,lenps]; exact hO j hj
  have s0 : Stt K c2 S1 H (L2.start N vs) (Yn N.length xs) []:=by
    rw [len0]
    unfold L2.start
    refine ⟨⟨fp,?_,a2,a3⟩,O8 _ hl hnl,fun _ _ m=>by simp at m,st.le,st.r,st.new,st.up,fun p m=>?_,st.tb⟩
    · rw [N2 _ hl]
      simpa [Jg] using a1'
    · obtain ⟨m1,m2⟩:=osOf_mem.mp m
      rw [List.getElem?_append_left (by simpa using hlt p.1 m1),List.getElem?_map,m2]
      rfl
  have hoin : OsIn K c2 O:=⟨fun p m=>(osOf_mem.mp m).1,fun j hj=>by
    obtain ⟨v,hv⟩ : ∃ v,vs[j]? = some v:=⟨vs[j]'(hlt j hj),by simp [hlt j hj]⟩
    exact ⟨v,osOf_mem.mpr ⟨hj,hv⟩⟩,fun _ _ _ _ _ _=>trivial⟩
  -- from a state of the body to one of the caller
  have back : ∀ {S' H' : Hp} {σ : L2.St} {ρ : J0} {τ : List (V × A)} {ys : List A},Stt K c2 S' H' σ ρ τ → (∀ p ∈ τ,Y4 p.2 = false) → fin O 0 xs ρ = some ys → Stt K c S' H' (vs.map some) (ys.map some) τ ∧ vs.length = ys.length:=by
    intro S' H' σ ρ τ ys s' hτ hf
    have sm : Same S1 S':=fun a o e=>s'.up a o (ss2 a o e)
    obtain ⟨fq,b1,b2,b3⟩:=s'.own
    obtain ⟨f1,f2,u1,u2,rfl⟩:=b1.append
    obtain ⟨g,v1,v2,v3⟩:=N4 (K:=K) (S0:=S1) (O:=O) (k:=0) sm hl sh s'.env (fun j v e1 e2=>s'.os (j,v) (osOf_mem.mpr ⟨by simpa using e2,e1⟩)) hf u1
    have nl:=RepP.noloc v3 v1
    refine ⟨⟨⟨g ++ f2,?_,?_,fun a ha=>b3 a ?_⟩,Fs v3 nl,fun v i m=>?_,s'.le,s'.r,s'.new,s'.up,(fun p m=>by rw [hos] at m; cases m),s'.tb⟩,v3⟩
    · rw [Zr v3]
      exact v1.join u2
    · exact (List.Sublist.append v2 (List.Sublist.refl f2)).nodup b2
    · exact (List.Sublist.append v2 (List.Sublist.refl f2)).subset ha
    · have:=hτ _ m; cases this
  have hx : XOk K c2 (fun cls d _ H=>E cls d H) (U9 O sp xs).ex:=by
    intro S' H' σ ρ C fs dd s' hd hex
    obtain ⟨ys,hf,hp⟩:=hex
    obtain ⟨s2,hl2⟩:=back s' (by simp) hf
    exact hE C fs ys dd H' S' hp hl2 s2 hd
  refine hs c2 _ (U9 O sp xs) hoin hx ⟨fun S' H' σ ρ s' q=>?_,fun S' H' σ ρ v r s' hr' q=>?_,fun S' H' σ ρ s' q=>q.elim,fun S' H' σ ρ s' q=>q.elim⟩ S1 H (L2.start N vs) (Yn N.length xs) s0 (hr2 xs hpre)
  · obtain ⟨ys,hf,hp⟩:=q
    have s3 : Stt K c2 S' H' σ ρ [(.non,.v .non)]:=s'.hold (Z0 rfl)
    obtain ⟨s2,hl2⟩:=back s3 (by simp [Y4]) hf
    exact hQ _ ys .non H' S' hp hl2 rfl s2
  · obtain ⟨ys,hf,hp⟩:=q
    obtain ⟨s2,hl2⟩:=back s' (fun p m=>by
      have e : p = (v,r):=by simpa using m
      rw [e]; exact hr') hf
    exact hQ _ ys v H' S' hp hl2 hr' s2
theorem Ux {N ps : List Str} {k : Nat} {sp : ASp} (O : List Nat) (F : FunD K x qual params body scope dvs kws f fd) (S : FnScope N ps scope) (hlen : ∀ xs,sp.pre xs → xs.length = ps.length) (hO : ∀ j ∈ O,j < ps.length)
    (hb : ∀ (cdv : Value) (Ar : Around) (outer : List Env) (s : Shared) (H : Hp) (E : XK),Room k (Ar.deeper (envOfC qual scope s.heap.objs.size f cdv)) →
      ∃ as,QSs (cxOf (L2.CX Pr w) Pr w K mg base N qual scope f cdv Ar outer s H E) ⟨fun cls d _ H=>E cls d H,O⟩ body as ∧ ∀ xs,sp.pre xs → as (U9 O sp xs) (Yn N.length xs)) : Fok Pr w K mg base (k + 1) f fd ps sp:=JXj O F S hlen hO fun cdv _=>hb cdv
end
end
section
variable {X : Cx} {P : Pm} {k : Nat} {f C : Addr} {fd : FuncData} {ps : List Str} {sp : ASp} {dvs : List V} {ds : List Value} {dd : List D} {x m : Str} {p pos apos : Pos} {e o : Expr} {es : List Expr} {aa : AA} {ao : AE}
theorem Hm {S : Hp} {K : Fg} {c : Ctx} {H : Hp} {σ : L2.St} {ρ : J0} {τ : List (V × A)} : ∀ {ds : List D} {dvs : List V},RepL K S ds dvs → Stt K c S H σ ρ τ → Stt K c S H σ ρ (dvs.zip (ds.map A.v) ++ τ)
  | [],dvs,h,s=>by
    simp only [RepL] at h
    subst h
    simpa using s
  | d :: ds,dvs,h,s=>by
    simp only [RepL] at h
    obtain ⟨v,r,rfl,h1,h2⟩:=h
    simp only [List.map_cons,List.zip_cons_cons,List.cons_append]
    exact (Hm h2 s).hold h1
/-- the defaults,as data that stand in every heap -/
def Dfl (K : Fg) (dd : List D) (dvs : List V) : Prop:=∀ S,RepL K S dd dvs
theorem Hf {K : Fg} : Dfl K [] []:=fun S=>by simp only [RepL]
def Ym (sp : ASp) (dd : List D) (aa : AA) : AE:=fun EA ρ Q=>aa EA ρ fun xs ρ1=>Yp sp (xs ++ dd.map A.v) EA ρ1 Q
theorem JYu {K : Fg} {ta : TA} (hd : Dfl K dd dvs) (h : Zn K P ta aa) : Yw K P (tCallSD (lift K sp) dvs (fun σ cls d H=>P.W cls d σ H) ta) (Ym sp dd aa):=fun c EA ho hw τ S H σ ρ Q R s q kk =>
  h c EA ho hw τ S H σ ρ _ _ s q fun vs H1 ⟨S1,ρ1,xs,hl,s1,q1⟩=>by
    have hdl : dvs.length = (dd.map A.v).length:=by rw [List.length_map]; exact (hd S1).len
    have s2 : Stt K c S1 H1 σ ρ1 ((vs ++ dvs).zip (xs ++ dd.map A.v) ++ τ):=by
      rw [List.zip_append hl,List.append_assoc]
      have z:=Hm (hd S1) s1
      refine z.swap ?_
      rw [← List.append_assoc,← List.append_assoc]
      exact List.Perm.append_right _ List.perm_append_comm
    exact Lw (Ms hw (by simp [hl,hdl]) s2 q1) (fun v H h=>kk v H h) fun _ _ _ h=>h
theorem JXb (F : Fok X.prog X.w X.K X.mg X.base k f fd ps sp) (hr : Room k X.A) (hg : Gl X x) (hm : X.mg x = some (.ref f)) (hk : PySem.W.keepIn X.K (.ref f) = true) (hb : Binds X.K fd ps ds) (hd : Vals dvs ds) (hD : Dfl X.K dd dvs) (hx : ∀ σ,PassesAt (L2.CX X.prog X.w) X σ (fun cls d H=>P.W cls d σ H)) (ha : QA X P (e :: es) aa)
    (hdb : (x == ("__debug__" : Str)) = false:=by decide) (he : starEach (e :: es) X.env = (false,eval e X.env) :: starEach es X.env:=by rfl) (hpl : (backTo pos (starEach es X.env)).any (·.1) = false:=by rfl) :
    QE X P (.Call (.Name x p) (e :: es) [] pos) (Ym sp dd aa):=let ⟨_,pa,sa⟩:=ha.ex; ⟨_,pe_callSD F hr hg hm hk hb hd hx pa hdb he hpl,JYu hD sa⟩
/-- o.m(..) -/
def JWc (C : Addr) (m : Str) (sp : Sp) (dvs : List V) (E : L2.St → XK) (ta : TE) (t : TA) : TE:=fun σ H Q=>ta σ H fun x H1=>∃ a dx fs,x = .ref a ∧ H1 a = some (.ins C dx fs) ∧ fs.lookup m = none ∧ t σ H1 fun vs H2=>sp (x :: (vs ++ dvs)) H2 Q (E σ)
theorem JMs {CX : CXT} {sp : Sp} {E : L2.St → XK} {ta : TE} {t : TA} {pl : Sem Bool} (he : PE X o ta) (c : Cls X.K C) (hm : Meth X.K C m f) (F : FnOk X.prog X.w X.K X.mg X.base CX k f fd ps sp) (hr : Room k X.A) (hb : Binds X.K fd ps ds) (hd : Vals dvs ds) (hx : ∀ σ,PassesAt CX X σ (E σ)) (ha : PA X (e :: es) t)
    (hst : starEach (e :: es) X.env = (false,eval e X.env) :: starEach es X.env:=by rfl) (hpl : (backTo pos (starEach es X.env)).any (·.1) = false:=by rfl)
    (ht : eval (.Call (.Attribute o m apos) (e :: es) [] pos) X.env = (do
      let ov ← eval o X.env
      standAt apos.atName
      let (f,first) ← holding [ov] (getMethod ov m pl)
      callWith pos f first (backTo pos (starEach (e :: es) X.env)) (backToKw pos (keywordEach [] X.env))):=by rfl) :
    PE X (.Call (.Attribute o m apos) (e :: es) [] pos) (JWc C m sp dvs E ta t):=by
  refine ⟨fun pins s σ H Q I h=>?_⟩
  refine PySem.W.methodCall_KW (pl:=pl) (thn (he.run pins s σ H _ I h) fun u s1 ⟨x,H1,I1,rx,a,dx,fs,ex,ea,l,q⟩=>?_) ht
  subst ex
  obtain rfl : u = Value.ref a:=rx
  refine getmeth_ok I1 ea c hm l ?_
  refine PySem.W.callWith_K (first:=[.ref a]) (h₀:=X.base) I.ok.mod.kin hm.kp (thn (ha.run pos pins s1 σ H1 _ I1 q) fun us s2 ⟨vs,H2,I2,r,q2⟩=>⟨I2.kIn,?_⟩) hst hpl
  exact run_fnSD (us:=.ref a :: us) (vs:=.ref a :: vs) F hr hb hd (hx σ) I2 (.cons rfl r) q2
/-- what method calls ask of the receiver -/
def Nn (C : Addr) (m : Str) (x : A) (ρ : J0) : Prop:=∃ fs,dat x ρ = some (.obj C fs) ∧ fs.lookup m = none
theorem Lv {K : Fg} {S : Hp} {m : Str} : ∀ {fs : List (Str × D)} {ws : List (Str × V)},RepF K S fs ws → (fs.lookup m = none ∧ ws.lookup m = none) ∨ ∃ d v,fs.lookup m = some d ∧ ws.lookup m = some v ∧ Rep K S d v
  | [],ws,h=>by
    simp only [RepF] at h
    subst h
    exact .inl ⟨rfl,rfl⟩
  | (k,x) :: r,ws,h=>by
    simp only [RepF] at h
    obtain ⟨v,r',rfl,h1,h2⟩:=h
    by_cases e : m = k
    · subst e
      exact .inr ⟨x,v,by simp [List.lookup],by simp [List.lookup],h1⟩
    · have q : (m == k) = false:=by simpa using e
      have e1 : List.lookup m ((k,x) :: r) = List.lookup m r:=by simp [List.lookup,q]
      have e2 : List.lookup m ((k,v) :: r') = List.lookup m r':=by simp [List.lookup,q]
      rw [e1,e2]
      exact Lv h2
theorem JG9 {K : Fg} {c : Ctx} {S H : Hp} {σ : L2.St} {ρ : J0} {τ : List (V × A)} {v : V} {y : A} (s : Stt K c S H σ ρ τ) (mm : (v,y) ∈ τ) (h : Nn C m y ρ) : ∃ a dx ws,v = .ref a ∧ H a = some (.ins C dx ws) ∧ ws.lookup m = none:=by
  obtain ⟨fs,h1,h2⟩:=h
  have r:=s.dat mm h1
  simp only [Rep] at r
  obtain ⟨a,dx,ws,rfl,h3,h4⟩:=r
  refine ⟨a,dx,ws,rfl,h3,?_⟩
  rcases Lv (m:=m) h4 with ⟨_,e⟩ | ⟨d,v,e1,e2,_⟩
  · exact e
  · rw [h2] at e1; cases e1
def Xm (C : Addr) (m : Str) (sp : ASp) (dd : List D) (ao : AE) (aa : AA) : AE:=fun EA ρ Q=>ao EA ρ fun o ρ1=>Nn C m o ρ1 ∧ aa EA ρ1 fun xs ρ2=>Yp sp (o :: (xs ++ dd.map A.v)) EA ρ2 Q
theorem JBn {K : Fg} {to : TE} {ta : TA} (hd : Dfl K dd dvs) (h0 : Yw K P to ao) (h : Zn K P ta aa) : Yw K P (JWc C m (lift K sp) dvs (fun σ cls d H=>P.W cls d σ H) to ta) (Xm C m sp dd ao aa):=fun c EA ho hw τ S H σ ρ Q R s q kk =>
  h0 c EA ho hw τ S H σ ρ _ _ s q fun vo H0 ⟨S0,ρ0,o,s0,hob,q0⟩=>by
    obtain ⟨a,dx,ws,rfl,h1,h2⟩:=JG9 s0 (List.mem_cons_self ..) hob
    refine ⟨a,dx,ws,rfl,h1,h2,h c EA ho hw _ S0 H0 σ ρ0 _ _ s0 q0 fun vs H1 ⟨S1,ρ1,xs,hl,s1,q1⟩=>?_⟩
    have hdl : dvs.length = (dd.map A.v).length:=by rw [List.length_map]; exact (hd S1).len
    have s2 : Stt K c S1 H1 σ ρ1 ((V.ref a :: (vs ++ dvs)).zip (o :: (xs ++ dd.map A.v)) ++ τ):=by
      rw [List.zip_cons_cons,List.zip_append hl]
      have z:=Hm (hd S1) s1
      refine z.swap ?_
      rw [List.cons_append,List.append_assoc]
      refine List.Perm.trans ?_ (List.perm_middle (l₁:=vs.zip xs ++ dvs.zip (dd.map A.v)) (a:=(V.ref a,o)) (l₂:=τ) |>.trans (by rw [List.append_assoc]))
      rw [List.append_assoc,← List.append_assoc,← List.append_assoc]
      exact List.Perm.append_right _ List.perm_append_comm
    exact Lw (Ms hw (by simp [hl,hdl]) s2 q1) (fun v H h=>kk v H h) fun _ _ _ h=>h
theorem JHo {pl : Sem Bool} (he : QE X P o ao) (c : Cls X.K C) (hm : Meth X.K C m f) (F : Fok X.prog X.w X.K X.mg X.base k f fd ps sp) (hr : Room k X.A) (hb : Binds X.K fd ps ds) (hd : Vals dvs ds) (hD : Dfl X.K dd dvs) (hx : ∀ σ,PassesAt (L2.CX X.prog X.w) X σ (fun cls d H=>P.W cls d σ H)) (ha : QA X P (e :: es) aa)
    (hst : starEach (e :: es) X.env = (false,eval e X.env) :: starEach es X.env:=by rfl) (hpl : (backTo pos (starEach es X.env)).any (·.1) = false:=by rfl)
    (ht : eval (.Call (.Attribute o m apos) (e :: es) [] pos) X.env = (do
      let ov ← eval o X.env
      standAt apos.atName
      let (f,first) ← holding [ov] (getMethod ov m pl)
      callWith pos f first (backTo pos (starEach (e :: es) X.env)) (backToKw pos (keywordEach [] X.env))):=by rfl) :
    QE X P (.Call (.Attribute o m apos) (e :: es) [] pos) (Xm C m sp dd ao aa):=let ⟨_,po,so⟩:=he.ex; let ⟨_,pa,sa⟩:=ha.ex; ⟨_,JMs po c hm F hr hb hd hx pa hst hpl ht,JBn hD so sa⟩
/-- C(..) -/
theorem JN1 {CX : CXT} {sp : Sp} {E : L2.St → XK} {pins : List (Addr × Obj)} {σ : L2.St} {H : Hp} {s : Shared} {Q : VK} {us : List Value} {vs : List V} (M : Mk X.K C f) (F : FnOk X.prog X.w X.K X.mg X.base CX k f fd ps sp) (hr : Room (k + 1) X.A) (hb : Binds X.K fd ps ds) (hd : Vals dvs ds)
    (hx : PassesAt CX X σ (E σ)) (I : Inv X pins σ H s) (r : Vals vs us)
    (h : ∀ x dx,H x = none → H dx = none → dx ≠ x → sp (.ref x :: (vs ++ dvs)) (upd (upd H dx (.own x)) x (.ins C dx [])) (fun v H2=>v = .non ∧ Q (.ref x) H2) (E σ)) :
    wpAny (model X.prog X.w) X.A (call (.ref C) us) (EP X pins σ Q) X.xe s:=by
  have hq:=h (s.heap.objs.size + 1) s.heap.objs.size (I.hok.fresh (Nat.le_succ _)) (I.hok.fresh (Nat.le_refl _)) (Nat.ne_of_lt (Nat.lt_succ_self _))
  have I2:=Inv.made (C:=C) I
  have r2 : Vals (V.ref (s.heap.objs.size + 1) :: (vs ++ dvs)) (Value.ref (s.heap.objs.size + 1) :: (us ++ ds)):=.cons rfl (r.append hd)
  have hl : (Value.ref (s.heap.objs.size + 1) :: us ++ ds).length = ps.length:=by
    have e:=r2.length
    rw [F.len _ _ _ _ hq] at e
    exact e.symm
  refine wpAny_call (make_map (f:=f) I.kIn M.makes M.init (beq_iff_eq.mp M.fn) (codeAny_mono (F.run _ X.stack _ _ ⟨Value.ref (s.heap.objs.size + 1) :: us,[]⟩ (Value.ref (s.heap.objs.size + 1) :: (us ++ ds)) _ _ (E σ) (hr.make C us [])
    (I2.env0.make C us []) (hb _ (Value.ref (s.heap.objs.size + 1) :: us) I2.kIn hl) r2 hq) fun r s' hq'=>?_))
  cases r with
  | error e=>exact hx pins _ _ e s' I2 hq'
  | ok fl =>
    cases fl with
    | ret u =>
      obtain ⟨v,H',I3,rv,ev,q3⟩:=I2.after hq'
      subst ev
      exact ⟨rv,⟨V.ref (s.heap.objs.size + 1),H',I3,rfl,q3⟩⟩
    | next=>exact False.elim hq'
    | brk=>exact False.elim hq'
    | cont=>exact False.elim hq'
def Qe (C : Addr) (sp : Sp) (dvs : List V) (E : L2.St → XK) (t : TA) : TE:=fun σ H Q=>t σ H fun vs H1=>∀ x dx,H1 x = none → H1 dx = none → dx ≠ x →
  sp (.ref x :: (vs ++ dvs)) (upd (upd H1 dx (.own x)) x (.ins C dx [])) (fun v H2=>v = .non ∧ Q (.ref x) H2) (E σ)
theorem JKe {CX : CXT} {sp : Sp} {E : L2.St → XK} {t : TA} (M : Mk X.K C f) (F : FnOk X.prog X.w X.K X.mg X.base CX k f fd ps sp) (hr : Room (k + 1) X.A) (hg : Gl X x) (hm : X.mg x = some (.ref C)) (hb : Binds X.K fd ps ds) (hd : Vals dvs ds) (hx : ∀ σ,PassesAt CX X σ (E σ))
    (ha : PA X (e :: es) t) (hdb : (x == ("__debug__" : Str)) = false:=by decide) (he : starEach (e :: es) X.env = (false,eval e X.env) :: starEach es X.env:=by rfl) (hpl : (backTo pos (starEach es X.env)).any (·.1) = false:=by rfl) :
    PE X (.Call (.Name x p) (e :: es) [] pos) (Qe C sp dvs E t):=by
  refine ⟨fun pins s σ H Q I h=>?_⟩
  refine wpAny_Call_Name_kw (ld_glob I hg hm ?_ hdb)
  refine PySem.W.callWith_K (h₀:=X.base) I.ok.mod.kin M.kp (thn (ha.run pos pins s σ H _ I h) fun us s1 ⟨vs,H1,I1,r,q⟩=>⟨I1.kIn,?_⟩) he hpl
  exact JN1 M F hr hb hd (hx σ) I1 r q
/-- a new instance,then __init__: the first parameter is the instance -/
def JUr (C : Addr) (sp : ASp) (xs : List A) : AE:=fun EA ρ Q=>∃ ys ρ',pass xs ρ = some (ys,ρ') ∧ sp.pre (.obj C [] :: ys) ∧ (∀ r y ys',sp.post (.obj C [] :: ys) r (y :: ys') → ys'.length = ys.length → r = .v .non ∧ Q y (give xs ys' ρ')) ∧ ∀ Ce fs y ys',sp.exc (.obj C [] :: ys) Ce fs (y :: ys') → ys'.length = ys.length → EA Ce fs (give xs ys' ρ')
def JVc (C : Addr) (sp : ASp) (dd : List D) (aa : AA) : AE:=fun EA ρ Q=>aa EA ρ fun xs ρ1=>JUr C sp (xs ++ dd.map A.v) EA ρ1 Q
end
end Vs
namespace Vs
open PySem PySem.Spec PyProof.Rows L2
variable [Tbs]
section
variable {K : Fg} {c : Ctx} {S H : Hp} {σ : L2.St} {ρ : J0} {τ : List (V × A)}
theorem Stt.rest (s : Stt K c S H σ ρ τ) : Stt K { c with S0:=S } S H σ ρ τ:=⟨s.own,s.env,s.loc,s.le,s.r,fun _ _=>rfl,Same.refl S,s.os,s.tb⟩
theorem Stt.rebase {S2 H2 : Hp} {σ2 : L2.St} {ρ2 : J0} {τ2 : List (V × A)} (s : Stt K c S H σ ρ τ) (t : Stt K { c with S0:=S } S2 H2 σ2 ρ2 τ2) : Stt K c S2 H2 σ2 ρ2 τ2 :=
  ⟨t.own,t.env,t.loc,t.le,t.r,fun a ha=>(t.new a ha).trans (s.new a ha),fun a o e=>t.up a o (s.up a o e),t.os,t.tb⟩
theorem XOk.rebase {W : WX} {EA : AX} (s : Stt K c S H σ ρ τ) (h : XOk K c W EA) : XOk K { c with S0:=S } W EA:=fun S2 H2 σ2 ρ2 C fs dd t xd e=>h S2 H2 σ2 ρ2 C fs dd (s.rebase t) xd e
theorem Link.rebase {D : Ends} {DA : AEnds} (s : Stt K c S H σ ρ τ) (l : Link K c D DA) : Link K { c with S0:=S } D DA :=
  ⟨fun S2 H2 σ2 ρ2 t=>l.nx S2 H2 σ2 ρ2 (s.rebase t),fun S2 H2 σ2 ρ2 v x t=>l.rt S2 H2 σ2 ρ2 v x (s.rebase t),fun S2 H2 σ2 ρ2 t=>l.bk S2 H2 σ2 ρ2 (s.rebase t),fun S2 H2 σ2 ρ2 t=>l.ct S2 H2 σ2 ρ2 (s.rebase t)⟩
end
abbrev AI:=AX → J0 → (List D → (J0 → Prop) → J0 → Prop) → Prop
def H7 (K : Fg) (c : Ctx) (J : It) (xs : List D) (G : J0 → Prop) : Prop:=∀ S H σ ρ τ,Stt K c S H σ ρ τ → G ρ →
  (∀ i d,xs[i]? = some d → J.go i H ∧ ∀ v H',J.yld i H v H' → ∃ S',Stt K c S' H' σ ρ ((v,.v d) :: τ)) ∧ ∀ i,xs.length ≤ i → J.stop i H
/-- a context of a part -/
structure Reb (K : Fg) (c c' : Ctx) : Prop where
  os : c'.os = c.os
  back : ∀ {S H : Hp} {σ : L2.St} {ρ : J0} {τ : List (V × A)},Stt K c' S H σ ρ τ → Stt K c S H σ ρ τ
theorem Reb.osIn {K : Fg} {c c' : Ctx} {O : OL} (r : Reb K c c') (h : OsIn K c O) : OsIn K c' O:=by
  unfold OsIn
  rw [r.os]
  exact ⟨h.1,h.2.1,fun S H σ ρ τ s=>h.2.2 S H σ ρ τ (r.back s)⟩
theorem Reb.xok {K : Fg} {c c' : Ctx} {W : WX} {EA : AX} (r : Reb K c c') (h : XOk K c W EA) : XOk K c' W EA:=fun S2 H2 σ2 ρ2 C fs dd t xd e=>h S2 H2 σ2 ρ2 C fs dd (r.back t) xd e
theorem Reb.rest {K : Fg} {c : Ctx} {S H : Hp} {σ : L2.St} {ρ : J0} {τ : List (V × A)} (s : Stt K c S H σ ρ τ) : Reb K c { c with S0:=S }:=⟨rfl,fun t=>s.rebase t⟩
def Mz (K : Fg) (P : Pm) (wi : TI) (ai : AI) : Prop:=∀ c EA,OsIn K c P.O → XOk K c P.W EA → ∀ τ S H σ ρ Q (R : It → Hp → Prop),Stt K c S H σ ρ τ → ai EA ρ Q →
  (∀ c' J H' S' ρ' xs G,Reb K c c' → Stt K c' S' H' σ ρ' τ → H7 K c' J xs G → Q xs G ρ' → R J H') → wi σ H R
structure QI (X : Cx) (P : Pm) (tg it : Expr) (ai : AI) : Prop where
  ex : ∃ wi,PI X tg it wi ∧ Mz X.K P wi ai
/-- the signs of a text -/
def Zj (x : Str) : List D:=x.cps.toList.map fun c=>.str ⟨#[c]⟩
def Zt : D → Option (List D)
  | .lst xs=>some xs
  | .tup xs=>some xs
  | .str x=>some (Zj x)
  | _=>none
section
variable {X : Cx} {P : Pm} {K : Fg} {tg : Expr}
def JZd (K : Fg) (te : TE) : TI:=fun σ H R=>te σ H fun v H1=>(∃ a,v = .ref a ∧ (∃ xs,SqL K H1 a xs) ∧ R (Itl K a) H1) ∨ (∃ a,v = .ref a ∧ (∃ xs,SqT K H1 a xs) ∧ R (Itt K a) H1) ∨ ∃ x,v = .str x ∧ R (Its x) H1
theorem JHz {l : Expr} {tl : TE} (hl : PE X l tl) : PI X tg l (JZd X.K tl):=by
  refine ⟨fun pins s σ H R I h=>?_⟩
  refine thn (hl.run pins s σ H _ I h) fun v s1 ⟨x,H1,I1,r1,q1⟩=>?_
  rcases q1 with ⟨a,e,⟨xs,hq⟩,q⟩ | ⟨a,e,⟨xs,hq⟩,q⟩ | ⟨x,ex,q⟩
  · subst e
    cases r1
    obtain ⟨its,rv,p,hz⟩:=I1.list hq
    refine wpAny_pyIter_list p.isList ?_
    refine ⟨s1.heap.objs.size,[s1.heap.objs.size],_,_,H1,rfl,I1.kept (t':=s1.toks) fun b o e=>Heap.get?_push_of_some _ e,turn_list a _,⟨_,Heap.get?_push_size _ rfl,rfl,rfl⟩,fun b hb=>?_,q⟩
    have e : b = s1.heap.objs.size:=by simpa using hb
    subst e
    exact I1.fpOk (Nat.le_refl _) (I1.hok.fresh (Nat.le_refl _))
  · subst e
    cases r1
    obtain ⟨its,rv,p,hz⟩:=I1.tuple hq
    refine wpAny_pyIter_tuple (show s1.heap.IsTuple a its.toArray from p) ?_
    refine ⟨s1.heap.objs.size,[s1.heap.objs.size],_,_,H1,rfl,I1.kept (t':=s1.toks) fun b o e=>Heap.get?_push_of_some _ e,turn_tuple a _,⟨_,Heap.get?_push_size _ rfl,rfl,rfl⟩,fun b hb=>?_,q⟩
    have e : b = s1.heap.objs.size:=by simpa using hb
    subst e
    exact I1.fpOk (Nat.le_refl _) (I1.hok.fresh (Nat.le_refl _))
  · subst ex
    obtain ⟨t,rfl⟩:=r1
    cases ha : x.cps.all (· < 128)
    · exact wpAny_pyIter_wide ha (pi_one (tk:=s1.toks) I1 _ (turn_str _ x t "str_iterator" (.inr rfl)) ⟨_,Heap.get?_push_size _ rfl,rfl,rfl⟩ q)
    · exact wpAny_pyIter_ascii ha (pi_one (tk:=s1.toks) I1 _ (turn_str _ x t "str_ascii_iterator" (.inl rfl)) ⟨_,Heap.get?_push_size _ rfl,rfl,rfl⟩ q)
theorem RepL.at0 {S : Hp} : ∀ {xs : List D} {vs : List V} {i : Nat} {d : D},RepL K S xs vs → xs[i]? = some d → ∃ v,vs[i]? = some v ∧ Rep K S d v
  | [],vs,i,d,_,h=>by simp at h
  | x :: xs,vs,0,d,r,h=>by
    simp only [RepL] at r
    obtain ⟨v,r',rfl,h1,_⟩:=r
    have e : x = d:=by simpa using h
    subst e
    exact ⟨v,by simp,h1⟩
  | x :: xs,vs,i + 1,d,r,h=>by
    simp only [RepL] at r
    obtain ⟨v,r',rfl,_,h2⟩:=r
    obtain ⟨u,h3,h4⟩:=RepL.at0 h2 (i:=i) (by simpa using h)
    exact ⟨u,by simpa using h3,h4⟩
theorem JFy {x : Str} {i : Nat} {d : D} (h : (Zj x)[i]? = some d) : ∃ c,x.cps[i]? = some c ∧ d = .str ⟨#[c]⟩:=by
  unfold Zj at h
  rw [List.getElem?_map] at h
  cases e : x.cps.toList[i]? with
  | none=>rw [e] at h; cases h
  | some c =>
    rw [e] at h
    exact ⟨c,by simpa using e,(Option.some.inj h).symm⟩
/-- the things of a shared datum -/
theorem JFc {c : Ctx} {d : D} {xs : List D} {v : V} (hx : Zt d = some xs) (r : Rep K c.S0 d v) :
    (∃ a,v = .ref a ∧ (∃ vs,SqL K c.S0 a vs) ∧ H7 K c (Itl K a) xs fun _=>True) ∨ (∃ a,v = .ref a ∧ (∃ vs,SqT K c.S0 a vs) ∧ H7 K c (Itt K a) xs fun _=>True) ∨ ∃ x,v = .str x ∧ H7 K c (Its x) xs fun _=>True:=by
  cases d with
  | lst ys =>
    simp only [Zt] at hx
    injection hx with hx
    subst hx
    simp only [Rep] at r
    obtain ⟨a,vs,rfl,h1,h2⟩:=r
    refine .inl ⟨a,rfl,⟨vs,h1⟩,fun S H σ ρ τ s _=>⟨fun i d hd=>?_,fun i hi=>⟨vs,SqL.le (Le.trans s.up s.le) h1,by rw [h2.len]; exact hi⟩⟩⟩
    obtain ⟨u,hu,ru⟩:=h2.at0 hd
    refine ⟨⟨vs,u,SqL.le (Le.trans s.up s.le) h1,hu⟩,fun v H' ⟨e,hy⟩=>?_⟩
    have:=hy vs (SqL.le (Le.trans s.up s.le) h1)
    rw [hu] at this
    cases this
    subst e
    exact ⟨S,s.hold (Rep.le (Le.of_same s.up) d _ ru)⟩
  | tup ys =>
    simp only [Zt] at hx
    injection hx with hx
    subst hx
    simp only [Rep] at r
    obtain ⟨a,vs,rfl,h1,h2⟩:=r
    refine .inr (.inl ⟨a,rfl,⟨vs,h1⟩,fun S H σ ρ τ s _=>⟨fun i d hd=>?_,fun i hi=>⟨vs,SqT.le (Le.trans s.up s.le) h1,by rw [h2.len]; exact hi⟩⟩⟩)
    obtain ⟨u,hu,ru⟩:=h2.at0 hd
    refine ⟨⟨vs,u,SqT.le (Le.trans s.up s.le) h1,hu⟩,fun v H' ⟨e,hy⟩=>?_⟩
    have:=hy vs (SqT.le (Le.trans s.up s.le) h1)
    rw [hu] at this
    cases this
    subst e
    exact ⟨S,s.hold (Rep.le (Le.of_same s.up) d _ ru)⟩
  | str x =>
    simp only [Zt] at hx
    injection hx with hx
    subst hx
    simp only [Rep] at r
    subst r
    refine .inr (.inr ⟨x,rfl,fun S H σ ρ τ s _=>⟨fun i d hd=>?_,fun i hi=>?_⟩⟩)
    · obtain ⟨c',hc,rfl⟩:=JFy hd
      refine ⟨(Array.getElem?_eq_some_iff.mp hc).1,fun v H' ⟨e,c2,h2,h3⟩=>?_⟩
      rw [hc] at h2
      cases h2
      subst e h3
      exact ⟨S,s.hold (Z0 rfl)⟩
    · show x.cps.size ≤ i
      have : (Zj x).length = x.cps.size:=by simp [Zj]
      omega
  | _=>cases hx
/-- a sequence: what a slot holds is shared from now on -/
def Vj (ae : AE) : AI:=fun EA ρ Q=>ae EA ρ fun x ρ1=>Yd x ρ1 fun d ρ2=>∃ xs,Zt d = some xs ∧ Q xs (fun _=>True) ρ2
theorem SqL.up {S S' : Hp} {a : Addr} {vs : List V} (h : Le S S') (q : SqL K S a vs) : SqL K S' a vs:=SqL.le h q
theorem W6 {e : Expr} {ae : AE} (h : QE X P e ae) : QI X P tg e (Vj ae):=by
  obtain ⟨t,p,s⟩:=h.ex
  refine ⟨_,JHz p,fun c EA ho hw τ S H σ ρ Q R st q k=>s c EA ho hw τ S H σ ρ _ _ st q fun v H1 ⟨S1,ρ1,x,s1,q1⟩=>?_⟩
  obtain ⟨S2,d,ρ2,sm,s2,xs,hx,q2⟩:=W3 s1 q1
  have r:=s2.data
  rcases JFc (c:={ c with S0:=S2 }) hx r with ⟨a,e,⟨vs,h1⟩,h2⟩ | ⟨a,e,⟨vs,h1⟩,h2⟩ | ⟨x,e,h2⟩
  · exact .inl ⟨a,e,⟨vs,SqL.le s2.le h1⟩,k _ _ _ S2 ρ2 xs _ (Reb.rest s2) s2.drop.rest h2 q2⟩
  · exact .inr (.inl ⟨a,e,⟨vs,SqT.le s2.le h1⟩,k _ _ _ S2 ρ2 xs _ (Reb.rest s2) s2.drop.rest h2 q2⟩)
  · exact .inr (.inr ⟨x,e,k _ _ _ S2 ρ2 xs _ (Reb.rest s2) s2.drop.rest h2 q2⟩)
/-- numbers -/
def W7 (lo : Int) (n : Nat) : List D:=(List.range n).map fun i=>.int (lo + (i : Nat))
theorem JGl {lo : Int} {n i : Nat} {d : D} (h : (W7 lo n)[i]? = some d) : i < n ∧ d = .int (lo + (i : Nat)):=by
  unfold W7 at h
  rw [List.getElem?_map] at h
  by_cases e : i < n
  · rw [List.getElem?_range e] at h
    exact ⟨e,(Option.some.inj h).symm⟩
  · rw [List.getElem?_eq_none (by simpa using e)] at h
    cases h
theorem JZt {c : Ctx} {lo : Int} {n : Nat} : H7 K c (Itr lo n) (W7 lo n) fun _=>True:=fun S H σ ρ τ s _=>⟨fun i d hd=>by
    obtain ⟨h1,rfl⟩:=JGl hd
    exact ⟨h1,fun v H' ⟨e,h⟩=>by subst e h; exact ⟨S,s.hold (Z0 rfl)⟩⟩,fun i hi=>by
    have : (W7 lo n).length = n:=by simp [W7]
    show n ≤ i
    omega⟩
def H6 (aa : AA) : AI:=fun EA ρ Q=>aa EA ρ fun xs ρ1=>∃ x j,xs = [x] ∧ dat x ρ1 = some (.int j) ∧ -(2 ^ 62) ≤ j ∧ j < 2 ^ 62 ∧ Q (W7 0 j.toNat) (fun _=>True) ρ1
theorem JWj {a : Expr} {aa : AA} {p pos : Pos} (hg : Gl X "range") (hm : X.mg "range" = none) (ha : QA X P [a] aa) (hs : starEach [a] X.env = [(false,eval a X.env)]:=by rfl) : QI X P tg (.Call (.Name "range" p) [a] [] pos) (H6 aa):=by
  obtain ⟨t,pa,s⟩:=ha.ex
  refine ⟨_,pi_range1 hg hm pa hs,fun c EA ho hw τ S H σ ρ Q R st q k=>s c EA ho hw τ S H σ ρ _ _ st q fun vs H1 ⟨S1,ρ1,xs,hl,s1,x,j,e,hd,h1,h2,q1⟩=>?_⟩
  subst e
  cases vs with
  | nil=>simp at hl
  | cons v vs =>
    cases vs with
    | nil =>
      have r:=s1.dat (v:=v) (x:=x) (by simp) hd
      simp only [Rep] at r
      subst r
      exact ⟨j,rfl,h1,h2,k _ _ _ S1 ρ1 _ _ (Reb.rest s1) (Stt.drops (ts:=[V.int j].zip [x]) s1).rest JZt q1⟩
    | cons _ _=>simp at hl
end
abbrev AG:=D → J0 → (J0 → Prop) → Prop
abbrev AGs:=List D → J0 → (J0 → Prop) → Prop
/-- σ2 is σ but for some slots -/
def But (ws : List Nat) (σ σ2 : L2.St) : Prop:=σ2.length = σ.length ∧ ∀ i,i ∉ ws → σ2[i]? = σ[i]?
theorem But.refl {ws : List Nat} {σ : L2.St} : But ws σ σ:=⟨rfl,fun _ _=>rfl⟩
theorem But.trans {ws vs : List Nat} {σ σ2 σ3 : L2.St} (h : But ws σ σ2) (h2 : But vs σ2 σ3) : But (ws ++ vs) σ σ3 :=
  ⟨h2.1.trans h.1,fun i hi=>(h2.2 i fun z=>hi (by simp [z])).trans (h.2 i fun z=>hi (by simp [z]))⟩
def Hb (K : Fg) (P : Pm) (g : TG) (ag : AG) (ws : List Nat) : Prop:=∀ c,OsIn K c P.O → ∀ τ S H σ ρ v d Q (R : L2.St → Hp → Prop),Stt K c S H σ ρ ((v,.v d) :: τ) → (∀ u i,(u,A.loc i) ∈ τ → i ∉ ws) → ag d ρ Q → (∀ σ' ρ',Stt K c S H σ' ρ' τ → But ws σ σ' → Q ρ' → R σ' H) → g v σ H R
def JXu (K : Fg) (P : Pm) (g : TGs) (ag : AGs) (ws : List Nat) : Prop:=∀ c,OsIn K c P.O → ∀ τ S H σ ρ vs ds Q (R : L2.St → Hp → Prop),Stt K c S H σ ρ τ → RepL K S ds vs → (∀ u i,(u,A.loc i) ∈ τ → i ∉ ws) → ag ds ρ Q → (∀ σ' ρ',Stt K c S H σ' ρ' τ → But ws σ σ' → Q ρ' → R σ' H) → g vs σ H R
structure QG (X : Cx) (P : Pm) (tg : Expr) (ag : AG) (ws : List Nat) : Prop where
  ex : ∃ g,PG X tg g ∧ Hb X.K P g ag ws
structure QGs (X : Cx) (P : Pm) (tg : List Expr) (ag : AGs) (ws : List Nat) : Prop where
  ex : ∃ g,PGs X tg g ∧ JXu X.K P g ag ws
section
variable {X : Cx} {P : Pm} {K : Fg} {pos : Pos}
def Ui (i : Nat) : AG:=fun d ρ Q=>Q (ρ.set i (some (.v d)))
def G2 : AGs:=fun ds ρ Q=>ds = [] ∧ Q ρ
def Xe (a : AG) (b : AGs) : AGs:=fun ds ρ Q=>∃ d r,ds = d :: r ∧ a d ρ fun ρ'=>b r ρ' Q
def Ha (n : Nat) (b : AGs) : AG:=fun d ρ Q=>∃ ds,d = .tup ds ∧ ds.length = n ∧ b ds ρ Q
theorem V3 {i : Nat} {x : Str} (hN : X.N.Nodup) (hi : X.N[i]? = some x) (hx : Loc X.env.scope x) (hO : i ∉ P.O) (hf : X.fn x = true ∨ X.env.scope.names.lookup x = some .local:=by first | exact .inl rfl | exact .inr rfl | assumption) : QG X P (.Name x pos) (Ui i) [i] :=
  ⟨_,pg_name hN hi hx hf,fun c ho τ S H σ ρ v d Q R s hn q k=>k _ _ (s.store rfl (ho.ne hO) fun u m=>hn u i m (by simp)) ⟨by simp,fun j hj=>List.getElem?_set_ne (fun z=>hj (by simp [z]))⟩ q⟩
theorem Ew : QGs X P [] G2 []:=⟨_,pgs_nil,fun c ho τ S H σ ρ vs ds Q R s r hn ⟨e,q⟩ k=>by
  subst e
  simp only [RepL] at r
  exact ⟨r,k _ _ s But.refl q⟩⟩
theorem Gr {e : Expr} {es : List Expr} {a : AG} {b : AGs} {ws vs : List Nat} (h1 : QG X P e a ws) (h2 : QGs X P es b vs) (hs : (assignEach (e :: es) X.env).map (·.2) = assign e X.env :: (assignEach es X.env).map (·.2):=by rfl) : QGs X P (e :: es) (Xe a b) (ws ++ vs):=by
  obtain ⟨t,p,s⟩:=h1.ex
  obtain ⟨t2,p2,s2⟩:=h2.ex
  refine ⟨_,pgs_cons p p2 hs,fun c ho τ S H σ ρ us ds Q R st r hn ⟨d,rs,e,q⟩ k=>?_⟩
  subst e
  simp only [RepL] at r
  obtain ⟨v,r',rfl,h3,h4⟩:=r
  refine ⟨v,r',rfl,s c ho τ S H σ ρ v d _ _ (st.hold h3) (fun u i m z=>hn u i m (by simp [z])) q fun σ' ρ' st' bt q'=>?_⟩
  exact s2 c ho τ S H σ' ρ' r' rs _ _ st' h4 (fun u i m z=>hn u i m (by simp [z])) q' fun σ2 ρ2 st2 bt2 q2=>k σ2 ρ2 st2 (bt.trans bt2) q2
theorem JVu {es : List Expr} {k : Nat} {b : AGs} {n : Nat} {ws : List Nat} (hc : X.calm = true) (h : QGs X P es b ws) (hn : (assignEach es X.env).length = n:=by rfl) (hst : (assignEach es X.env).findIdx? (·.1) = none:=by rfl) : QG X P (.Tuple es k pos) (Ha n b) ws:=by
  obtain ⟨t,p,s⟩:=h.ex
  refine ⟨_,pg_tup hc p hn hst,fun c ho τ S H σ ρ v d Q R st hnn ⟨ds,e,hl,q⟩ k=>?_⟩
  subst e
  have r:=st.data
  simp only [Rep] at r
  obtain ⟨a,vs,rfl,h1,h2⟩:=r
  exact ⟨a,vs,rfl,SqT.le st.le h1,by rw [h2.len]; exact hl,s c ho τ S H σ ρ vs ds _ _ st.drop h2 hnn q k⟩
def forA (G : J0 → Prop) (ag : AG) (ab : AS) (DA : AEnds) : List D → J0 → Prop
  | [],ρ=>G ρ ∧ DA.nx ρ
  | x :: xs,ρ=>G ρ ∧ ag x ρ fun ρ'=>ab { DA with nx:=forA G ag ab DA xs,ct:=forA G ag ab DA xs,bk:=DA.nx } ρ'
def Wq (ai : AI) (ag : AG) (ab : AS) : AS:=fun DA ρ=>ai DA.ex ρ fun xs G ρ'=>forA G ag ab DA xs ρ'
theorem Za {tg iter : Expr} {body : List Stmt} {ai : AI} {ag : AG} {ab : AS} {ws : List Nat} (hp : PassesOwn (model X.prog X.w) X.A X.env X.xe) (hc : X.calm = true) (hi : QI X P tg iter ai) (hg : QG X P tg ag ws) (hb : QSs X P body ab)
    (hs : ∀ x,foldedSetIterable iter X.env x = pure x:=by intro _; rfl) : QS X P (.For tg iter body [] pos) (Wq ai ag ab):=by
  obtain ⟨wi,pi,si⟩:=hi.ex
  obtain ⟨g,pg,sg⟩:=hg.ex
  obtain ⟨tb,pb,sb⟩:=hb.ex
  refine ⟨_,ps_for hp hc pi pg pb hs,fun c D DA ho hw l S H σ ρ st q=>si c DA.ex ho hw [] S H σ ρ _ _ st q fun c' J H1 S1 ρ1 xs G rb s1 hJ q1=>?_⟩
  refine ⟨fun i m σ H=>∃ S ρ,Stt X.K c' S H σ ρ [] ∧ i + m = xs.length ∧ forA G ag ab DA (xs.drop i) ρ,⟨xs.length,S1,ρ1,s1,by omega,by simpa using q1⟩,?_⟩
  rintro i m σ2 H2 ⟨S2,ρ2,s2,hm,q2⟩
  by_cases hlt : i < xs.length
  · have e : xs.drop i = xs[i] :: xs.drop (i + 1):=List.drop_eq_getElem_cons hlt
    rw [e] at q2
    obtain ⟨hG,q2⟩:=q2
    obtain ⟨h1,h2⟩:=(hJ S2 H2 σ2 ρ2 [] s2 hG).1 i xs[i] (List.getElem?_eq_getElem hlt)
    refine .inr ⟨h1,fun σ' H'=>∃ S ρ,Stt X.K c' S H' σ' ρ [] ∧ forA G ag ab DA (xs.drop (i + 1)) ρ,fun σ' H' ⟨S',ρ',a1,a2⟩=>⟨m - 1,by omega,S',ρ',a1,by omega,a2⟩,fun x H' hy=>?_⟩
    obtain ⟨S3,s3⟩:=h2 x H' hy
    refine sg c' (rb.osIn ho) [] S3 H' σ2 ρ2 x xs[i] _ _ s3 (fun _ _ m=>by simp at m) q2 fun σ' ρ' s4 _ q4=>?_
    refine sb c' { D with nx:=fun σ' H'=>∃ S ρ,Stt X.K c' S H' σ' ρ [] ∧ forA G ag ab DA (xs.drop (i + 1)) ρ,ct:=fun σ' H'=>∃ S ρ,Stt X.K c' S H' σ' ρ [] ∧ forA G ag ab DA (xs.drop (i + 1)) ρ,bk:=D.nx } { DA with nx:=forA G ag ab DA (xs.drop (i + 1)),ct:=forA G ag ab DA (xs.drop (i + 1)),bk:=DA.nx } (rb.osIn ho) (rb.xok hw) ⟨fun S H σ ρ a b=>⟨S,ρ,a,b⟩,fun S H σ ρ v x a=>l.rt S H σ ρ v x (rb.back a),fun S H σ ρ a=>l.nx S H σ ρ (rb.back a),fun S H σ ρ a b=>⟨S,ρ,a,b⟩⟩ S3 H' σ' ρ' s4 q4
  · have e : xs.drop i = []:=List.drop_eq_nil_of_le (by omega)
    rw [e] at q2
    exact .inl ⟨(hJ S2 H2 σ2 ρ2 [] s2 q2.1).2 i (by omega),l.nx S2 H2 σ2 ρ2 (rb.back s2) q2.2⟩
/-- slots are forgotten -/
def Y7 : List Nat → J0 → J0
  | [],ρ=>ρ
  | v :: vs,ρ=>(Y7 vs ρ).set v none
theorem Stt.clears {c : Ctx} {S H : Hp} {σ : L2.St} {ρ : J0} {τ : List (V × A)} (s : Stt K c S H σ ρ τ) : ∀ (vs : List Nat),(∀ u i,(u,A.loc i) ∈ τ → i ∉ vs) → Stt K c S H σ (Y7 vs ρ) τ
  | [],_=>s
  | v :: vs,h=>(Stt.clears s vs fun u i m z=>h u i m (by simp [z])).clear v fun u m=>h u v m (by simp)
theorem JZw (vs : List Nat) {st : Stmt} {a : AS} (h : QS X P st a) : QS X P st (fun DA ρ=>a DA (Y7 vs ρ)) :=
  let ⟨t,p,s⟩:=h.ex; ⟨t,p,fun c D DA ho hw l S H σ ρ st q=>s c D DA ho hw l S H σ _ (st.clears vs fun _ _ m=>by simp at m) q⟩
end
end Vs
namespace Vs
open PySem PySem.Spec PyProof.Rows L2
variable [Tbs]
section
variable {X : Cx} {P : Pm} {K : Fg} {a b e : Expr} {pos : Pos} {aa ab : AE}
theorem OpR.or {f : Value → Value → Sem Value} {r r' : R2} (h : OpR X f r) (h' : OpR X f r') : OpR X f (fun x y H Q=>r x y H Q ∨ r' x y H Q):=fun pins s σ H x y v u Q I rx ry q =>
  q.elim (fun q=>h pins s σ H x y v u Q I rx ry q) fun q=>h' pins s σ H x y v u Q I rx ry q
def Fd : R2:=fun x y H Q=>∃ a v,x = .ref a ∧ DGet H a y (some v) ∧ Q v H
theorem JVw (hu : X.A.units + 64 < cLine) : IxR X Fd:=by
  intro value slice pins s σ H x y v u Q I rx ry h hs
  obtain ⟨a,z,ex,g,q⟩:=h
  subst ex
  obtain rfl : v = Value.ref a:=rx
  have hT:=dict_typeIs I g
  unfold subscriptTail
  refine wpAny_bind ?_
  rw [getitemInPython_of_ne hT.not_modules]
  refine wpAny_bind (wpAny_specialOf hT PySem.F.slot_dict_getitem.lookup ?_)
  have fin : wpAny (model X.prog X.w) X.A (subscripted slice false (.ref a) u) (fun r s₃=>wpAny (model X.prog X.w) X.A (letTemporaryGo value (.ref a) r >>= fun _=>pure r) (EP X pins σ Q) X.xe s₃) X.xe s:=by
    rw [hs]
    exact wpAny_operating (d_getItem (by omega) I g ry fun w' s3 I3 rw'=>wpAny_bind (wpAny_letTemporaryGo (wpAny_pure ⟨z,H,I3,rw',q⟩)))
  first
    | exact wpAny_pure (wpAny_bind fin)
    | exact wpAny_bind (wpAny_pure (wpAny_bind fin))
    | exact wpAny_bind fin
theorem IxR.or {r r' : R2} (h : IxR X r) (h' : IxR X r') : IxR X (fun x y H Q=>r x y H Q ∨ r' x y H Q):=fun value slice pins s σ H x y v u Q I rx ry q hs =>
  q.elim (fun q=>h value slice pins s σ H x y v u Q I rx ry q hs) fun q=>h' value slice pins s σ H x y v u Q I rx ry q hs
/-- d[i],the item of a list,tuple,text or dict -/
def itD (d i : D) : Option D:=match d,i with
  | .lst xs,.int j=>atI xs j
  | .tup xs,.int j=>atI xs j
  | .str x,.int j=>if x.length ≤ 100000 then (atI x.cps.toList j).map fun ch=>.str ⟨#[ch]⟩ else none
  | .dic kvs,i=>(keyD i).bind (valD kvs)
  | _,_=>none
def aIx : AR2:=fun x y ρ Q=>∃ d i z,dat x ρ = some d ∧ dat y ρ = some i ∧ itD d i = some z ∧ Q (.v z) ρ
theorem JLs : Yj K Fd JGr:=by
  intro c τ S H σ ρ vx vy x y Q R s2 q k
  obtain ⟨kvs,i,kk,z,h1,h2,h3,h4,q2⟩:=q
  obtain ⟨y0,g,r0,e0⟩:=s2.thing (List.mem_cons_of_mem _ (List.mem_cons_self ..)) h1
  obtain ⟨p,ws,rfl,h5,h6⟩:=Gv r0 e0 s2.le
  have r2:=(Wu s2 h1 h2).2
  have ek:=X3 h3 r2
  subst ek
  rcases h6.val (k:=kk) with ⟨e1,_⟩ | ⟨d',v',e1,e2,e3⟩
  · rw [e1] at h4; cases h4
  · rw [h4] at e1
    cases e1
    exact ⟨p,v',rfl,.inl ⟨ws,kk,h5,rfl,e2.symm⟩,k _ _ ⟨S,ρ,.v z,s2.drop.drop.hold e3,q2⟩⟩
theorem JY8 : Yj K (fun x y H Q=>rIx K x y H Q ∨ Fd x y H Q) aIx:=by
  intro c τ S H σ ρ vx vy x y Q R s q k
  obtain ⟨d,i,z,h1,h2,hi,q⟩:=q
  have other : ItD d i z → (rIx K vx vy H R ∨ Fd vx vy H R):=fun h=>.inl (JGw c τ S H σ ρ vx vy x y Q R s ⟨d,i,z,h1,h2,h,q⟩ k)
  cases d with
  | lst xs=>cases i <;> first | (simp only [itD] at hi; exact other ⟨_,rfl,hi⟩) | cases hi
  | tup xs=>cases i <;> first | (simp only [itD] at hi; exact other ⟨_,rfl,hi⟩) | cases hi
  | str t =>
    cases i with
    | int j =>
      simp only [itD] at hi
      split at hi
      · rename_i hl
        cases e : atI t.cps.toList j with
        | none=>rw [e] at hi; cases hi
        | some ch =>
          rw [e] at hi
          exact other ⟨j,ch,rfl,hl,e,(Option.some.inj hi).symm⟩
      · cases hi
    | _=>cases hi
  | dic kvs =>
    have hi' : (keyD i).bind (valD kvs) = some z:=by cases i <;> exact hi
    cases e : keyD i with
    | none=>rw [e] at hi'; cases hi'
    | some kk =>
      rw [e] at hi'
      exact .inr (JLs c τ S H σ ρ vx vy x y Q R s ⟨kvs,i,kk,z,h1,h2,e,hi',q⟩ k)
  | _=>cases hi
theorem Yi (hu : X.A.units + 64 < cLine) (ha : QE X P a aa) (hb : QE X P b ab) (hs : PlainIx b:=by intro _ _; rfl) : QE X P (.Subscript a b pos) (aOp aIx aa ab) :=
  let ⟨_,p,s⟩:=ha.ex; let ⟨_,p2,s2⟩:=hb.ex; ⟨_,pe_ix (IxR.or ix_seq (JVw hu)) p p2 hs,G8 s s2 JY8⟩
def R7 (K : Fg) : R2:=fun x y H Q=>∃ l b xs zs,x = .ref l ∧ y = .ref b ∧ SqL K H l xs ∧ SqL K H b zs ∧ xs.length + zs.length ≤ sizeLine ∧ ∀ p,H p = none → Q (.ref p) (upd H p (.lst (xs ++ zs)))
theorem JZs : OpR X (binaryOp .Add) (R7 X.K):=by
  intro pins s σ H x y v u Q I rx ry h
  obtain ⟨l,b,xs,zs,rfl,rfl,hH,hB,hz,q⟩:=h
  cases rx
  cases ry
  obtain ⟨its,r,p1,z1⟩:=I.list hH
  obtain ⟨its2,r2,p2,z2⟩:=I.list hB
  obtain ⟨⟨cls,dd,data,sl⟩,ho,hc,n,hd⟩:=p1.isList
  obtain ⟨⟨cls2,dd2,data2,sl2⟩,ho2,hc2,n2,hd2⟩:=p2.isList
  simp only at hc hd hc2 hd2
  subst hc hd hc2 hd2
  have l1:=r.length
  have l2:=r2.length
  have e : its.toArray ++ its2.toArray = (its ++ its2).toArray:=by simp
  refine concat_meets ⟨_,ho,rfl⟩ ⟨_,ho2,rfl⟩ noFill_list_add seq_list_add PySem.F.slot_list_add PySem.F.entry_list_add (PySem.F.args_list_add_2 _ _) (PyProof.Rows.list_addW l b its.toArray its2.toArray n n2 dd dd2 sl sl2 (by simp; omega)) ⟨ho,ho2,?_⟩
  rw [e]
  exact ⟨.ref _,_,I.lnew (t':=s.toks) (r.append r2) (by rw [List.length_append]; omega),rfl,q _ I.fresh⟩
/-- x + y: numbers,texts,tuples; lists give an owned one -/
def Xb (d e : D) (Q : A → Prop) : Prop:=match d,e with
  | .int i,.int j=>Q (.v (.int (i + j)))
  | .str x,.str y=>x.length + y.length ≤ 100000 ∧ Q (.v (.str (x ++ y)))
  | .tup xs,.tup ys=>xs.length + ys.length ≤ 100000 ∧ Q (.v (.tup (xs ++ ys)))
  | .lst xs,.lst ys=>xs.length + ys.length ≤ 100000 ∧ Q (.lst (xs ++ ys))
  | _,_=>False
def Uu : AR2:=fun x y ρ Q=>∃ d e,dat x ρ = some d ∧ dat y ρ = some e ∧ Xb d e fun z=>Q z ρ
abbrev E5 (K : Fg) : R2:=fun x y H Q=>(rI0 (fun i j=>.int (i + j))) x y H Q ∨ (∃ i j,x = .str i ∧ y = .str j ∧ i.length + j.length ≤ sizeLine ∧ Q (.str (i ++ j)) H) ∨ rCatA K x y H Q ∨ R7 K x y H Q
theorem Vh : OpR X (binaryOp .Add) (E5 X.K):=OpR.or op_add (OpR.or op_add_str (OpR.or op_catA JZs))
theorem Vf : Yj K (E5 K) Uu:=by
  intro c τ S H σ ρ vx vy x y Q R s q k
  obtain ⟨d,e,h1,h2,q⟩:=q
  cases d with
  | int i=>cases e with
    | int j=>exact .inl (JXk c τ S H σ ρ vx vy x y Q R s ⟨i,j,h1,h2,q⟩ k)
    | _=>cases q
  | str i=>cases e with
    | str j=>exact .inr (.inl (JGk c τ S H σ ρ vx vy x y Q R s ⟨i,j,h1,h2,q.1,q.2⟩ k))
    | _=>cases q
  | tup i=>cases e with
    | tup j=>exact .inr (.inr (.inl (JMy c τ S H σ ρ vx vy x y Q R s ⟨i,j,h1,h2,q.1,q.2⟩ k)))
    | _=>cases q
  | lst i=>cases e with
    | lst j =>
      obtain ⟨y0,g,r0,e0⟩:=s.thing (List.mem_cons_of_mem _ (List.mem_cons_self ..)) h1
      obtain ⟨y1,g1,r1,e1⟩:=s.thing (List.mem_cons_self ..) h2
      obtain ⟨p,vs,rfl,a2,a3⟩:=Vy r0 e0 s.le
      obtain ⟨p',vs',rfl,b2,b3⟩:=Vy r1 e1 s.le
      refine .inr (.inr (.inr ⟨p,p',vs,vs',rfl,rfl,a2,b2,by rw [a3.len,b3.len]; exact Nat.le_trans q.1 (by decide),fun pn hp=>?_⟩))
      exact k _ _ ⟨S,ρ,_,s.drop.drop.newList hp (a3.app b3),q.2⟩
    | _=>cases q
  | _=>cases q
def Vk (ae : AE) : AE:=fun EA ρ Q=>ae EA ρ fun x ρ1=>Yd x ρ1 fun d ρ2=>Q (.v d) ρ2
theorem Wj (h : QE X P e aa) : QE X P e (Vk aa):=by
  obtain ⟨t,p,s⟩:=h.ex
  refine ⟨_,p,fun c EA ho hw τ S H σ ρ Q R st q k=>s c EA ho hw τ S H σ ρ _ _ st q fun v H1 ⟨S1,ρ1,x,s1,q1⟩=>?_⟩
  obtain ⟨S2,d,ρ2,sm,s2,q2⟩:=W3 s1 q1
  exact k _ _ ⟨S2,ρ2,.v d,s2,q2⟩
def B6 (y : A) (i d : D) : Option A:=match y with
  | .lst xs=>(match i with
    | .int k=>(ixN xs.length k).map fun n=>.lst (xs.set n d)
    | _=>none)
  | .dic kvs=>(keyD i).map fun k=>.dic (putD kvs k d)
  | _=>none
def By : A → Nat
  | .dic kvs=>kvs.length
  | _=>0
def Xf (av ao ai : AE) : AS:=fun DA ρ=>av DA.ex ρ fun x ρ1=>Yd x ρ1 fun d ρ2=>ao DA.ex ρ2 fun o ρ3=>ai DA.ex ρ3 fun iv ρ4=>∃ j y i y',o = .loc j ∧ ρ4[j]? = some (some y) ∧ dat iv ρ4 = some i ∧ B6 y i d = some y' ∧ By y ≤ 100000 ∧ DA.nx (ρ4.set j (some y'))
theorem PSet.or {t t' : TSet} (h : PSet X t) (h' : PSet X t') : PSet X (fun o i v H Q=>t o i v H Q ∨ t' o i v H Q):=fun pins s σ H o i v ov iv u Q I ro ri rv q =>
  q.elim (fun q=>h pins s σ H o i v ov iv u Q I ro ri rv q) fun q=>h' pins s σ H o i v ov iv u Q I ro ri rv q
theorem H9 {o i e : Expr} {av ao ai : AE} {pos' : Pos} (hu : X.A.units + 64 < cLine) (hv : QE X P e av) (ho' : QE X P o ao) (hi : QE X P i ai)
    (ha : ∀ v,assign (.Subscript o i pos') X.env v = (do
      let ov ← holding [v] (eval o X.env)
      let iv ← holding [v,ov] (eval i X.env)
      standAt pos'
      holding [v,ov,iv] (setItem ov iv v)
      release [v,ov,iv] []):=by intro _; rfl)
    (hs : swapsWithSole [.Subscript o i pos'] e pos.line X.env = pure false:=by rfl) (hw : swappedStores [.Subscript o i pos'] e X.env = pure none:=by rfl)
    (h1 : (assignEach [.Subscript o i pos'] X.env).map (·.2) = [assign (.Subscript o i pos') X.env]:=by rfl) : QS X P (.Assign [.Subscript o i pos'] e pos) (Xf av ao ai):=by
  obtain ⟨tv,pv,sv⟩:=hv.ex
  obtain ⟨to,po,so⟩:=ho'.ex
  obtain ⟨ti,pi,si⟩:=hi.ex
  refine ⟨_,ps_asg pv (pg_sub po pi (PSet.or set_list (set_dict (by omega))) ha) hs hw h1,fun c D DA ho hw l S H σ ρ st q=>sv c DA.ex ho hw [] S H σ ρ _ _ st q fun v H1 ⟨S1,ρ1,y,s1,q1⟩=>?_⟩
  obtain ⟨S2,d,ρ2,sm,s2,q2⟩:=W3 s1 q1
  refine so c DA.ex ho hw _ S2 H1 σ ρ2 _ _ s2 q2 fun vo H2 ⟨S3,ρ3,xo,s3,q3⟩=>si c DA.ex ho hw _ S3 H2 σ ρ3 _ _ s3 q3 fun vi H3 ⟨S4,ρ4,xi,s4,j,y,i,y',eo,hj,hk,hp',hlen,q4⟩=>?_
  subst eo
  have hvo : σ[j]? = some (some vo):=(s4.loc vo j (by simp)).1
  obtain ⟨g,ra⟩:=s4.slotA hj hvo
  have rd : Rep X.K S4 d v:=s4.dataMem (by simp)
  have rk:=s4.dat (List.mem_cons_self ..) hk
  cases y with
  | lst xs =>
    obtain ⟨p,vs,rfl,hp,rl,rfl⟩:=ra.lst_inv
    cases i with
    | int k =>
      simp only [Rep] at rk
      simp only [B6] at hp'
      cases hn : ixN xs.length k with
      | none=>rw [hn] at hp'; cases hp'
      | some n =>
        rw [hn] at hp'
        have e1:=(Option.some.inj hp').symm
        subst e1
        refine .inl ⟨p,vs,k,n,rfl,rk,hp,by rw [rl.len]; exact hn,?_⟩
        have s5:=s4.write (o:=.lst (vs.set n v)) (y':=.lst (xs.set n d)) hj hvo (fun g' h=>by obtain ⟨a',_,e,_,_,e2⟩:=h.lst_inv; cases e; exact e2) rfl (.mk_lst upd_same (rl.set n rd))
        exact l.nx S4 _ σ _ s5.drop.drop.drop q4
    | _=>cases hp'
  | dic kvs =>
    obtain ⟨p,ws,rfl,hp,rl,rfl⟩:=ra.dic_inv
    simp only [B6] at hp'
    cases hkk : keyD i with
    | none=>rw [hkk] at hp'; cases hp'
    | some k =>
      rw [hkk] at hp'
      have e1:=(Option.some.inj hp').symm
      subst e1
      have ek:=X3 hkk rk
      subst ek
      refine .inr ⟨p,upd H3 p (.dK (putK ws k v)),rfl,.inl ⟨ws,k,hp,rfl,by rw [rl.len]; exact Nat.lt_of_le_of_lt hlen (by decide),rfl⟩,?_⟩
      have s5:=s4.write (o:=.dK (putK ws k v)) (y':=.dic (putD kvs k d)) hj hvo (fun g' h=>by obtain ⟨a',_,e,_,_,e2⟩:=h.dic_inv; cases e; exact e2) rfl (.mk_dic upd_same (rl.put k rd))
      exact l.nx S4 _ σ _ s5.drop.drop.drop q4
  | _=>cases hp'
end
structure Cal (Pr : Program) (w : World) (K : Fg) (mg : Str → Option Value) (base : Heap) (x : Str) (k : Nat) (ps : List Str) (sp : ASp) : Prop where
  ex : ∃ f fd,mg x = some (.ref f) ∧ PySem.W.keepIn K (.ref f) = true ∧ Binds K fd ps [] ∧ Fok Pr w K mg base k f fd ps sp
theorem U1 {X : Cx} {P : Pm} {k : Nat} {ps : List Str} {sp : ASp} {x : Str} {e : Expr} {es : List Expr} {aa : AA} {p pos : Pos} (F : Cal X.prog X.w X.K X.mg X.base x k ps sp) (hr : Room k X.A) (hg : Gl X x) (hx : ∀ σ,PassesAt (L2.CX X.prog X.w) X σ (fun cls d H=>P.W cls d σ H)) (ha : QA X P (e :: es) aa)
    (hdb : (x == ("__debug__" : Str)) = false:=by decide) (he : starEach (e :: es) X.env = (false,eval e X.env) :: starEach es X.env:=by rfl) (hpl : (backTo pos (starEach es X.env)).any (·.1) = false:=by rfl) :
    QE X P (.Call (.Name x p) (e :: es) [] pos) (Ym sp [] aa):=let ⟨_,_,h1,h2,h3,h4⟩:=F.ex; JXb h4 hr hg h1 h2 h3 .nil Hf hx ha hdb he hpl
end Vs
namespace Vs
open PySem PySem.Spec PyProof.Rows L2
variable [Tbs]
section
variable {EA : AX} {ρ : J0} {Q : AK} {DA : AEnds} {QB : Bool → J0 → Prop} {QL : List A → J0 → Prop}
/-- wide division -/
def Xz : AR2:=aI CDivW fun i j=>.int (i / j)
theorem M0 {K : Fg} : Yj K (rI CDivW fun i j=>.int (i / j)) Xz:=Lh fun _ _=>rfl
theorem Gk {α : Type} {xs : List α} {k : Nat} (h : k < xs.length) : atI xs (k : Int) = xs[k]?:=by
  have h1 : (0 : Int) ≤ (k : Int):=by omega
  have h2 : (k : Int) < (xs.length : Int):=by omega
  simp only [atI,ixN,if_pos h1,if_pos h2,Option.bind_some,Int.toNat_natCast]
end
section
variable {EA : AX} {ρ : J0} {Q : AK} {DA : AEnds} {QB : Bool → J0 → Prop} {QL : List A → J0 → Prop} {x y : A} {d e z : D}
theorem JL0 {a b : AS} (k : a { DA with nx:=b DA } ρ) : Jm a b DA ρ:=k
theorem JN5 (k : DA.nx ρ) : Yt DA ρ:=k
theorem T7 {ae : AE} (k : ae DA.ex ρ fun _ ρ'=>DA.nx ρ') : Wo ae DA ρ:=k
theorem JJ1 {ae : AE} (k : ae DA.ex ρ fun x ρ'=>Zi x ρ' DA.rt) : Yc ae DA ρ:=k
theorem JWh (k : DA.rt (.v .non) ρ) : JF6 DA ρ:=k
theorem JMj {t : AT} {a b : AS} (k : t DA.ex ρ fun b' ρ'=>if b' = true then a DA ρ' else b DA ρ') : Yq t a b DA ρ:=k
theorem E9 (k : DA.bk ρ) : JN4 DA ρ:=k
theorem JVs (k : DA.ct ρ) : JKq DA ρ:=k
theorem Ds {i : Nat} {ae : AE} (k : ae DA.ex ρ fun x ρ'=>Z6 x ρ' i DA.nx) : Ye i ae DA ρ:=k
/-- the store itself -/
def JVx (o iv : A) (d : D) (ρ : J0) (nx : J0 → Prop) : Prop:=∃ j y i y',o = .loc j ∧ ρ[j]? = some (some y) ∧ dat iv ρ = some i ∧ B6 y i d = some y' ∧ By y ≤ 100000 ∧ nx (ρ.set j (some y'))
theorem JJw {av ao ai : AE} (k : av DA.ex ρ fun x ρ1=>Yd x ρ1 fun d ρ2=>ao DA.ex ρ2 fun o ρ3=>ai DA.ex ρ3 fun iv ρ4=>JVx o iv d ρ4 DA.nx) : Xf av ao ai DA ρ:=k
theorem Oe {j : Nat} {iv y y' : A} {i d : D} {nx : J0 → Prop} (h1 : ρ[j]? = some (some y)) (h2 : dat iv ρ = some i) (h3 : B6 y i d = some y') (h4 : By y ≤ 100000) (k : nx (ρ.set j (some y'))) : JVx (.loc j) iv d ρ nx:=⟨j,y,i,y',rfl,h1,h2,h3,h4,k⟩
theorem JXe {ai : AI} {ag : AG} {ab : AS} (k : ai DA.ex ρ fun xs G ρ'=>forA G ag ab DA xs ρ') : Wq ai ag ab DA ρ:=k
theorem Cv {rt : A → J0 → Prop} (k : rt (.v d) ρ) : Zi (.v d) ρ rt:=k
theorem JY7 {xs : List D} {rt : A → J0 → Prop} (k : rt (.lst xs) ρ) : Zi (.lst xs) ρ rt:=k
theorem Av {xs : List (Key × D)} {rt : A → J0 → Prop} (k : rt (.dic xs) ρ) : Zi (.dic xs) ρ rt:=k
theorem Qr {C : Addr} {xs : List (Str × A)} {rt : A → J0 → Prop} (k : rt (.obj C xs) ρ) : Zi (.obj C xs) ρ rt:=k
theorem Cg {i : Nat} {rt : A → J0 → Prop} (h : ρ[i]? = some (some y)) (k : rt y (ρ.set i none)) : Zi (.loc i) ρ rt:=⟨y,h,k⟩
theorem K3 {i : Nat} {nx : J0 → Prop} (k : nx (ρ.set i (some (.v d)))) : Z6 (.v d) ρ i nx:=k
theorem Hr {d : List D} {i : Nat} {nx : J0 → Prop} (k : nx (ρ.set i (some (.lst d)))) : Z6 (.lst d) ρ i nx:=k
theorem Ct {d : List (Key × D)} {i : Nat} {nx : J0 → Prop} (k : nx (ρ.set i (some (.dic d)))) : Z6 (.dic d) ρ i nx:=k
theorem Ei {C : Addr} {d : List (Str × A)} {i : Nat} {nx : J0 → Prop} (k : nx (ρ.set i (some (.obj C d)))) : Z6 (.obj C d) ρ i nx:=k
theorem Ss {k : D → J0 → Prop} (h : k d ρ) : Yd (.v d) ρ k:=h
theorem Tp {xs : List D} {k : D → J0 → Prop} (h : k (.lst xs) ρ) : Yd (.lst xs) ρ k:=h
theorem JJh {xs : List (Key × D)} {k : D → J0 → Prop} (h : k (.dic xs) ρ) : Yd (.dic xs) ρ k:=h
theorem JJe {C : Addr} {xs : List (Str × A)} {k : D → J0 → Prop} (h : k (.obj C (A.toDs xs)) ρ) : Yd (.obj C xs) ρ k:=h
theorem JWp {i : Nat} {xs : List D} {k : D → J0 → Prop} (h : ρ[i]? = some (some (.lst xs))) (hk : k (.lst xs) (ρ.set i (some (.v (.lst xs))))) : Yd (.loc i) ρ k:=⟨_,h,hk⟩
theorem JYz {i : Nat} {xs : List (Key × D)} {k : D → J0 → Prop} (h : ρ[i]? = some (some (.dic xs))) (hk : k (.dic xs) (ρ.set i (some (.v (.dic xs))))) : Yd (.loc i) ρ k:=⟨_,h,hk⟩
theorem Df {i : Nat} {k : D → J0 → Prop} (h : ρ[i]? = some (some (.v d))) (hk : k d (ρ.set i (some (.v d)))) : Yd (.loc i) ρ k:=⟨_,h,hk⟩
theorem JYb {k : List D → J0 → Prop} (h : k [] ρ) : Z8 [] ρ k:=h
theorem Qh {xs : List A} {k : List D → J0 → Prop} (h : Yd x ρ fun d ρ'=>Z8 xs ρ' fun ds ρ''=>k (d :: ds) ρ'') : Z8 (x :: xs) ρ k:=h
theorem i_c (k : Q (.v d) ρ) : aC d EA ρ Q:=k
theorem Eh {i : Nat} (h : ρ[i]? = some (some (.v d))) (k : Q (.v d) ρ) : J7 i EA ρ Q:=⟨d,h,k⟩
theorem Qa {i : Nat} (h : ρ[i]? = some (some y)) (k : Q (.loc i) ρ) : Jl i EA ρ Q:=⟨⟨y,h⟩,k⟩
theorem JWd {ra : AR2} {aa ab : AE} (k : aa EA ρ fun x ρ1=>ab EA ρ1 fun y ρ2=>ra x y ρ2 Q) : aOp ra aa ab EA ρ Q:=k
theorem Dw {ra : AR1} {aa : AE} (k : aa EA ρ fun x ρ1=>ra x ρ1 Q) : aUn ra aa EA ρ Q:=k
/-- a truth value -/
def isB (x : A) (ρ : J0) (k : Bool → Prop) : Prop:=∃ b,dat x ρ = some (.bl b) ∧ k b
theorem JVr {b : Bool} {k : Bool → Prop} (h : dat x ρ = some (.bl b)) (hk : k b) : isB x ρ k:=⟨b,h,hk⟩
theorem D8 {ae : AE} (k : ae EA ρ fun x ρ1=>isB x ρ1 fun b=>QB b ρ1) : Y5 ae EA ρ QB:=k
theorem Qc {t u : AT} (k : t EA ρ fun b ρ1=>if b = true then u EA ρ1 QB else QB false ρ1) : Zv t u EA ρ QB:=k
theorem JVj {t u : AT} (k : t EA ρ fun b ρ1=>if b = true then QB true ρ1 else u EA ρ1 QB) : Uv t u EA ρ QB:=k
theorem JUy {t : AT} (k : t EA ρ fun b ρ1=>QB (!b) ρ1) : Uj t EA ρ QB:=k
theorem R8 {t u : AE} (k : t EA ρ fun x ρ1=>isB x ρ1 fun b=>if b = true then u EA ρ1 Q else Q (.v (.bl false)) ρ1) : Zm t u EA ρ Q:=k
theorem A3 {t u : AE} (k : t EA ρ fun x ρ1=>isB x ρ1 fun b=>if b = true then Q (.v (.bl true)) ρ1 else u EA ρ1 Q) : aOr t u EA ρ Q:=k
theorem Qd {t : AE} (k : t EA ρ fun x ρ1=>isB x ρ1 fun b=>Q (.v (.bl (!b))) ρ1) : JGg t EA ρ Q:=k
theorem Tf {t : AT} {a b : AE} (k : t EA ρ fun c ρ1=>if c = true then a EA ρ1 Q else b EA ρ1 Q) : aIf t a b EA ρ Q:=k
def Ta (ra rb : AR2) (ac : AE) (EA : AX) (Q : AK) (x y : A) (ρ : J0) : Prop:=∃ dy,y = .v dy ∧ ra x y ρ fun z ρ3=>isB z ρ3 fun b=>if b = true then ac EA ρ3 fun w ρ4=>rb (.v dy) w ρ4 Q else Q (.v (.bl false)) ρ3
theorem JV9 {ra rb : AR2} {aa ab ac : AE} (k : aa EA ρ fun x ρ1=>ab EA ρ1 fun y ρ2=>Ta ra rb ac EA Q x y ρ2) : Xc ra rb aa ab ac EA ρ Q:=k
theorem JV6 {ra rb : AR2} {ac : AE} (k : ra x (.v d) ρ fun z ρ3=>isB z ρ3 fun b=>if b = true then ac EA ρ3 fun w ρ4=>rb (.v d) w ρ4 Q else Q (.v (.bl false)) ρ3) : Ta ra rb ac EA Q x (.v d) ρ:=⟨d,rfl,k⟩
theorem C0 (k : QL [] ρ) : J9 EA ρ QL:=k
theorem Du {ae : AE} {aa : AA} (k : ae EA ρ fun x ρ1=>aa EA ρ1 fun xs ρ2=>QL (x :: xs) ρ2) : J2 ae aa EA ρ QL:=k
theorem JV7 {aa : AA} (k : aa EA ρ fun xs ρ1=>xs.length ≤ 1000 ∧ Z8 xs ρ1 fun ds ρ2=>Q (.v (.tup ds)) ρ2) : U7 aa EA ρ Q:=k
theorem Eu {aa : AA} (k : aa EA ρ fun xs ρ1=>xs.length ≤ 1000 ∧ Z8 xs ρ1 fun ds ρ2=>Q (.lst ds) ρ2) : Uc aa EA ρ Q:=k
theorem Qg {xs : List A} {p : Prop} (h : xs.length ≤ 1000) (k : p) : xs.length ≤ 1000 ∧ p:=⟨h,k⟩
theorem E4 (k : Q (.dic []) ρ) : Fl EA ρ Q:=k
theorem E2 {ra : ARs} {aa : AA} (k : aa EA ρ fun xs ρ1=>ra xs ρ1 Q) : aCB ra aa EA ρ Q:=k
theorem Do {ae : AE} (k : ae EA ρ fun x ρ1=>Yd x ρ1 fun d ρ2=>Q (.v d) ρ2) : Vk ae EA ρ Q:=k
theorem Bz {i : D} (h1 : dat x ρ = some d) (h2 : dat y ρ = some i) (h3 : itD d i = some z) (k : Q (.v z) ρ) : aIx x y ρ Q:=⟨d,i,z,h1,h2,h3,k⟩
theorem JVk (h1 : dat x ρ = some d) (h2 : dat y ρ = some e) (k : Xb d e fun z=>Q z ρ) : Uu x y ρ Q:=⟨d,e,h1,h2,k⟩
theorem Rg {i j : Int} {q : A → Prop} (k : q (.v (.int (i + j)))) : Xb (.int i) (.int j) q:=k
theorem Rv {i j : Str} {q : A → Prop} (h : i.length + j.length ≤ 100000) (k : q (.v (.str (i ++ j)))) : Xb (.str i) (.str j) q:=⟨h,k⟩
theorem JUz {i j : List D} {q : A → Prop} (h : i.length + j.length ≤ 100000) (k : q (.v (.tup (i ++ j)))) : Xb (.tup i) (.tup j) q:=⟨h,k⟩
theorem Cj {i j : List D} {q : A → Prop} (h : i.length + j.length ≤ 100000) (k : q (.lst (i ++ j))) : Xb (.lst i) (.lst j) q:=⟨h,k⟩
variable {i j : Int}
theorem JJo (h1 : dat x ρ = some (.int i)) (h2 : dat y ρ = some (.int j)) (k : Q (.v (.int (i - j))) ρ) : L5 x y ρ Q:=⟨i,j,h1,h2,k⟩
theorem JYw (h1 : dat x ρ = some (.int i)) (h2 : dat y ρ = some (.int j)) (k : Q (.v (.bl (decide (i < j)))) ρ) : aLt x y ρ Q:=⟨i,j,h1,h2,k⟩
theorem D5 (h1 : dat x ρ = some (.int i)) (h2 : dat y ρ = some (.int j)) (k : Q (.v (.bl (decide (i ≤ j)))) ρ) : aLe x y ρ Q:=⟨i,j,h1,h2,k⟩
theorem JVa (h1 : dat x ρ = some (.int i)) (h2 : dat y ρ = some (.int j)) (k : Q (.v (.bl (decide (j < i)))) ρ) : aGt x y ρ Q:=⟨i,j,h1,h2,k⟩
theorem Dm (h1 : dat x ρ = some (.int i)) (h2 : dat y ρ = some (.int j)) (k : Q (.v (.bl (decide (j ≤ i)))) ρ) : aGe x y ρ Q:=⟨i,j,h1,h2,k⟩
theorem JU5 (h1 : dat x ρ = some (.int i)) (h2 : dat y ρ = some (.int j)) (hc : CMul i j) (k : Q (.v (.int (i * j))) ρ) : Xl x y ρ Q:=⟨i,j,h1,h2,hc,k⟩
theorem D3 (h1 : dat x ρ = some (.int i)) (h2 : dat y ρ = some (.int j)) (hc : 0 < j) (k : Q (.v (.int (i % j))) ρ) : X4 x y ρ Q:=⟨i,j,h1,h2,hc,k⟩
theorem Qz (h1 : dat x ρ = some (.int i)) (h2 : dat y ρ = some (.int j)) (hc : CPow i j) (k : Q (.v (.int (i ^ j.toNat))) ρ) : M5 x y ρ Q:=⟨i,j,h1,h2,hc,k⟩
theorem Ry (h1 : dat x ρ = some (.int i)) (h2 : dat y ρ = some (.int j)) (hc : CDivW i j) (k : Q (.v (.int (i / j))) ρ) : Xz x y ρ Q:=⟨i,j,h1,h2,hc,k⟩
theorem Eb (h1 : dat x ρ = some (.int i)) (k : Q (.v (.int (-i))) ρ) : JFw x ρ Q:=⟨i,h1,k⟩
theorem Kh (h1 : dat x ρ = some d) (h2 : dat y ρ = some e) (p1 : PlD 20 d) (p2 : PlD 20 e) (k : Q (.v (.bl (deq d e))) ρ) : aEq x y ρ Q:=⟨d,e,h1,h2,p1,p2,k⟩
theorem R1 (h1 : dat x ρ = some d) (h2 : dat y ρ = some e) (p1 : PlD 20 d) (p2 : PlD 20 e) (k : Q (.v (.bl (!deq d e))) ρ) : aNe x y ρ Q:=⟨d,e,h1,h2,p1,p2,k⟩
theorem JYh (h1 : dat x ρ = some d) (h2 : dat y ρ = some .non) (k : Q (.v (.bl (isNon d))) ρ) : aIs x y ρ Q:=⟨d,h1,h2,k⟩
theorem JU8 (h1 : dat x ρ = some d) (h2 : dat y ρ = some .non) (k : Q (.v (.bl (!isNon d))) ρ) : JKo x y ρ Q:=⟨d,h1,h2,k⟩
theorem Si {n : Nat} (h1 : dat x ρ = some d) (h2 : Uh d = some n) (k : Q (.v (.int n)) ρ) : Uk [x] ρ Q:=⟨x,d,n,rfl,h1,h2,k⟩
theorem JW2 (h1 : dat x ρ = some (.int i)) (k : Q (.v (.int i)) ρ) : Wz [x] ρ Q:=⟨x,rfl,.inl ⟨i,h1,k⟩⟩
theorem JWr {ys : List D} (h1 : dat x ρ = some d) (h2 : Gf d = some ys) (k : Q (.lst ys) ρ) : B5 [x] ρ Q:=⟨x,d,ys,rfl,h1,h2,k⟩
theorem JY3 (h1 : dat x ρ = some (.int i)) (h2 : dat y ρ = some (.int j)) (k : Q (.v (.int (if j > i then j else i))) ρ) : JXp [x,y] ρ Q:=⟨x,y,i,j,rfl,h1,h2,k⟩
theorem Dh (h1 : dat x ρ = some (.int i)) (h2 : dat y ρ = some (.int j)) (k : Q (.v (.int (if j < i then j else i))) ρ) : JH7 [x,y] ρ Q:=⟨x,y,i,j,rfl,h1,h2,k⟩
theorem L6 {ys : List D} (h1 : dat x ρ = some (.lst ys)) (k : Q (.v (.tup ys)) ρ) : Zu [x] ρ Q:=⟨x,_,ys,rfl,h1,.inl rfl,k⟩
theorem Of {ys : List D} (h1 : dat x ρ = some (.tup ys)) (k : Q (.v (.tup ys)) ρ) : Zu [x] ρ Q:=⟨x,_,ys,rfl,h1,.inr rfl,k⟩
theorem P5 {bs : List Bool} (h1 : dat x ρ = some (.lst (bs.map D.bl))) (k : Q (.v (.bl (bs.all id))) ρ) : F3 [x] ρ Q:=⟨x,bs,rfl,h1,k⟩
def D4 (o : A) (d : D) (ρ : J0) (Q : AK) : Prop:=∃ j xs,o = .loc j ∧ ρ[j]? = some (some (.lst xs)) ∧ xs.length ≤ 100000 ∧ Q (.v .non) (ρ.set j (some (.lst (xs ++ [d]))))
def isL (o : A) (ρ : J0) (p : Prop) : Prop:=(∃ xs,dat o ρ = some (.lst xs)) ∧ p
theorem N6 {xs : List D} {p : Prop} (h : dat x ρ = some (.lst xs)) (k : p) : isL x ρ p:=⟨⟨xs,h⟩,k⟩
theorem JUu {ao ae : AE} (k : ao EA ρ fun o ρ1=>isL o ρ1 (ae EA ρ1 fun x ρ2=>Yd x ρ2 fun d ρ3=>D4 o d ρ3 Q)) : Fe ao ae EA ρ Q:=k
theorem Ea {j : Nat} {xs : List D} (h1 : ρ[j]? = some (some (.lst xs))) (h2 : xs.length ≤ 100000) (k : Q (.v .non) (ρ.set j (some (.lst (xs ++ [d]))))) : D4 (.loc j) d ρ Q:=⟨j,xs,rfl,h1,h2,k⟩
theorem Qi {c : Prop} [Decidable c] {p q : Prop} (h1 : c → p) (h2 : ¬c → q) : if c then p else q:=by
  split
  · exact h1 ‹_›
  · exact h2 ‹_›
end
section
variable {ρ : J0} {i : Nat}
theorem Jh {d : D} : dat (.v d) ρ = some d:=rfl
theorem Js {d : List D} : dat (.lst d) ρ = some (.lst d):=rfl
theorem Jv {d : List (Key × D)} : dat (.dic d) ρ = some (.dic d):=rfl
theorem Jx {C : Addr} {d : List (Str × A)} : dat (.obj C d) ρ = some (.obj C (A.toDs d)):=rfl
theorem Ld {y : A} (h : ρ[i]? = some (some y)) : dat (.loc i) ρ = some y.toD:=by
  unfold dat
  simp only [h]
theorem Y2 {d : D} (h : ρ[i]? = some (some (.v d))) : dat (.loc i) ρ = some d:=Ld h
theorem Ju {d : List D} (h : ρ[i]? = some (some (.lst d))) : dat (.loc i) ρ = some (.lst d):=Ld h
theorem Jy {d : List (Key × D)} (h : ρ[i]? = some (some (.dic d))) : dat (.loc i) ρ = some (.dic d):=Ld h
theorem Y1 {C : Addr} {d : List (Str × A)} (h : ρ[i]? = some (some (.obj C d))) : dat (.loc i) ρ = some (.obj C (A.toDs d)):=Ld h
end
section
theorem S9 {n : Nat} {i : Int} : PlD (n + 1) (.int i):=by simp only [PlD]
theorem B3 {n : Nat} {i : Str} : PlD (n + 1) (.str i):=by simp only [PlD]
theorem Ai {n : Nat} {i : Bool} : PlD (n + 1) (.bl i):=by simp only [PlD]
theorem JUw {n : Nat} : PlD (n + 1) .non:=by simp only [PlD]
theorem Ae {xs : List D} : By (.lst xs) ≤ 100000:=Nat.zero_le _
theorem JJl {p q : Prop} (k : p) : if true = true then p else q:=by rw [if_pos rfl]; exact k
theorem D0 {p q : Prop} (k : q) : if false = true then p else q:=by rw [if_neg Bool.false_ne_true]; exact k
theorem Nt {i j : Str} : deq (.str i) (.str j) = decide (i = j):=by
  simp only [deq]
  rw [Bool.eq_iff_iff]
  simp
end
end Vs
namespace Vs
open PySem PySem.Spec PyProof.Rows L2
variable [Tbs]
def lkA (x : A) (ρ : J0) : Option A:=match x with
  | .loc i=>(match ρ[i]? with
    | some (some y)=>some y
    | _=>none)
  | y=>some y
def Xd (y : A) (C : Addr) (f : Str) : Option D:=match y with
  | .v (.obj C' fs)=>if C' = C then fs.lookup f else none
  | .obj C' fs=>if C' = C then (match fs.lookup f with
    | some (.v d)=>some d
    | _=>none) else none
  | _=>none
section
variable {X : Cx} {P : Pm} {K : Fg} {c : Ctx} {S H : Hp} {σ : L2.St} {ρ : J0} {τ : List (V × A)} {v : V} {x : A} {pos : Pos}
theorem Stt.held2 {y : A} (s : Stt K c S H σ ρ τ) (m : (v,x) ∈ τ) (h : lkA x ρ = some y) : ∃ g,RepA K S H y v g:=by
  cases hx : Y4 x with
  | false =>
    have e : y = x:=by
      cases x <;> first | (simp only [lkA] at h; exact (Option.some.inj h).symm) | cases hx
    subst e
    obtain ⟨fp,h1,_,_⟩:=s.own
    obtain ⟨g,a1,_⟩:=RepP.pick h1 (v:=v) (x:=y) (List.mem_append_right _ (by
      have : ∀ {τ : List (V × A)},(v,y) ∈ τ → (v,y) ∈ Jg τ:=fun {τ} m=>List.mem_filter.mpr ⟨m,by
        cases y <;> first | rfl | cases hx⟩
      exact this m))
    exact ⟨g,a1⟩
  | true =>
    cases x with
    | loc i =>
      obtain ⟨hv,z,hz⟩:=s.loc v i m
      simp only [lkA,hz] at h
      have e:=Option.some.inj h
      subst e
      exact s.slotA hz hv
    | _=>cases hx
theorem JMe {y : A} {C : Addr} {f : Str} {d : D} {g : List Addr} (hl : Le S H) (r : RepA K S H y v g) (h : Xd y C f = some d) : ∃ a dx ws u,v = .ref a ∧ H a = some (.ins C dx ws) ∧ ws.lookup f = some u ∧ Rep K S d u:=by
  cases y with
  | v e =>
    cases e with
    | obj C' fs =>
      simp only [Xd] at h
      split at h
      · rename_i hc
        subst hc
        simp only [RepA,Rep] at r
        obtain ⟨⟨a,dx,ws,rfl,h1,h2⟩,_⟩:=r
        rcases Lv (m:=f) h2 with ⟨e1,_⟩ | ⟨d',u,e1,e2,e3⟩
        · rw [e1] at h; cases h
        · rw [h] at e1; cases e1
          exact ⟨a,dx,ws,u,rfl,Tt hl h1,e2,e3⟩
      · cases h
    | _=>cases h
  | obj C' fs =>
    simp only [Xd] at h
    split at h
    · rename_i hc
      subst hc
      simp only [RepA] at r
      obtain ⟨a,dx,ws,g',rfl,h1,h2,_⟩:=r
      have look : ∀ {fs : List (Str × A)} {ws : List (Str × V)} {g : List Addr},RepAF K S H fs ws g → fs.lookup f = some (.v d) → ∃ u,ws.lookup f = some u ∧ Rep K S d u:=by
        intro fs
        induction fs with
        | nil=>intro ws g _ e; simp at e
        | cons p r ih =>
          obtain ⟨k,x⟩:=p
          intro ws g h e
          simp only [RepAF] at h
          obtain ⟨u,r',g1,g2,rfl,h1,h2,_⟩:=h
          by_cases hk : f = k
          · subst hk
            have e' : x = .v d:=by simpa [List.lookup] using e
            subst e'
            simp only [RepA] at h1
            exact ⟨u,by simp [List.lookup],h1.1⟩
          · have q : (f == k) = false:=by simpa using hk
            obtain ⟨u',a1,a2⟩:=ih h2 (by simpa [List.lookup,q] using e)
            exact ⟨u',by simpa [List.lookup,q] using a1,a2⟩
      cases e : fs.lookup f with
      | none=>rw [e] at h; cases h
      | some z =>
        rw [e] at h
        cases z with
        | v d' =>
          have e2 : d' = d:=by simpa using h
          subst e2
          obtain ⟨u,a1,a2⟩:=look h2 e
          exact ⟨a,dx,ws,u,rfl,h1,a1,a2⟩
        | _=>cases h
    · cases h
  | _=>cases h
def Fk (C : Addr) (f : Str) : AR1:=fun x ρ Q=>∃ y d,lkA x ρ = some y ∧ Xd y C f = some d ∧ Q (.v d) ρ
theorem Pz {e : Expr} {C : Addr} {f : Str} {ae : AE} (hc : Cls X.K C) (hn : NoAttr X.K C f) (he : QE X P e ae) (hb : attributeBase e f X.env (eval e X.env) = eval e X.env:=by rfl) : QE X P (.Attribute e f pos) (aUn (Fk C f) ae):=by
  obtain ⟨t,p,s⟩:=he.ex
  refine ⟨_,pe_fld p hb,fun c EA ho hw τ S H σ ρ Q R st q k=>s c EA ho hw τ S H σ ρ _ _ st q fun v H1 ⟨S1,ρ1,x,s1,y,d,h1,h2,q1⟩=>?_⟩
  obtain ⟨g,r⟩:=s1.held2 (List.mem_cons_self ..) h1
  obtain ⟨a,dx,ws,u,rfl,e1,e2,e3⟩:=JMe s1.le r h2
  exact ⟨a,C,dx,ws,u,rfl,e1,hc,hn,e2,k _ _ ⟨S1,ρ1,.v d,s1.drop.hold e3,q1⟩⟩
/-- self.f = e,self an owned instance in a slot -/
def Z7 (f : Str) (d : D) : List (Str × A) → List (Str × A)
  | []=>[(f,.v d)]
  | (g,x) :: r=>if g = f then (g,.v d) :: r else (g,x) :: Z7 f d r
def Kz (C : Addr) (f : Str) (av ao : AE) : AS:=fun DA ρ=>av DA.ex ρ fun x ρ1=>Yd x ρ1 fun d ρ2=>ao DA.ex ρ2 fun o ρ3=>∃ j fs,o = .loc j ∧ ρ3[j]? = some (some (.obj C fs)) ∧ (∀ p ∈ fs,∃ d,p.2 = .v d) ∧ fs.length ≤ 100 ∧ DA.nx (ρ3.set j (some (.obj C (Z7 f d fs))))
theorem Nc : ∀ {fs : List (Str × A)} {ws : List (Str × V)} {g : List Addr},(∀ p ∈ fs,∃ d,p.2 = A.v d) → RepAF K S H fs ws g → g = [] ∧ ws.length = fs.length
  | [],ws,g,_,h=>by
    simp only [RepAF] at h
    exact ⟨h.2,by rw [h.1]; rfl⟩
  | (k,x) :: r,ws,g,hv,h=>by
    simp only [RepAF] at h
    obtain ⟨u,r',g1,g2,rfl,h1,h2,rfl⟩:=h
    obtain ⟨d,e⟩:=hv (k,x) (by simp)
    have e' : x = .v d:=e
    subst e'
    simp only [RepA] at h1
    obtain ⟨e1,e2⟩:=Nc (fun p hp=>hv p (by simp [hp])) h2
    exact ⟨by rw [h1.2,e1]; rfl,by simp [e2]⟩
theorem Q4 {H' : Hp} {f : Str} {d : D} {u : V} (hd : Rep K S d u) : ∀ {fs : List (Str × A)} {ws : List (Str × V)} {g : List Addr},(∀ p ∈ fs,∃ d,p.2 = A.v d) → RepAF K S H fs ws g → RepAF K S H' (Z7 f d fs) (putF f u ws) []
  | [],ws,g,_,h=>by
    simp only [RepAF] at h
    obtain ⟨rfl,_⟩:=h
    simp only [Z7,putF,RepAF]
    exact ⟨u,[],[],[],rfl,RepA.ofv hd,⟨rfl,rfl⟩,rfl⟩
  | (k,x) :: r,ws,g,hv,h=>by
    simp only [RepAF] at h
    obtain ⟨w,r',g1,g2,rfl,h1,h2,rfl⟩:=h
    obtain ⟨d',e⟩:=hv (k,x) (by simp)
    have e' : x = .v d':=e
    subst e'
    simp only [RepA] at h1
    have same : ∀ {fs : List (Str × A)} {ws : List (Str × V)} {g : List Addr},(∀ p ∈ fs,∃ d,p.2 = A.v d) → RepAF K S H fs ws g → RepAF K S H' fs ws []:=by
      intro fs
      induction fs with
      | nil=>intro ws g _ h; simp only [RepAF] at h ⊢; exact ⟨h.1,trivial⟩
      | cons p r ih =>
        obtain ⟨k2,x2⟩:=p
        intro ws g hv h
        simp only [RepAF] at h ⊢
        obtain ⟨u2,r2,g3,g4,rfl,a1,a2,rfl⟩:=h
        obtain ⟨d2,e2⟩:=hv (k2,x2) (by simp)
        have e3 : x2 = .v d2:=e2
        subst e3
        simp only [RepA] at a1
        exact ⟨u2,r2,[],[],rfl,RepA.ofv a1.1,ih (fun p hp=>hv p (by simp [hp])) a2,rfl⟩
    simp only [Z7,putF]
    by_cases hk : k = f
    · rw [if_pos hk,if_pos hk]
      simp only [RepAF]
      exact ⟨u,r',[],[],rfl,RepA.ofv hd,same (fun p hp=>hv p (by simp [hp])) h2,rfl⟩
    · rw [if_neg hk,if_neg hk]
      simp only [RepAF]
      exact ⟨w,_,[],[],rfl,RepA.ofv h1.1,Q4 hd (fun p hp=>hv p (by simp [hp])) h2,rfl⟩
theorem JB9 {o e : Expr} {C : Addr} {f : Str} {av ao : AE} {pos' : Pos} (hc : Cls X.K C) (hn : NoAttr X.K C f) (hv : QE X P e av) (ho' : QE X P o ao) (hs : swapsWith e (some (.Attribute o f pos')) pos.line X.env = pure false:=by rfl) :
    QS X P (.Assign [.Attribute o f pos'] e pos) (Kz C f av ao):=by
  obtain ⟨tv,pv,sv⟩:=hv.ex
  obtain ⟨to,po,so⟩:=ho'.ex
  refine ⟨_,ps_fld po pv hs,fun c D DA ho hw l S H σ ρ st q=>sv c DA.ex ho hw [] S H σ ρ _ _ st q fun v H1 ⟨S1,ρ1,y,s1,q1⟩=>?_⟩
  obtain ⟨S2,d,ρ2,sm,s2,q2⟩:=W3 s1 q1
  refine so c DA.ex ho hw _ S2 H1 σ ρ2 _ _ s2 q2 fun vo H2 ⟨S3,ρ3,xo,s3,j,fs,eo,hj,hall,hlen,q3⟩=>?_
  subst eo
  have hvo : σ[j]? = some (some vo):=(s3.loc vo j (by simp)).1
  obtain ⟨g,ra⟩:=s3.slotA hj hvo
  have rd : Rep X.K S3 d v:=s3.dataMem (by simp)
  simp only [RepA] at ra
  obtain ⟨a,dx,ws,g',rfl,h1,h2,rfl⟩:=ra
  obtain ⟨rfl,hl⟩:=Nc hall h2
  refine ⟨a,C,dx,ws,rfl,h1,hc,hn,by omega,?_⟩
  have s5:=s3.write (o:=.ins C dx (putF f v ws)) (y':=.obj C (Z7 f d fs)) hj hvo (fun g' h=>by
    simp only [RepA] at h
    obtain ⟨a',dx',ws',g2,e,h3,h4,e2⟩:=h
    cases e
    obtain ⟨rfl,_⟩:=Nc hall h4
    exact e2) rfl (by
      simp only [RepA]
      exact ⟨a,dx,_,[],rfl,upd_same,Q4 rd hall h2,by first | rfl | trivial⟩)
  exact l.nx S3 _ σ _ s5.drop.drop q3
/-- what isinstance asks of an own class -/
structure ClsI (K : Fg) (C : Addr) : Prop where
  cl : Cls K C
  ha : PySem.W.findIn K (.ref C) "__class__" = some (some (.builtin "object.__class__"))
  hn : PySem.W.specialIn K (.builtin "object.__class__") "__get__" = some (some (.builtin "getset_descriptor.__get__"))
  htk : PySem.W.takesIn K (.builtin "object.__class__") = some true
  hm : PySem.W.mroIn K C (.type "object") = some true
def tyD : D → Option Value
  | .non=>some (.type "NoneType")
  | .bl _=>some (.type "bool")
  | .int _=>some (.type "int")
  | .str _=>some (.type "str")
  | .ty _=>none
  | .any=>none
  | .lst _=>some (.type "list")
  | .tup _=>some (.type "tuple")
  | .dic _=>some (.type "dict")
  | .obj C _=>some (.ref C)
theorem Ow {d : D} {t : Value} (hC : ∀ C fs,d = .obj C fs → ClsI K C) (h : tyD d = some t) (r : Rep K H d v) : TyX K H v t:=by
  cases d with
  | non=>simp only [tyD] at h; cases h; simp only [Rep] at r; subst r; exact .base .non
  | bl b=>simp only [tyD] at h; cases h; simp only [Rep] at r; subst r; exact .base (.bl b)
  | int b=>simp only [tyD] at h; cases h; simp only [Rep] at r; subst r; exact .base (.int b)
  | str b=>simp only [tyD] at h; cases h; simp only [Rep] at r; subst r; exact .base (.str b)
  | ty n=>cases h
  | any=>cases h
  | lst xs =>
    simp only [tyD] at h; cases h
    simp only [Rep] at r
    obtain ⟨a,vs,rfl,h1,_⟩:=r
    rcases h1 with h1 | ⟨o,its,n,hk,hc,_⟩
    · rcases h1 with h1 | ⟨o,h1⟩
      · exact .base (.lst h1)
      · exact .base (.frz h1)
    · exact .kList hk hc
  | tup xs =>
    simp only [tyD] at h; cases h
    simp only [Rep] at r
    obtain ⟨a,vs,rfl,h1,_⟩:=r
    rcases h1 with h1 | ⟨o,its,n,hk,hc,_⟩
    · rcases h1 with h1 | ⟨o,h1⟩
      · exact .base (.tup h1)
      · exact .fTuple h1
    · exact .kTuple hk hc
  | dic xs =>
    simp only [tyD] at h; cases h
    simp only [Rep] at r
    obtain ⟨a,vs,rfl,h1,_⟩:=r
    rcases h1 with h1 | ⟨o,h1⟩
    · exact .base (.dK h1)
    · exact .fDict h1
  | obj C fs =>
    simp only [tyD] at h; cases h
    simp only [Rep] at r
    obtain ⟨a,dx,vs,rfl,h1,_⟩:=r
    have c:=hC C fs rfl
    exact .base (.ins h1 c.cl c.ha c.hn c.htk c.hm)
/-- isinstance(x,c): what the tables say -/
def Wt (K : Fg) (d : D) (us : List Value) (b : Bool) : Prop:=∃ t,tyD d = some t ∧ (∀ C fs,d = .obj C fs → ClsI K C) ∧ PySem.W.kitAny K t us = some b
def Uw (K : Fg) (us : List Value) : AR1:=fun x ρ Q=>∃ d b,dat x ρ = some d ∧ Wt K d us b ∧ Q (.v (.bl b)) ρ
theorem Mv {K : Fg} {t u : Value} {b : Bool} (h : PySem.W.kitAny K t [u] = some b) : PySem.W.kitOne K t u = some b:=by
  unfold PySem.W.kitAny at h
  cases e : PySem.W.kitOne K t u with
  | none=>rw [e] at h; cases h
  | some r =>
    rw [e] at h
    cases r with
    | true=>exact h
    | false =>
      have h' : PySem.W.kitAny K t [] = some b:=h
      exact h'
/-- a class by its name -/
structure QC (X : Cx) (e : Expr) (u : Value) : Prop where
  ex : ∃ v,PE X e (tC v) ∧ ClsV v u
theorem Vq {x : Str} {n : String} (hg : Gl X x) (hm : X.mg x = none) (hv : bootBuiltins x = some (.type n)) (hd : (x == ("__debug__" : Str)) = false:=by decide) (hn : x ≠ "__name__":=by decide) : QC X (.Name x pos) (.type n):=⟨.ty n,pe_bltn hg hm hv rfl hn hd,.ty n⟩
theorem Ox {x : Str} {C : Addr} (hg : Gl X x) (hm : X.mg x = some (.ref C)) (hd : (x == ("__debug__" : Str)) = false:=by decide) : QC X (.Name x pos) (.ref C):=⟨.ref C,pe_glob hg hm rfl hd,.own C⟩
theorem Wf {e c : Expr} {u : Value} {ae : AE} {p : Pos} (hg : Gl X "isinstance") (hm : X.mg "isinstance" = none) (he : QE X P e ae) (hc : QC X c u) (hs : starEach [e,c] X.env = (false,eval e X.env) :: starEach [c] X.env:=by rfl) (hs2 : starEach [c] X.env = (false,eval c X.env) :: starEach [] X.env:=by rfl)
    (hpl : (backTo pos (starEach [c] X.env)).any (·.1) = false:=by rfl) : QE X P (.Call (.Name "isinstance" p) [e,c] [] pos) (aUn (Uw X.K [u]) ae):=by
  obtain ⟨t,pe,s⟩:=he.ex
  obtain ⟨v,pc,k⟩:=hc.ex
  refine ⟨_,pe_callB call_isi hg hm PyProof.Rows.boot_isinstance (pa_cons pe (pa_cons pc pa_nil hs2) hs) (by decide) (by decide) hs hpl,fun c EA ho hw τ S H σ ρ Q R st q kk=>s c EA ho hw τ S H σ ρ _ _ st q fun vx H1 ⟨S1,ρ1,x,s1,d,b,h1,⟨ty,h2,h3,h4⟩,q1⟩=>?_⟩
  exact ⟨vx,v,ty,u,b,rfl,k,Ow h3 h2 (s1.dat (List.mem_cons_self ..) h1),Mv h4,kk _ _ (KE.sc s1.drop rfl q1)⟩
theorem Sz {e c c2 : Expr} {u u2 : Value} {ae : AE} {p tp : Pos} {j : Nat} (hg : Gl X "isinstance") (hm : X.mg "isinstance" = none) (he : QE X P e ae) (hc : QC X c u) (hc2 : QC X c2 u2) (hs : starEach [e,.Tuple [c,c2] j tp] X.env = (false,eval e X.env) :: starEach [.Tuple [c,c2] j tp] X.env:=by rfl) (hs2 : starEach [.Tuple [c,c2] j tp] X.env = (false,eval (.Tuple [c,c2] j tp) X.env) :: starEach [] X.env:=by rfl)
    (hs3 : starEach [c,c2] X.env = (false,eval c X.env) :: starEach [c2] X.env:=by rfl) (hs4 : starEach [c2] X.env = (false,eval c2 X.env) :: starEach [] X.env:=by rfl)
    (hpl : (backTo pos (starEach [.Tuple [c,c2] j tp] X.env)).any (·.1) = false:=by rfl) : QE X P (.Call (.Name "isinstance" p) [e,.Tuple [c,c2] j tp] [] pos) (aUn (Uw X.K [u,u2]) ae):=by
  obtain ⟨t,pe,s⟩:=he.ex
  obtain ⟨v,pc,k⟩:=hc.ex
  obtain ⟨v2,pc2,k2⟩:=hc2.ex
  refine ⟨_,pe_callB call_isiT hg hm PyProof.Rows.boot_isinstance (pa_cons pe (pa_cons (pe_tup (pa_cons pc (pa_cons pc2 pa_nil hs4) hs3)) pa_nil hs2) hs) (by decide) (by decide) hs hpl,fun c EA ho hw τ S H σ ρ Q R st q kk=>s c EA ho hw τ S H σ ρ _ _ st q fun vx H1 ⟨S1,ρ1,x,s1,d,b,h1,⟨ty,h2,h3,h4⟩,q1⟩=>?_⟩
  refine ⟨show 2 ≤ sizeLine by decide,fun tp hp=>?_⟩
  have s2 : Stt X.K c S1 (upd H1 tp (.tup [v,v2])) σ ρ1 ((vx,x) :: τ):=s1.beside hp
  exact ⟨vx,tp,[v,v2],ty,[u,u2],b,rfl,upd_same,.cons k (.cons k2 .nil),Ow h3 h2 (s2.dat (List.mem_cons_self ..) h1),h4,kk _ _ (KE.sc s2.drop rfl q1)⟩
/-- an own exception's __init__: self.f = x -/
def JV8 (C : Addr) (f : Str) : Sp:=fun vs H Q _=>∃ a y,vs = [.ref a,y] ∧ H a = some (exo a C none) ∧ ∀ dx,H dx = none → dx ≠ a → Q .non (upd (upd H dx (exd dx [(f,y)])) a (exo a C (some dx)))
def Gi (C : Addr) (f : Str) (ae : AE) : AS:=fun DA ρ=>ae DA.ex ρ fun x ρ1=>Yd x ρ1 fun d ρ2=>DA.ex C [(f,d)] ρ2
/-- what a raise leans on -/
structure Rai (Pr : Program) (w : World) (K : Fg) (mg : Str → Option Value) (base : Heap) (x : Str) (C : Addr) (f : Str) (k : Nat) : Prop where
  ox : OexC K C
  gx : mg x = some (.ref C)
  ex : ∃ fI fd ps,PySem.W.findIn K (.ref C) "__init__" = some (some (.ref fI)) ∧ PySem.W.typeIn K (.ref fI) = some (.type "function") ∧ Binds K fd ps [] ∧ FnOk Pr w K mg base (L2.CX Pr w) k fI fd ps (JV8 C f)
theorem JZc {CX : CXT} {X : Cx} (h : ∀ st H s e s',¬ CX st H s (fun _ _ _=>False) e s') : Passes CX X (fun _ _ _=>False):=fun pins σ H s e s' I c=>(h _ _ _ _ _ c).elim
theorem JZj {H1 : Hp} {a dx C : Addr} {fs : List (Str × V)} (ha : H1 a = none) (hne : dx ≠ a) : upd (L2.del (upd (upd (upd H1 a (exo a C none)) dx (exd dx fs)) a (exo a C (some dx))) a) dx (.xd fs) = upd H1 dx (.xd fs):=by
  funext b
  by_cases h1 : b = dx
  · rw [h1,upd_same,upd_same]
  · rw [upd_ne h1,upd_ne h1]
    by_cases h2 : b = a
    · rw [h2,L2.del_same,ha]
    · rw [L2.del_ne h2,upd_ne h2,upd_ne h1,upd_ne h2]
theorem Pp {Pr : Program} {w : World} : ∀ st H s e s',¬ L2.CX Pr w st H s (fun _ _ _=>False) e s':=fun st H s e s' c=>by
  unfold L2.CX at c
  first
    | exact c.elim
    | (obtain ⟨_,_,_,_,_,_,_,_,_,_,_,_,_,_,_,h⟩:=c; exact h)
    | (obtain ⟨_,_,_,_,_,_,_,_,_,_,_,_,_,_,h⟩:=c; exact h)
    | (obtain ⟨_,_,_,_,_,_,_,_,_,_,_,_,_,h⟩:=c; exact h)
    | (obtain ⟨_,_,_,_,_,_,_,_,_,_,_,_,h⟩:=c; exact h)
theorem JY6 {x : Str} {C : Addr} {f : Str} {k : Nat} {e : Expr} {ae : AE} {p cpos : Pos} (R : Rai X.prog X.w X.K X.mg X.base x C f k) (hc : X.calm = true) (tk : Takes X P.W) (hr : Room (k + 1) X.A) (hg : Gl X x) (he : QE X P e ae) (hdb : (x == ("__debug__" : Str)) = false:=by decide) (hs : starEach [e] X.env = (false,eval e X.env) :: starEach [] X.env:=by rfl) (hpl : (backTo cpos (starEach [] X.env)).any (·.1) = false:=by rfl) :
    QS X P (.Raise (some (.Call (.Name x p) [e] [] cpos)) none pos) (Gi C f ae):=by
  obtain ⟨t,pe,s⟩:=he.ex
  obtain ⟨fI,fd,ps,h1,h2,h3,h4⟩:=R.ex
  refine ⟨_,ps_raise hc tk (pmk_oex R.ox h1 h2 h4 hr h3 .nil (JZc Pp) hg R.gx (pa_cons pe pa_nil hs) hdb hs hpl),fun c D DA ho hw l S H σ ρ st q=>s c DA.ex ho hw [] S H σ ρ _ _ st q fun v H1 ⟨S1,ρ1,y,s1,q1⟩=>?_⟩
  obtain ⟨S2,d,ρ2,sm,s2,q2⟩:=W3 s1 q1
  have rd:=s2.data
  refine ⟨by show 1 ≤ 1000; decide,fun a ha=>⟨a,v,rfl,upd_same,fun dx hdx hne=>⟨rfl,dx,[(f,v)],upd_same,by rw [upd_ne hne,upd_same],?_,?_⟩⟩⟩
  · rw [upd_ne hne] at hdx; exact hdx
  · rw [JZj ha hne]
    have hdx' : H1 dx = none:=by rw [upd_ne hne] at hdx; exact hdx
    have s3 : Stt X.K c S2 (upd H1 dx (.xd [(f,v)])) σ ρ2 []:=s2.drop.beside hdx'
    refine hw S2 _ σ ρ2 C [(f,d)] (some dx) s3 (.inr ⟨dx,[(f,v)],rfl,upd_same,?_⟩) q2
    simp only [RepF]
    exact ⟨v,[],rfl,rd,rfl⟩
end
end Vs
namespace Vs
open PySem PySem.Spec PyProof.Rows L2
variable [Tbs]
section
variable {Pr : Program} {w : World} {K : Fg} {mg : Str → Option Value} {base : Heap} {x qual : Str} {params : Arguments} {body : List Stmt} {scope : Scope} {f : Addr} {fd : FuncData}
theorem JXi {a b : Str} {C : Addr} {g : Str} (F : FunD K x qual params body scope [] [] f fd) (S : FnScope [a,b] [a,b] scope) (ox : OexC K C) (no : PySem.W.findIn K (.ref C) g = some none)
    (hb : ∀ (cdv : Value) (Ar : Around) (outer : List Env) (s : Shared) (H : Hp) (E : XK),PSs (cxOf (L2.CX Pr w) Pr w K mg base [a,b] qual scope f cdv Ar outer s H E) body (tOst K g (tVar 0) (tVar 1))) : FnOk Pr w K mg base (L2.CX Pr w) 1 f fd [a,b] (JV8 C g):=by
  refine F.ok (k:=0) S (fun vs H Q E h=>?_) (fun cdv Ar outer s H vs Q E hr h=>⟨_,hb cdv Ar outer s H E,?_⟩)
  · obtain ⟨a,y,rfl,_⟩:=h
    rfl
  · obtain ⟨a',y,rfl,ha,hq⟩:=h
    exact ⟨y,rfl,.ref a',rfl,a',C,rfl,ox,no,.inl ⟨ha,fun dx h1 h2=>hq dx h1 h2⟩⟩
end
section
variable {X : Cx} {P : Pm} {K : Fg} {pos : Pos}
def Aj (K : Fg) (P : Pm) (ab : AS) : TS:=fun D σ H=>∃ c DA S ρ,OsIn K c P.O ∧ XOk K c P.W DA.ex ∧ Link K c D DA ∧ Stt K c S H σ ρ [] ∧ ab DA ρ
theorem PSs.imp {st : List Stmt} {t t' : TS} (h : PSs X st t) (hi : ∀ D σ H,t' D σ H → t D σ H) : PSs X st t':=⟨fun pins s σ H D I h'=>h.run pins s σ H D I (hi D σ H h')⟩
theorem JHj {st : List Stmt} {ab : AS} (h : QSs X P st ab) : PSs X st (Aj X.K P ab):=by
  obtain ⟨t,p,s⟩:=h.ex
  exact PSs.imp p fun D σ H ⟨c,DA,S,ρ,h1,h2,h3,h4,h5⟩=>s c D DA h1 h2 h3 S H σ ρ h4 h5
variable {i : Nat} {a dd C : Addr} {e : Expr} {es : List Expr}
end
end Vs
namespace Vs
open PySem PySem.Spec PyProof.Rows L2
variable [Tbs]
theorem K5 {σ : L2.St} {i : Nat} : ∀ {vs : List Nat},i ∉ vs → (wipe σ vs)[i]? = σ[i]?
  | [],_=>rfl
  | v :: vs,h=>by
    unfold wipe
    rw [List.getElem?_set_ne (fun z=>h (by simp [z]))]
    exact K5 fun z=>h (by simp [z])
theorem Px {σ : L2.St} {i : Nat} : ∀ {vs : List Nat},i ∈ vs → i < σ.length → (wipe σ vs)[i]? = some none
  | [],h,_=>by simp at h
  | v :: vs,h,hl=>by
    unfold wipe
    by_cases e : v = i
    · subst e
      rw [List.getElem?_set_self (by rw [wipe_length]; exact hl)]
    · rw [List.getElem?_set_ne e]
      exact Px (by
        rcases List.mem_cons.mp h with z | z
        · exact absurd z.symm e
        · exact z) hl
theorem But.wipe {σ σ2 : L2.St} {vs : List Nat} (h : But vs σ σ2) : wipe σ2 vs = wipe σ vs:=by
  apply List.ext_getElem?
  intro i
  by_cases hi : i ∈ vs
  · by_cases hl : i < σ.length
    · rw [Px hi hl,Px hi (by rw [h.1]; exact hl)]
    · rw [List.getElem?_eq_none (by rw [wipe_length,h.1]; omega),List.getElem?_eq_none (by rw [wipe_length]; omega)]
  · rw [K5 hi,K5 hi,h.2 i hi]
theorem Bx {σ : L2.St} {vs : List Nat} : But vs σ (wipe σ vs):=⟨wipe_length σ vs,fun i hi=>K5 hi⟩
theorem But.symm {ws : List Nat} {σ σ2 : L2.St} (h : But ws σ σ2) : But ws σ2 σ:=⟨h.1.symm,fun i hi=>(h.2 i hi).symm⟩
theorem But.mono {ws vs : List Nat} {σ σ2 : L2.St} (h : But ws σ σ2) (hs : ∀ i ∈ ws,i ∈ vs) : But vs σ σ2:=⟨h.1,fun i hi=>h.2 i fun z=>hi (hs i z)⟩
/-- some slots hold nothing -/
def Wa (vs : List Nat) (ρ : J0) : Prop:=∀ v ∈ vs,ρ[v]? = some none
theorem Nu : ∀ {vs : List Nat} {ρ : J0},(∀ v ∈ vs,v < ρ.length) → Wa vs (Y7 vs ρ)
  | [],ρ,_,v,hv=>by simp at hv
  | w :: vs,ρ,hl,v,hv=>by
    have len : ∀ (vs : List Nat) (ρ : J0),(Y7 vs ρ).length = ρ.length:=by
      intro vs ρ
      induction vs with
      | nil=>rfl
      | cons x xs ih=>unfold Y7; rw [List.length_set,ih]
    unfold Y7
    by_cases e : w = v
    · subst e
      rw [List.getElem?_set_self (by rw [len]; exact hl w (by simp))]
    · rw [List.getElem?_set_ne e]
      exact Nu (fun v hv=>hl v (by simp [hv])) v (by
        rcases List.mem_cons.mp hv with z | z
        · exact absurd z.symm e
        · exact z)
section
variable {K : Fg} {c : Ctx} {S H : Hp} {σ σ2 : L2.St} {ρ : J0} {τ : List (V × A)} {vs : List Nat}
theorem D6 : ∀ {ρ : J0} {σ σ2 : L2.St},σ2.length = σ.length → (∀ (i : Nat) (y : A),ρ[i]? = some (some y) → σ2[i]? = σ[i]?) → Ji ρ σ2 = Ji ρ σ
  | [],σ,σ2,_,_=>by cases σ <;> cases σ2 <;> rfl
  | o :: ρ,[],σ2,hl,_=>by
    have e : σ2 = []:=by simpa using hl
    rw [e]
  | o :: ρ,x :: σ,[],hl,_=>by simp at hl
  | o :: ρ,x :: σ,y :: σ2,hl,h=>by
    have ih:=D6 (ρ:=ρ) (σ:=σ) (σ2:=σ2) (by simpa using hl) (fun i z hz=>by
      have:=h (i + 1) z (by simpa using hz)
      simpa using this)
    cases o with
    | none=>simp only [Ji]; exact ih
    | some z =>
      have e : y = x:=by
        have:=h 0 z (by simp)
        simpa using this
      subst e
      cases y with
      | none=>simp only [Ji]; exact ih
      | some v=>simp only [Ji]; rw [ih]
theorem JWt : ∀ {ρ : J0} {σ σ2 : L2.St},σ2.length = σ.length → (∀ (i : Nat) (y : A),ρ[i]? = some (some y) → σ2[i]? = σ[i]?) → EnvOk ρ σ → EnvOk ρ σ2
  | [],σ,σ2,hl,_,h=>by
    have e : σ = []:=h
    subst e
    have e2 : σ2 = []:=by simpa using hl
    exact e2
  | o :: ρ,σ,[],hl,_,h=>by
    obtain ⟨w,r,rfl,_,_⟩:=h
    simp at hl
  | o :: ρ,σ,y :: σ2,hl,hq,h=>by
    obtain ⟨w,r,rfl,h1,h2⟩:=h
    refine ⟨y,σ2,rfl,fun z ez=>?_,JWt (by simpa using hl) (fun i z hz=>by
      have:=hq (i + 1) z (by simpa using hz)
      simpa using this) h2⟩
    obtain ⟨⟨v,hv⟩,hn⟩:=h1 z ez
    have e : y = w:=by
      have:=hq 0 z (by simp [ez])
      simpa using this
    exact ⟨⟨v,by rw [e]; exact hv⟩,hn⟩
theorem Stt.but (s : Stt K c S H σ ρ τ) (b : But vs σ σ2) (hn : Wa vs ρ) (ho : ∀ p ∈ c.os,p.1 ∉ vs) : Stt K c S H σ2 ρ τ:=by
  have out : ∀ (i : Nat) (y : A),ρ[i]? = some (some y) → σ2[i]? = σ[i]?:=fun i y h=>b.2 i fun z=>by rw [hn i z] at h; cases h
  refine ⟨?_,JWt b.1 out s.env,fun v i m=>?_,s.le,s.r,s.new,s.up,fun p m=>by rw [b.2 p.1 (ho p m)]; exact s.os p m,s.tb⟩
  · rw [D6 b.1 out]; exact s.own
  · obtain ⟨h1,y,h2⟩:=s.loc v i m
    exact ⟨by rw [out i y h2]; exact h1,y,h2⟩
/-- an owned thing on top is changed -/
theorem Stt.writeTop {p : Addr} {o : HO} {y y' : A} (s : Stt K c S H σ ρ ((.ref p,y) :: τ)) (hx : Y4 y = false) (hx' : Y4 y' = false) (hg : ∀ g,RepA K S H y (.ref p) g → g = [p]) (hr : RepA K S (upd H p o) y' (.ref p) [p]) : Stt K c S (upd H p o) σ ρ ((.ref p,y') :: τ):=by
  obtain ⟨g,h,h1,h2,nd,h3⟩:=s.top hx
  have eg:=hg g h1
  subst eg
  have np : p ∉ h:=fun z=>(List.nodup_append.mp nd).2.2 p (List.mem_cons_self ..) p z rfl
  have Sp : S p = none:=(h3 p (by simp)).1
  have Rp : c.R p = none:=(h3 p (by simp)).2
  exact Stt.push (g:=[p]) (h:=h) hx' hr (h2.keep (Same.refl S) fun a ha=>upd_ne (fun z=>np (z ▸ ha))) nd h3 s.env (fun v' i m=>s.loc v' i (List.mem_cons_of_mem _ m)) (s.le.up Sp) (fun a o' e=>by rw [upd_ne (ne_of_none e Rp)]; exact s.r a o' e) s.new s.up s.os (by
    obtain ⟨u,e1,e2⟩:=h1.nsp y (.ref p) [p] p (by simp)
    exact s.tb.put e1 e2)
end
structure QTs (X : Cx) (P : Pm) (ifs : List Expr) (a : AT) : Prop where
  ex : ∃ t,PTs X ifs t ∧ Vp X.K P t a
def B0 : AT:=fun _ ρ Q=>Q true ρ
section
variable {X : Cx} {P : Pm} {K : Fg} {pos : Pos}
theorem Ks : QTs X P [] B0:=⟨_,pts_nil,fun c EA _ _ τ S H σ ρ Q R s q k=>k _ _ ⟨S,ρ,s,q⟩⟩
theorem O6 {e : Expr} {t : AT} (h : QT X P e t) : QTs X P [e] t:=let ⟨_,p,s⟩:=h.ex; ⟨_,pts_one p,s⟩
def noX : AX:=fun _ _ _=>False
theorem F4 {c : Ctx} : XOk K c (fun _ _ _ _=>False) noX:=fun _ _ _ _ _ _ _ _ _ h=>h
def lcA (G : J0 → Prop) (ag : AG) (at_ : AT) (ae : AE) (vs : List Nat) : List D → List D → J0 → AK → Prop
  | [],acc,ρ,Q=>G ρ ∧ Q (.lst acc) ρ
  | x :: xs,acc,ρ,Q=>G ρ ∧ ag x ρ fun ρ1=>at_ noX ρ1 fun b ρ2=>if b = true then ae noX ρ2 fun y ρ3=>Yd y ρ3 fun d ρ4=>acc.length ≤ 100000 ∧ lcA G ag at_ ae vs xs (acc ++ [d]) (Y7 vs ρ4) Q else lcA G ag at_ ae vs xs acc (Y7 vs ρ2) Q
def aLc (ai : AI) (ag : AG) (at_ : AT) (ae : AE) (vs : List Nat) : AE:=fun EA ρ Q=>ai EA ρ fun xs G ρ1=>Wa vs ρ1 ∧ lcA G ag at_ ae vs xs [] ρ1 Q
abbrev Pn (P : Pm) : Pm:=⟨fun _ _ _ _=>False,P.O⟩
theorem Tv {wi : TI} {g : TG} {tt : TT} {te : TE} {ai : AI} {ag : AG} {at_ : AT} {ae : AE} {vs ws : List Nat} (hO : ∀ v ∈ vs,v ∉ P.O) (hws : ∀ i ∈ ws,i ∈ vs) (si : Mz K P wi ai) (sg : Hb K (Pn P) g ag ws) (st : Vp K (Pn P) tt at_) (se : Yw K (Pn P) te ae) :
    Yw K P (tLc wi g tt te vs) (aLc ai ag at_ ae vs):=by
  intro c EA ho hw τ S H σ ρ Q R s q k
  refine si c EA ho hw τ S H σ ρ _ _ s q fun c' J H1 S1 ρ1 xs G rb s1 hJ ⟨hn1,q1⟩ Dl hD=>?_
  have ho':=rb.osIn ho
  have hos : ∀ p ∈ c'.os,p.1 ∉ vs:=fun p m z=>hO p.1 z (ho'.1 p m)
  have s1' : Stt K c' S1 H1 (wipe σ vs) ρ1 τ:=s1.but Bx hn1 hos
  have s2 : Stt K c' S1 (upd H1 Dl (.lst [])) (wipe σ vs) ρ1 ((.ref Dl,.lst []) :: τ):=s1'.newList hD (by simp only [RepL])
  refine ⟨fun i m H=>∃ S ρ acc,Stt K c' S H (wipe σ vs) ρ ((.ref Dl,.lst acc) :: τ) ∧ Wa vs ρ ∧ i + m = xs.length ∧ lcA G ag at_ ae vs (xs.drop i) acc ρ Q,⟨xs.length,S1,ρ1,[],s2,hn1,by omega,by simpa using q1⟩,?_⟩
  rintro i m H2 ⟨S2,ρ2,acc,s3,hn2,hm,q2⟩
  have noloc : ∀ u j,(u,A.loc j) ∈ (V.ref Dl,A.lst acc) :: τ → j ∉ vs:=fun u j mm z=>by
    obtain ⟨_,y,hy⟩:=s3.loc u j mm
    rw [hn2 j z] at hy
    cases hy
  by_cases hlt : i < xs.length
  · have e : xs.drop i = xs[i] :: xs.drop (i + 1):=List.drop_eq_getElem_cons hlt
    rw [e] at q2
    obtain ⟨hG,q2⟩:=q2
    obtain ⟨h1,h2⟩:=(hJ S2 H2 (wipe σ vs) ρ2 _ s3 hG).1 i xs[i] (List.getElem?_eq_getElem hlt)
    refine .inr ⟨h1,fun H'=>∃ S ρ acc,Stt K c' S H' (wipe σ vs) ρ ((.ref Dl,.lst acc) :: τ) ∧ Wa vs ρ ∧ lcA G ag at_ ae vs (xs.drop (i + 1)) acc ρ Q,fun H' ⟨S',ρ',acc',a1,a2,a3⟩=>⟨m - 1,by omega,S',ρ',acc',a1,a2,by omega,a3⟩,fun x H' hy=>?_⟩
    obtain ⟨S3,s4⟩:=h2 x H' hy
    refine sg c' ho' _ S3 H' (wipe σ vs) ρ2 x xs[i] _ _ s4 (fun u j mm z=>noloc u j mm (hws j z)) q2 fun σ' ρ' s5 bt q5=>?_
    have btv : But vs (wipe σ vs) σ':=bt.mono hws
    have wip : wipe (wipe σ vs) vs = wipe σ vs:=But.wipe (But.symm Bx).symm
    refine ⟨(But.wipe btv).trans wip,st c' noX ho' F4 _ S3 H' σ' ρ' _ _ s5 q5 fun b H3 ⟨S4,ρ4,s6,q6⟩=>?_⟩
    -- back to the block's start
    have back : ∀ {S H : Hp} {ρ : J0} {acc : List D},Stt K c' S H σ' ρ ((.ref Dl,.lst acc) :: τ) → Stt K c' S H (wipe σ vs) (Y7 vs ρ) ((.ref Dl,.lst acc) :: τ) ∧ Wa vs (Y7 vs ρ):=fun {S H ρ acc'} z=>by
      have nl : ∀ u j,(u,A.loc j) ∈ (V.ref Dl,A.lst acc') :: τ → j ∉ vs:=fun u j mm zz=>by
        rcases List.mem_cons.mp mm with y | y
        · injection y with _ y; cases y
        · exact noloc u j (List.mem_cons_of_mem _ y) zz
      have hlen : ∀ v ∈ vs,v < ρ.length:=fun v hv=>by
        have e1:=W1 (hn2 v hv)
        have e2:=s3.env.len
        have e3:=z.env.len
        have e4:=btv.1
        omega
      have nn:=Nu (ρ:=ρ) hlen
      exact ⟨(z.clears vs nl).but (But.symm btv) nn hos,nn⟩
    cases b with
    | false =>
      rw [if_neg Bool.false_ne_true] at q6 ⊢
      obtain ⟨z1,z2⟩:=back s6
      exact ⟨S4,_,acc,z1,z2,q6⟩
    | true =>
      rw [if_pos rfl] at q6 ⊢
      refine se c' noX ho' F4 _ S4 H3 σ' ρ4 _ _ s6 q6 fun vy H4 ⟨S5,ρ5,y,s7,q7⟩=>?_
      obtain ⟨S6,d,ρ6,sm,s8,hz,q8⟩:=W3 s7 q7
      have rd:=s8.data
      have s9:=s8.drop
      obtain ⟨g,hh,r1,_,_,_⟩:=s9.top rfl
      obtain ⟨p',us,e1,hp,rl,_⟩:=r1.lst_inv
      cases e1
      refine ⟨us,hp,by rw [rl.len]; exact Nat.lt_of_le_of_lt hz (by decide),?_⟩
      have s10 : Stt K c' S6 (upd H4 Dl (.lst (us ++ [vy]))) σ' ρ6 ((.ref Dl,.lst (acc ++ [d])) :: τ):=s9.writeTop rfl rfl (fun g' h=>by obtain ⟨a',_,e,_,_,e2⟩:=h.lst_inv; cases e; exact e2) (.mk_lst upd_same (rl.app (by simp only [RepL]; exact ⟨vy,[],rfl,rd,rfl⟩)))
      obtain ⟨z1,z2⟩:=back s10
      exact ⟨S6,_,_,z1,z2,q8⟩
  · have e : xs.drop i = []:=List.drop_eq_nil_of_le (by omega)
    rw [e] at q2
    refine .inl ⟨(hJ S2 H2 (wipe σ vs) ρ2 _ s3 q2.1).2 i (by omega),k _ _ ⟨S2,ρ2,.lst acc,?_,q2.2⟩⟩
    exact rb.back (s3.but (But.symm Bx) hn2 hos)
theorem JGm {elt tg iter : Expr} {ifs : List Expr} {scope : Scope} {own : List (Str × Nat)} {ai : AI} {ag : AG} {at_ : AT} {ae : AE} {ws : List Nat} (hc : X.calm = true) (hN : X.N.Nodup) (hi : QI X P tg iter ai) (ok : BlkOk X.N X.env.scope scope own)
    (hg : ∃ g,Hb X.K (Pn P) g ag ws ∧ ∀ (s : Shared) (H : Hp) (C : Addr) (cl : List (Str × Addr)) (fp : List Addr),PG (X.blk s H scope (compEnvC scope cl C X.env) fp) tg g) (ht : ∃ t,Vp X.K (Pn P) t at_ ∧ ∀ (s : Shared) (H : Hp) (C : Addr) (cl : List (Str × Addr)) (fp : List Addr),PTs (X.blk s H scope (compEnvC scope cl C X.env) fp) ifs t)
    (he : ∃ t,Yw X.K (Pn P) t ae ∧ ∀ (s : Shared) (H : Hp) (C : Addr) (cl : List (Str × Addr)) (fp : List Addr),PE (X.blk s H scope (compEnvC scope cl C X.env) fp) elt t) (hO : ∀ v ∈ own.map (·.2),v ∉ P.O) (hws : ∀ i ∈ ws,i ∈ own.map (·.2)) (hs : ∀ x,foldedSetIterable iter X.env x = pure x:=by intro _; rfl) :
    QE X P (.ListComp elt [⟨tg,iter,ifs,0⟩] scope pos) (aLc ai ag at_ ae (own.map (·.2))):=by
  obtain ⟨wi,pi,si⟩:=hi.ex
  obtain ⟨g,sg,pg⟩:=hg
  obtain ⟨tt,st,pt⟩:=ht
  obtain ⟨te,se,pe⟩:=he
  exact ⟨_,pe_lc hc hN pi ok pg pt pe hs,Tv hO hws si sg st se⟩
end
section
variable {K : Fg} {P : Pm}
def JYl (K : Fg) (P : Pm) (ae : AE) : TE:=fun σ H R=>∃ c EA τ S ρ Q,OsIn K c P.O ∧ XOk K c P.W EA ∧ Stt K c S H σ ρ τ ∧ ae EA ρ Q ∧ ∀ v H',KE K c σ τ Q v H' → R v H'
def JUq (K : Fg) (P : Pm) (at_ : AT) : TT:=fun σ H R=>∃ c EA τ S ρ Q,OsIn K c P.O ∧ XOk K c P.W EA ∧ Stt K c S H σ ρ τ ∧ at_ EA ρ Q ∧ ∀ v H',KT K c σ τ Q v H' → R v H'
def Se (K : Fg) (P : Pm) (ag : AG) (ws : List Nat) : TG:=fun v σ H R=>∃ c τ S ρ d Q,OsIn K c P.O ∧ Stt K c S H σ ρ ((v,.v d) :: τ) ∧ (∀ u i,(u,A.loc i) ∈ τ → i ∉ ws) ∧ ag d ρ Q ∧ ∀ σ' ρ',Stt K c S H σ' ρ' τ → But ws σ σ' → Q ρ' → R σ' H
theorem Km {ae : AE} : Yw K P (JYl K P ae) ae:=fun c EA ho hw τ S H σ ρ Q R s q k=>⟨c,EA,τ,S,ρ,Q,ho,hw,s,q,k⟩
theorem O2 {ae : AT} : Vp K P (JUq K P ae) ae:=fun c EA ho hw τ S H σ ρ Q R s q k=>⟨c,EA,τ,S,ρ,Q,ho,hw,s,q,k⟩
theorem Nk {ag : AG} {ws : List Nat} : Hb K P (Se K P ag ws) ag ws:=fun c ho τ S H σ ρ v d Q R s hn q k=>⟨c,τ,S,ρ,d,Q,ho,s,hn,q,k⟩
theorem Kt {X : Cx} {e : Expr} {ae : AE} (h : QE X P e ae) (hK : X.K = K) : PE X e (JYl K P ae):=by
  subst hK
  obtain ⟨t,p,s⟩:=h.ex
  exact ⟨fun pins st σ H Q I ⟨c,EA,τ,S,ρ,Q',h1,h2,h3,h4,h5⟩=>p.run pins st σ H Q I (s c EA h1 h2 τ S H σ ρ Q' Q h3 h4 h5)⟩
theorem Pk {X : Cx} {e : List Expr} {ae : AT} (h : QTs X P e ae) (hK : X.K = K) : PTs X e (JUq K P ae):=by
  subst hK
  obtain ⟨t,p,s⟩:=h.ex
  exact ⟨fun pins st σ H Q I ⟨c,EA,τ,S,ρ,Q',h1,h2,h3,h4,h5⟩=>p.run pins st σ H Q I (s c EA h1 h2 τ S H σ ρ Q' Q h3 h4 h5)⟩
theorem Ot {X : Cx} {e : Expr} {ag : AG} {ws : List Nat} (h : QG X P e ag ws) (hK : X.K = K) : PG X e (Se K P ag ws):=by
  subst hK
  obtain ⟨t,p,s⟩:=h.ex
  exact ⟨fun pins st σ H v u Q I r ⟨c,τ,S,ρ,d,Q',h1,h2,h3,h4,h5⟩=>p.run pins st σ H v u Q I r (s c h1 τ S H σ ρ v d Q' Q h2 h3 h4 h5)⟩
theorem G5 {X : Cx} {elt tg iter : Expr} {ifs : List Expr} {scope : Scope} {ai : AI} {ag : AG} {at_ : AT} {ae : AE} {ws : List Nat} {pos : Pos} (own : List (Str × Nat)) (hc : X.calm = true) (hN : X.N.Nodup) (ok : BlkOk X.N X.env.scope scope own) (hi : QI X P tg iter ai)
    (hg : ∀ (s : Shared) (H : Hp) (C : Addr) (cl : List (Str × Addr)) (fp : List Addr),QG (X.blk s H scope (compEnvC scope cl C X.env) fp) (Pn P) tg ag ws) (ht : ∀ (s : Shared) (H : Hp) (C : Addr) (cl : List (Str × Addr)) (fp : List Addr),QTs (X.blk s H scope (compEnvC scope cl C X.env) fp) (Pn P) ifs at_)
    (he : ∀ (s : Shared) (H : Hp) (C : Addr) (cl : List (Str × Addr)) (fp : List Addr),QE (X.blk s H scope (compEnvC scope cl C X.env) fp) (Pn P) elt ae) (hO : ∀ v ∈ own.map (·.2),v ∉ P.O) (hws : ∀ i ∈ ws,i ∈ own.map (·.2)) (hs : ∀ x,foldedSetIterable iter X.env x = pure x:=by intro _; rfl) :
    QE X P (.ListComp elt [⟨tg,iter,ifs,0⟩] scope pos) (aLc ai ag at_ ae (own.map (·.2))) :=
  JGm hc hN hi ok ⟨_,Nk,fun s H C cl fp=>Ot (hg s H C cl fp) rfl⟩ ⟨_,O2,fun s H C cl fp=>Pk (ht s H C cl fp) rfl⟩ ⟨_,Km,fun s H C cl fp=>Kt (he s H C cl fp) rfl⟩ hO hws hs
end
end Vs
namespace Vs
open PySem PySem.Spec PyProof.Rows L2
variable [Tbs]
section
variable {X : Cx} {P : Pm} {K : Fg} {pos : Pos}
def dcA (G : J0 → Prop) (ag : AG) (at_ : AT) (ak ae : AE) (vs : List Nat) : List D → List (Key × D) → J0 → AK → Prop
  | [],acc,ρ,Q=>G ρ ∧ Q (.dic acc) ρ
  | x :: xs,acc,ρ,Q=>G ρ ∧ ag x ρ fun ρ1=>at_ noX ρ1 fun b ρ2=>if b = true then ak noX ρ2 fun ky ρ3=>ae noX ρ3 fun y ρ4=>Yd y ρ4 fun d ρ5=>∃ kd kk,dat ky ρ5 = some kd ∧ keyD kd = some kk ∧ acc.length ≤ 100000 ∧ dcA G ag at_ ak ae vs xs (putD acc kk d) (Y7 vs ρ5) Q else dcA G ag at_ ak ae vs xs acc (Y7 vs ρ2) Q
def aDc (ai : AI) (ag : AG) (at_ : AT) (ak ae : AE) (vs : List Nat) : AE:=fun EA ρ Q=>ai EA ρ fun xs G ρ1=>Wa vs ρ1 ∧ dcA G ag at_ ak ae vs xs [] ρ1 Q
theorem JKy {wi : TI} {g : TG} {tt : TT} {tk te : TE} {ai : AI} {ag : AG} {at_ : AT} {ak ae : AE} {vs ws : List Nat} (hO : ∀ v ∈ vs,v ∉ P.O) (hws : ∀ i ∈ ws,i ∈ vs) (si : Mz K P wi ai) (sg : Hb K (Pn P) g ag ws) (st : Vp K (Pn P) tt at_) (sk : Yw K (Pn P) tk ak) (se : Yw K (Pn P) te ae) :
    Yw K P (tDc wi g tt tk te vs) (aDc ai ag at_ ak ae vs):=by
  intro c EA ho hw τ S H σ ρ Q R s q k
  refine si c EA ho hw τ S H σ ρ _ _ s q fun c' J H1 S1 ρ1 xs G rb s1 hJ ⟨hn1,q1⟩ Dl hD=>?_
  have ho':=rb.osIn ho
  have hos : ∀ p ∈ c'.os,p.1 ∉ vs:=fun p m z=>hO p.1 z (ho'.1 p m)
  have s1' : Stt K c' S1 H1 (wipe σ vs) ρ1 τ:=s1.but Bx hn1 hos
  have s2 : Stt K c' S1 (upd H1 Dl (.dK [])) (wipe σ vs) ρ1 ((.ref Dl,.dic []) :: τ):=s1'.alloc hD rfl (.mk_dic upd_same (by simp only [RepK]))
  refine ⟨fun i m H=>∃ S ρ acc,Stt K c' S H (wipe σ vs) ρ ((.ref Dl,.dic acc) :: τ) ∧ Wa vs ρ ∧ i + m = xs.length ∧ dcA G ag at_ ak ae vs (xs.drop i) acc ρ Q,⟨xs.length,S1,ρ1,[],s2,hn1,by omega,by simpa using q1⟩,?_⟩
  rintro i m H2 ⟨S2,ρ2,acc,s3,hn2,hm,q2⟩
  have noloc : ∀ u j,(u,A.loc j) ∈ (V.ref Dl,A.dic acc) :: τ → j ∉ vs:=fun u j mm z=>by
    obtain ⟨_,y,hy⟩:=s3.loc u j mm
    rw [hn2 j z] at hy
    cases hy
  by_cases hlt : i < xs.length
  · have e : xs.drop i = xs[i] :: xs.drop (i + 1):=List.drop_eq_getElem_cons hlt
    rw [e] at q2
    obtain ⟨hG,q2⟩:=q2
    obtain ⟨h1,h2⟩:=(hJ S2 H2 (wipe σ vs) ρ2 _ s3 hG).1 i xs[i] (List.getElem?_eq_getElem hlt)
    refine .inr ⟨h1,fun H'=>∃ S ρ acc,Stt K c' S H' (wipe σ vs) ρ ((.ref Dl,.dic acc) :: τ) ∧ Wa vs ρ ∧ dcA G ag at_ ak ae vs (xs.drop (i + 1)) acc ρ Q,fun H' ⟨S',ρ',acc',a1,a2,a3⟩=>⟨m - 1,by omega,S',ρ',acc',a1,a2,by omega,a3⟩,fun x H' hy=>?_⟩
    obtain ⟨S3,s4⟩:=h2 x H' hy
    refine sg c' ho' _ S3 H' (wipe σ vs) ρ2 x xs[i] _ _ s4 (fun u j mm z=>noloc u j mm (hws j z)) q2 fun σ' ρ' s5 bt q5=>?_
    have btv : But vs (wipe σ vs) σ':=bt.mono hws
    have wip : wipe (wipe σ vs) vs = wipe σ vs:=But.wipe (But.symm Bx).symm
    refine ⟨(But.wipe btv).trans wip,st c' noX ho' F4 _ S3 H' σ' ρ' _ _ s5 q5 fun b H3 ⟨S4,ρ4,s6,q6⟩=>?_⟩
    have back : ∀ {S H : Hp} {ρ : J0} {acc : List (Key × D)},Stt K c' S H σ' ρ ((.ref Dl,.dic acc) :: τ) → Stt K c' S H (wipe σ vs) (Y7 vs ρ) ((.ref Dl,.dic acc) :: τ) ∧ Wa vs (Y7 vs ρ):=fun {S H ρ acc'} z=>by
      have nl : ∀ u j,(u,A.loc j) ∈ (V.ref Dl,A.dic acc') :: τ → j ∉ vs:=fun u j mm zz=>by
        rcases List.mem_cons.mp mm with y | y
        · injection y with _ y; cases y
        · exact noloc u j (List.mem_cons_of_mem _ y) zz
      have hlen : ∀ v ∈ vs,v < ρ.length:=fun v hv=>by
        have e1:=W1 (hn2 v hv)
        have e2:=s3.env.len
        have e3:=z.env.len
        have e4:=btv.1
        omega
      have nn:=Nu (ρ:=ρ) hlen
      exact ⟨(z.clears vs nl).but (But.symm btv) nn hos,nn⟩
    cases b with
    | false =>
      rw [if_neg Bool.false_ne_true] at q6 ⊢
      obtain ⟨z1,z2⟩:=back s6
      exact ⟨S4,_,acc,z1,z2,q6⟩
    | true =>
      rw [if_pos rfl] at q6 ⊢
      refine sk c' noX ho' F4 _ S4 H3 σ' ρ4 _ _ s6 q6 fun vk H4 ⟨S5,ρ5,ky,s7,q7⟩=>se c' noX ho' F4 _ S5 H4 σ' ρ5 _ _ s7 q7 fun vy H5 ⟨S6,ρ6,y,s8,q8⟩=>?_
      obtain ⟨S7,d,ρ7,sm,s9,kd,kk,hk1,hk2,hz,q9⟩:=W3 s8 q8
      have rd:=s9.data
      have rk:=s9.dat (v:=vk) (x:=ky) (by simp) hk1
      have ek:=X3 hk2 rk
      subst ek
      have s10:=s9.drop.drop
      obtain ⟨g,hh,r1,_,_,_⟩:=s10.top rfl
      obtain ⟨p',us,e1,hp,rl,_⟩:=r1.dic_inv
      cases e1
      refine ⟨us,kk,rfl,hp,by rw [rl.len]; exact Nat.lt_of_le_of_lt hz (by decide),?_⟩
      have s11 : Stt K c' S7 (upd H5 Dl (.dK (putK us kk vy))) σ' ρ7 ((.ref Dl,.dic (putD acc kk d)) :: τ):=s10.writeTop rfl rfl (fun g' h=>by obtain ⟨a',_,e,_,_,e2⟩:=h.dic_inv; cases e; exact e2) (.mk_dic upd_same (rl.put kk rd))
      obtain ⟨z1,z2⟩:=back s11
      exact ⟨S7,_,_,z1,z2,q9⟩
  · have e : xs.drop i = []:=List.drop_eq_nil_of_le (by omega)
    rw [e] at q2
    refine .inl ⟨(hJ S2 H2 (wipe σ vs) ρ2 _ s3 q2.1).2 i (by omega),k _ _ ⟨S2,ρ2,.dic acc,?_,q2.2⟩⟩
    exact rb.back (s3.but (But.symm Bx) hn2 hos)
theorem JHb {kx elt tg iter : Expr} {ifs : List Expr} {scope : Scope} {ai : AI} {ag : AG} {at_ : AT} {ak ae : AE} {ws : List Nat} (own : List (Str × Nat)) (hc : X.calm = true) (hN : X.N.Nodup) (ok : BlkOk X.N X.env.scope scope own) (hi : QI X P tg iter ai)
    (hg : ∀ (s : Shared) (H : Hp) (C : Addr) (cl : List (Str × Addr)) (fp : List Addr),QG (X.blk s H scope (compEnvC scope cl C X.env) fp) (Pn P) tg ag ws) (ht : ∀ (s : Shared) (H : Hp) (C : Addr) (cl : List (Str × Addr)) (fp : List Addr),QTs (X.blk s H scope (compEnvC scope cl C X.env) fp) (Pn P) ifs at_)
    (hk : ∀ (s : Shared) (H : Hp) (C : Addr) (cl : List (Str × Addr)) (fp : List Addr),QE (X.blk s H scope (compEnvC scope cl C X.env) fp) (Pn P) kx ak)
    (he : ∀ (s : Shared) (H : Hp) (C : Addr) (cl : List (Str × Addr)) (fp : List Addr),QE (X.blk s H scope (compEnvC scope cl C X.env) fp) (Pn P) elt ae) (hO : ∀ v ∈ own.map (·.2),v ∉ P.O) (hws : ∀ i ∈ ws,i ∈ own.map (·.2)) (hs : ∀ x,foldedSetIterable iter X.env x = pure x:=by intro _; rfl) :
    QE X P (.DictComp kx elt [⟨tg,iter,ifs,0⟩] scope pos) (aDc ai ag at_ ak ae (own.map (·.2))):=by
  obtain ⟨wi,pi,si⟩:=hi.ex
  exact ⟨_,pe_dc hc hN pi ok (fun s H C cl fp=>Ot (hg s H C cl fp) rfl) (fun s H C cl fp=>Pk (ht s H C cl fp) rfl) (fun s H C cl fp=>Kt (hk s H C cl fp) rfl) (fun s H C cl fp=>Kt (he s H C cl fp) rfl) hs,JKy hO hws si Nk O2 Km Km⟩
theorem JX3 {i : Nat} {y : Str} {py : Pos} {elt tg iter : Expr} {ifs : List Expr} {scope : Scope} {ai : AI} {ag : AG} {at_ : AT} {ae : AE} {ws : List Nat} {spos : Pos} (own : List (Str × Nat)) (hc : X.calm = true) (hN : X.N.Nodup) (hy : X.N[i]? = some y) (hyl : X.env.scope.names.lookup y = some .local) (hyO : i ∉ P.O)
    (hsw : swapsWith (.ListComp elt [⟨tg,iter,ifs,0⟩] scope pos) (some (.Name y py)) spos.line X.env = pure true) (ok : BlkOk X.N X.env.scope scope own) (hi : QI X P tg iter ai)
    (hg : ∀ (s : Shared) (H : Hp) (C : Addr) (cl : List (Str × Addr)) (fp : List Addr),QG (X.blk s H scope (compEnvC scope cl C X.env) fp) (Pn P) tg ag ws) (ht : ∀ (s : Shared) (H : Hp) (C : Addr) (cl : List (Str × Addr)) (fp : List Addr),QTs (X.blk s H scope (compEnvC scope cl C X.env) fp) (Pn P) ifs at_)
    (he : ∀ (s : Shared) (H : Hp) (C : Addr) (cl : List (Str × Addr)) (fp : List Addr),QE (X.blk s H scope (compEnvC scope cl C X.env) fp) (Pn P) elt ae) (hO : ∀ v ∈ own.map (·.2),v ∉ P.O) (hws : ∀ i ∈ ws,i ∈ own.map (·.2)) (hs : ∀ x,foldedSetIterable iter X.env x = pure x:=by intro _; rfl) :
    QS X P (.Assign [.Name y py] (.ListComp elt [⟨tg,iter,ifs,0⟩] scope pos) spos) (Ye i (Vk (aLc ai ag at_ ae (own.map (·.2))))):=by
  obtain ⟨wi,pi,si⟩:=hi.ex
  refine ⟨_,ps_setLc hc hN hy hyl hsw pi ok (fun s H C cl fp=>Ot (hg s H C cl fp) rfl) (fun s H C cl fp=>Pk (ht s H C cl fp) rfl) (fun s H C cl fp=>Kt (he s H C cl fp) rfl) hs,fun c D DA ho hw l S H σ ρ st q=>?_⟩
  refine Tv hO hws si Nk O2 Km c DA.ex ho hw [] S H σ ρ _ _ st q fun v H1 ⟨S1,ρ1,y,s1,q1⟩=>?_
  obtain ⟨S2,d,ρ2,sm,s2,q2⟩:=W3 s1 q1
  exact Sw s2 (ho.ne hyO) q2 fun S' ρ' s3 q3=>l.nx S' H1 _ ρ' s3 q3
end
end Vs
namespace Vs
open PySem PySem.Spec PyProof.Rows L2
variable [Tbs]
structure EqC (Pr : Program) (w : World) (K : Fg) (mg : Str → Option Value) (base : Heap) (C : Addr) (k : Nat) (sp : ASp) : Prop where
  ne : PySem.W.findIn K (.ref C) "__ne__" = some (some (.builtin "object.__ne__"))
  mo : PySem.W.mroIn K C (.type "object") = some true
  ex : ∃ f fd ps,PySem.W.findIn K (.ref C) "__eq__" = some (some (.ref f)) ∧ PySem.W.isFn K (.ref f) = true ∧ Binds K fd ps [] ∧ Fok Pr w K mg base k f fd ps sp
section
variable {X : Cx} {P : Pm} {K : Fg} {C : Addr} {k : Nat} {sp : ASp}
/-- a def run in any room like the frame's -/
theorem Tz {pins : List (Addr × Obj)} {σ : L2.St} {H : Hp} {s : Shared} {A' : Around} {Q : VK} {f : Addr} {fd : FuncData} {ps : List Str} {us : List Value} {vs : List V} (F : Fok X.prog X.w X.K X.mg X.base k f fd ps sp) (hr : Room k A') (hfr : A'.frames = X.A.frames) (hb : Binds X.K fd ps []) (I : Inv X pins σ H s) (r : Vals vs us)
    (h : lift X.K sp vs H Q (fun _ _ _=>False)) {E : Value → Shared → Prop} : wpAny (model X.prog X.w) A' (call (.ref f) us) (EP X pins σ Q) E s:=by
  have e0 : Env0 X.prog X.w X.K X.mg X.base A' X.stack s H:=by
    have e:=I.env0
    exact ⟨by rw [hfr]; exact e.frames,e.mod,e.bs,e.bsz,e.funs,e.frf,e.hok,e.bare⟩
  have hl:=F.len _ _ _ _ h
  have bd:=hb s us I.kIn (by rw [List.append_nil,← r.length]; exact hl)
  refine wpAny_call (codeAny_mono (F.run A' X.stack s H ⟨us,[]⟩ us vs _ _ hr e0 (by simpa using bd) r h) fun rr s' hq=>?_)
  cases rr with
  | error e=>exact (Pp _ _ _ _ _ hq).elim
  | ok fl =>
    cases fl with
    | ret u =>
      obtain ⟨v,H',I',rv,q⟩:=I.after hq
      exact ⟨v,H',I',rv,q⟩
    | next=>exact False.elim hq
    | brk=>exact False.elim hq
    | cont=>exact False.elim hq
def Pv (K : Fg) (C : Addr) (sp : ASp) (g : Bool → Bool) : R2:=fun x y H Q=>∃ a b dx dy fs gs,x = .ref a ∧ y = .ref b ∧ H a = some (.ins C dx fs) ∧ H b = some (.ins C dy gs) ∧ lift K sp [x,y] H (fun v H'=>∃ t,v = .bl t ∧ Q (.bl (g t)) H') (fun _ _ _=>False)
theorem Ek (T : EqC X.prog X.w X.K X.mg X.base C k sp) (hr : Room k X.A) : OpR X (compareOp .Eq) (Pv X.K C sp id):=by
  intro pins s σ H x y v u Q I rx ry h
  obtain ⟨a,b,dx,dy,fs,gs,rfl,rfl,ha,hb,h⟩:=h
  cases rx
  cases ry
  obtain ⟨f,fd,ps,hs,hf,hbd,F⟩:=T.ex
  obtain ⟨mA,J,_⟩:=ins_get I.hok ha
  obtain ⟨mB,J',_⟩:=ins_get I.hok hb
  obtain ⟨od,J,_⟩:=J.look
  obtain ⟨od',J',_⟩:=J'.look
  obtain ⟨m,hF⟩:=I.fr
  show wpAny (model X.prog X.w) X.A (richCompare .Eq (.ref a) (.ref b)) (EP X pins σ Q) X.xe s
  refine PySem.W.cmp_K (op:=.Eq) (tb:=.ref C) hr.units0 hF I.ok.mod.kin J J'.type (by simp [PySem.W.notFirst]) hs hf ?_
  refine thn (Tz F hr rfl hbd I (us:=[.ref a,.ref b]) (vs:=[.ref a,.ref b]) (.cons rfl (.cons rfl .nil)) h) fun u s1 hu=>?_
  obtain ⟨v,H',I',rv,t,rfl,q⟩:=hu
  cases (show u = Value.bool t from rv)
  exact ⟨.bl t,H',I',rfl,q⟩
section
variable {M : Model} {prog : Program} {w : World} {A : Around} {E : Value → Shared → Prop} {s : Shared} {x : Addr} {ox : Obj} {od : Option Obj}
theorem JB6 {args : List Value} {Q : Option Value → Shared → Prop} (X : K.In s.heap) (I : PySem.W.InstAt s.heap x ox C od) (hs : PySem.W.findIn K (.ref C) "__ne__" = some (some (.builtin "object.__ne__")))
    (h : wpAny M A (call (.builtin "object.__ne__") (.ref x :: args)) (fun v=>Q (some v)) E s) : wpAny M A (callSpecialIfBound? (.ref x) "__ne__" args) Q E s:=by
  simp only [callSpecialIfBound?,bindSpecialIfBound?]
  refine wpAny_holding (wpAny_bind (wpAny_bind (wpAny_bind (I.type.here ((PySem.W.looks_findIn X hs).here ?_)))))
  refine wpAny_bind (wpAny_askSetting (wpAny_ite ?_))
  have fin : wpAny M A (call (.builtin "object.__ne__") ([.ref x] ++ args) >>= fun v=>pure (some v)) Q E s:=wpAny_bind (wpAny_mono h (fun v s' h'=>wpAny_pure h') fun _ _ h'=>h')
  split
  · exact wpAny_bind (wpAny_of_eq (F.cmp_object.ne.bind _) (wpAny_pure (by exact fin)))
  · exact wpAny_tryCatch (wpAny_bind (wpAny_of_eq (F.cmp_object.ne.bind _) (wpAny_pure (by exact fin))))
theorem JK8 {y f : Addr} {Q : Fin → Shared → Prop} (hu : A.units < cLine) (X : K.In s.heap) (I : PySem.W.InstAt s.heap x ox C od) (hs : PySem.W.findIn K (.ref C) "__eq__" = some (some (.ref f))) (hf : PySem.W.isFn K (.ref f) = true)
    (hcall : wpAny M A (call (.ref f) [.ref x,.ref y]) (fun v s'=>∃ b,v = .bool b ∧ Q (.done (.ret (.bool (!b)))) s') E s) : wpAny M A (Builtin.«object.__ne__» ⟨[.ref x,.ref y],[]⟩) Q E s:=by
  unfold Builtin.«object.__ne__»
  repeat (first
    | with_reducible refine wpAny_cRoomFor hu ?_
    | (refine wpAny_bind (m:=callSpecialIfBound? (.ref x) (Str.ofString "__eq__") [.ref y])
        (PySem.W.ifBound_K X I hs hf (wpAny_mono hcall (fun r s' hr=>by
          obtain ⟨b,rfl,hq⟩:=hr
          repeat (first | exact hq | exact wpAny_pure hq | exact wpAny_truthy_bool hq | (refine wpAny_bind (m:=truthy (.bool _)) (wpAny_truthy_bool ?_)) | wp_step)) fun _ _ e=>e)))
    | wp_step)
end
theorem JHg (T : EqC X.prog X.w X.K X.mg X.base C k sp) (hr : Room (k + 1) X.A) : OpR X (compareOp .NotEq) (Pv X.K C sp (!·)):=by
  intro pins s σ H x y v u Q I rx ry h
  obtain ⟨a,b,dx,dy,fs,gs,rfl,rfl,ha,hb,h⟩:=h
  cases rx
  cases ry
  obtain ⟨f,fd,ps,hs,hf,hbd,F⟩:=T.ex
  obtain ⟨mA,J,_⟩:=ins_get I.hok ha
  obtain ⟨mB,J',_⟩:=ins_get I.hok hb
  obtain ⟨od,J,_⟩:=J.look
  obtain ⟨od',J',_⟩:=J'.look
  have hk:=I.kIn
  have one : wpAny (model X.prog X.w) X.A (tryCompare (.ref a) "__ne__" (.ref b)) (fun r s'=>∃ v,r = some v ∧ EP X pins σ Q v s') X.xe s:=by
    unfold tryCompare
    refine wpAny_bind (JB6 hk J T.ne (wpAny_call (codeAny_call_builtin PySem.F.cmp_object.ne.plain PySem.F.cmpEntry_ne (PySem.W.check_slot PySem.F.cmpKind_ne PySem.F.cmpSplit_ne (J.type.andThen (PySem.W.looks_mroIn hk T.mo)) (PySem.F.cmpArgs_ne _ _) (JK8 (A:=X.A.in1) hr.in1.units0 hk J hs hf ?_)))))
    refine thn (Tz F hr.in1 rfl hbd I (us:=[.ref a,.ref b]) (vs:=[.ref a,.ref b]) (.cons rfl (.cons rfl .nil)) h) fun u s1 hu=>?_
    obtain ⟨v,H',I',rv,t,rfl,q⟩:=hu
    cases (show u = Value.bool t from rv)
    exact ⟨t,rfl,wpAny_pure ⟨_,rfl,.bl (!t),H',I',rfl,q⟩⟩
  show wpAny (model X.prog X.w) X.A (richCompare .NotEq (.ref a) (.ref b)) (EP X pins σ Q) X.xe s
  unfold richCompare
  simp only [oneThing_ref]
  refine wpAny_holding (wpAny_bind (wpAny_cRoomFor hr.units0 ?_))
  refine wpAny_bind (J.type.here (wpAny_bind (J'.type.here ?_)))
  split
  · rename_i q
    simp at q
  · refine wpAny_bind (wpAny_pure ?_)
    simp only [Bool.false_eq_true,if_false]
    refine wpAny_bind (wpAny_mono one (fun r s' z=>?_) fun _ _ e=>e)
    obtain ⟨v,rfl,hq⟩:=z
    exact wpAny_pure hq
/-- x == y,x != y by the own __eq__ -/
def Bq (C : Addr) (sp : ASp) (g : Bool → Bool) : AR2:=fun x y ρ Q=>(∃ fs,dat x ρ = some (.obj C fs)) ∧ (∃ fs,dat y ρ = some (.obj C fs)) ∧ Yp sp [x,y] noX ρ fun r ρ'=>∃ t,r = .v (.bl t) ∧ Q (.v (.bl (g t))) ρ'
theorem Ni {g : Bool → Bool} : Yj K (Pv K C sp g) (Bq C sp g):=by
  intro c τ S H σ ρ vx vy x y Q R s q k
  obtain ⟨⟨fs,h1⟩,⟨gs,h2⟩,h3⟩:=q
  obtain ⟨r1,r2⟩:=Wu s h1 h2
  simp only [Rep] at r1 r2
  obtain ⟨a,dx,ws,rfl,a1,_⟩:=r1
  obtain ⟨b,dy,us,rfl,b1,_⟩:=r2
  refine ⟨a,b,dx,dy,ws,us,rfl,rfl,a1,b1,?_⟩
  have s2 : Stt K c S H σ ρ ([V.ref a,V.ref b].zip [x,y] ++ τ):=s.swap (.swap _ _ _)
  refine Lw (Ms (W:=fun _ _ _ _=>False) (EA:=noX) F4 rfl s2 h3) (fun v H' hv=>?_) fun _ _ _ h=>h
  obtain ⟨S',ρ',r,s3,t,rfl,q⟩:=hv
  have rv:=s3.data
  simp only [Rep] at rv
  exact ⟨t,rv,k _ _ (KE.sc s3.drop rfl q)⟩
end
end Vs
namespace Vs
open PySem PySem.Spec PyProof.Rows L2
variable [Tbs]
theorem CallR.or {X : Cx} {f : Value} {r r' : List V → Hp → VK → Prop} (h : CallR X f r) (h' : CallR X f r') : CallR X f (fun xs H Q=>r xs H Q ∨ r' xs H Q):=fun pins s σ H xs us Q I rx q =>
  q.elim (fun q=>h pins s σ H xs us Q I rx q) fun q=>h' pins s σ H xs us Q I rx q
def X8 (ds : List D) : List D:=ds.mergeSort (PySem.W.dataLe false pd)
def Vc (T : D → V → Prop) : List D → List V → Prop
  | [],vs=>vs = []
  | d :: ds,vs=>∃ v r,vs = v :: r ∧ T d v ∧ Vc T ds r
theorem eachT_rep {K : Fg} {S : Hp} : ∀ {ds : List D} {vs : List V},Vc (Rep K S) ds vs ↔ RepL K S ds vs
  | [],vs=>by simp only [Vc,RepL]
  | d :: ds,vs=>by
    simp only [Vc,RepL]
    constructor
    · rintro ⟨v,r,e,h1,h2⟩
      exact ⟨v,r,e,h1,eachT_rep.mp h2⟩
    · rintro ⟨v,r,e,h1,h2⟩
      exact ⟨v,r,e,h1,eachT_rep.mpr h2⟩
def Kb (K : Fg) : List V → Hp → VK → Prop:=fun xs H Q=>∃ (a : Addr) (vs : List V) (ds : List D) (T : D → V → Prop),xs = [.ref a] ∧ SqL K H a vs ∧ Vc T ds vs ∧ (∀ d v,T d v → Rep K H d v) ∧ (∀ d ∈ ds,PlD 20 d) ∧ PySem.W.AllAlike (ds.map pd) ∧ PySem.W.Sortable (ds.map pd) ∧
  ∀ vs' p,Vc T (X8 ds) vs' → H p = none → Q (.ref p) (upd H p (.lst vs'))
section
variable {X : Cx} {P : Pm} {K : Fg} {pos : Pos}
theorem Ax (hu : X.A.units + 64 < cLine) : CallR X (.builtin "sorted") (Kb X.K):=by
  intro pins s σ H xs us Q I r h
  obtain ⟨a,vs,ds,T,rfl,hs,ht,hT,hp,hal,hk,q⟩:=h
  obtain ⟨its,rv,hl,hz⟩:=I.list hs
  obtain ⟨u,rfl,ru⟩:=vals1 r
  obtain rfl : u = Value.ref a:=ru
  have e1 : ∀ {ds : List D} {vs : List V} {its : List Value},Vc T ds vs → Vals vs its → PySem.W.EachIs (fun u d=>∃ v,RelV v u ∧ T d v) its ds:=by
    intro ds
    induction ds with
    | nil =>
      intro vs its h r
      simp only [Vc] at h
      subst h
      cases r
      exact .nil
    | cons d ds ih =>
      intro vs its h r
      simp only [Vc] at h
      obtain ⟨v,rr,rfl,h1,h2⟩:=h
      cases r with
      | cons ra rb=>exact .cons ⟨v,ra,h1⟩ (ih h2 rb)
  have e2 : ∀ {ds : List D} {its : List Value},(∀ d ∈ ds,PlD 20 d) → PySem.W.EachIs (fun u d=>∃ v,RelV v u ∧ T d v) its ds → PySem.W.EachIs (fun u d=>∃ as,Reads s.heap u (pd d) as) its ds:=by
    intro ds
    induction ds with
    | nil=>intro its _ h; cases h; exact .nil
    | cons d ds ih =>
      intro its hp h
      cases h with
      | cons h1 h2 =>
        obtain ⟨v,ra,rb⟩:=h1
        exact .cons (Dp.reads I _ v _ (Vn 20 d v (hp d (by simp)) (hT d v rb)) ra) (ih (fun x hx=>hp x (by simp [hx])) h2)
  have e3 : ∀ {ds : List D} {out : List Value},PySem.W.EachIs (fun u d=>∃ v,RelV v u ∧ T d v) out ds → ∃ vs',Vals vs' out ∧ Vc T ds vs':=by
    intro ds
    induction ds with
    | nil=>intro out h; cases h; exact ⟨[],.nil,by simp only [Vc]⟩
    | cons d ds ih =>
      intro out h
      cases h with
      | cons h1 h2 =>
        obtain ⟨v,ra,rb⟩:=h1
        obtain ⟨vs',z1,z2⟩:=ih h2
        exact ⟨v :: vs',.cons ra z1,by simp only [Vc]; exact ⟨v,vs',rfl,rb,z2⟩⟩
  have hE:=e1 ht rv
  have lds : ds.length = its.length:=hE.length.symm
  have lvs:=rv.length
  refine PySem.W.sorted_data (R:=fun u d=>∃ v,RelV v u ∧ T d v) (enc:=pd) hl.isList hE (e2 hp hE) hal hk (by omega) (fun d hd=>?_) fun out hlen ho=>?_
  · have:=(W9 20 d (hp d hd)).2
    omega
  · obtain ⟨vs',z1,z2⟩:=e3 ho
    obtain ⟨ep,he'⟩:=PyProof.Rows.sortedAll_at s.heap its out.toArray
    have hlo:=z1.length
    exact ⟨.ref _,upd H (s.heap.objs.size + 1) (.lst vs'),I.laid (t':=s.toks) (fun _ _=>PyProof.Rows.sortedAll_old) (Nat.le_succ _) ⟨by omega,out,ep,z1,he'⟩,rfl,q _ _ z2 (I.hok.fresh (Nat.le_succ _))⟩
abbrev JJy (K : Fg) : List V → Hp → VK → Prop:=fun xs H Q=>Kb K xs H Q ∨ ∃ (a : Addr) (kvs : List (Key × V)) (ks : List Str),xs = [.ref a] ∧ Rd H a (.dK kvs) ∧ kvs.map (·.1) = ks.map Sum.inr ∧ ks.length < 64 ∧ ∀ ys p,ys.Perm ks → sortedS ys = true → H p = none → Q (.ref p) (upd H p (.lst (ys.map V.str)))
theorem JGb (hc : X.calm = true) (hu : X.A.units + 64 < cLine) : CallR X (.builtin "sorted") (JJy X.K):=CallR.or (Ax hu) (call_sortedD hc)
def K1 : ARs:=fun xs ρ Q=>∃ x d,xs = [x] ∧ dat x ρ = some d ∧ match d with
  | .lst ds=>(∀ d ∈ ds,PlD 20 d) ∧ PySem.W.AllAlike (ds.map pd) ∧ PySem.W.Sortable (ds.map pd) ∧ Q (.lst (X8 ds)) ρ
  | .dic kvs=>∃ ks : List Str,kvs.map (·.1) = ks.map Sum.inr ∧ ks.length < 64 ∧ ∀ ys : List Str,ys.Perm ks → sortedS ys = true → Q (.lst (ys.map D.str)) ρ
  | _=>False
theorem My {S : Hp} : ∀ (ys : List Str),RepL K S (ys.map D.str) (ys.map V.str)
  | []=>by simp only [List.map_nil,RepL]
  | y :: ys=>by
    simp only [List.map_cons,RepL,Rep]
    exact ⟨_,_,rfl,rfl,My ys⟩
theorem Co {S : Hp} : ∀ {kvs : List (Key × D)} {ws : List (Key × V)},RepK K S kvs ws → ws.map (·.1) = kvs.map (·.1)
  | [],ws,h=>by simp only [RepK] at h; subst h; rfl
  | (k,d) :: kvs,ws,h=>by
    simp only [RepK] at h
    obtain ⟨v,r,rfl,_,h2⟩:=h
    simp only [List.map_cons,Co h2]
theorem JFn : Wm K (JJy K) K1:=by
  intro c τ S H σ ρ vs xs Q R hl s q k
  obtain ⟨x,d,rfl,h1,q⟩:=q
  obtain ⟨v,rfl,s1⟩:=one_arg hl s
  obtain ⟨y0,g0,r0,e0⟩:=s1.thing (List.mem_cons_self ..) h1
  cases d with
  | lst ds =>
    obtain ⟨p,vs,rfl,h3,h4⟩:=Vy r0 e0 s1.le
    obtain ⟨q1,q2,q3,q4⟩:=q
    refine .inl ⟨p,vs,ds,Rep K S,rfl,h3,eachT_rep.mpr h4,fun d v r=>Rep.le s1.le d v r,q1,q2,q3,fun vs' p' hv hp=>?_⟩
    exact k _ _ ⟨S,ρ,_,s1.drop.newList hp (eachT_rep.mp hv),q4⟩
  | dic kvs =>
    obtain ⟨p,ws,rfl,h3,h4⟩:=Gv r0 e0 s1.le
    obtain ⟨ks,q1,q2,q3⟩:=q
    refine .inr ⟨p,ws,ks,rfl,h3,(Co h4).trans q1,q2,fun ys p' hy1 hy2 hp=>?_⟩
    exact k _ _ ⟨S,ρ,_,s1.drop.newList hp (My ys),q3 ys hy1 hy2⟩
  | _=>cases q
theorem Ll {S : Hp} : ∀ {ns : List Int} {vs : List V},RepL K S (ns.map D.int) vs → vs = ns.map V.int
  | [],vs,h=>by simpa only [List.map_nil,RepL] using h
  | n :: ns,vs,h=>by
    simp only [List.map_cons,RepL,Rep] at h
    obtain ⟨v,r,rfl,rfl,h2⟩:=h
    rw [Ll h2]
    rfl
end
end Vs
namespace Vs
open PySem PySem.Spec PyProof.Rows L2
end Vs
namespace Vs
open PySem PySem.Spec PyProof.Rows L2
end Vs
namespace Vs
open PySem PySem.Spec PyProof.Rows L2
variable [Tbs]
def F9 (ls : List (Key × D)) (p : Key × D) : Bool:=match valD ls p.1 with
  | some d=>deq p.2 d
  | none=>false
def Xa (ks ls : List (Key × D)) : Bool:=ks.length == ls.length && ks.all (F9 ls)
def JJ6 (K : Fg) : R2:=fun x y H Q=>∃ a b ks ls,x = .ref a ∧ y = .ref b ∧ Rep K H (.dic ks) x ∧ Rep K H (.dic ls) y ∧ (∀ p ∈ ks,PlD 20 p.2) ∧ (∀ p ∈ ls,PlD 20 p.2) ∧ (ks.map (·.1)).Nodup ∧ Q (.bl (Xa ks ls)) H
section
variable {X : Cx} {P : Pm} {K : Fg}
theorem JJp {S : Hp} {ls : List (Key × D)} {vb : List (Key × Value)} {e : Key → Bool} : ∀ {ks : List (Key × D)} {ws : List (Key × V)} {va : List (Key × Value)},RepK K S ks ws → KV ws va → (∀ p ∈ ks,((valueAt vb p.1).isSome && e p.1) = F9 ls p) → (va.all fun p=>(valueAt vb p.1).isSome && e p.1) = ks.all (F9 ls)
  | [],ws,va,h,r,_=>by
    simp only [RepK] at h
    subst h
    cases r
    rfl
  | (k,d) :: ks,ws,va,h,r,hh=>by
    simp only [RepK] at h
    obtain ⟨v,r',rfl,h1,h2⟩:=h
    cases r with
    | @cons _ q _ qs hq hr =>
      obtain ⟨hk,_⟩:=hq
      obtain ⟨qk,qv⟩:=q
      have hk' : k = qk:=hk
      subst hk'
      simp only [List.all_cons]
      rw [JJp h2 hr fun p hp=>hh p (by simp [hp])]
      have:=hh (k,d) (by simp)
      rw [← this]
theorem kv_mem {S : Hp} : ∀ {ks : List (Key × D)} {ws : List (Key × V)} {va : List (Key × Value)} {k : Key} {u : Value},RepK K S ks ws → KV ws va → (k,u) ∈ va → ∃ d v,(k,d) ∈ ks ∧ RelV v u ∧ Rep K S d v
  | [],ws,va,k,u,h,r,m=>by
    simp only [RepK] at h
    subst h
    cases r
    simp at m
  | (k',d) :: ks,ws,va,k,u,h,r,m=>by
    simp only [RepK] at h
    obtain ⟨v,r',rfl,h1,h2⟩:=h
    cases r with
    | @cons _ q _ qs hq hr =>
      obtain ⟨hk,hv⟩:=hq
      obtain ⟨qk,qv⟩:=q
      rcases List.mem_cons.mp m with z | z
      · cases z
        have hk' : k' = k:=hk
        subst hk'
        exact ⟨d,v,by simp,hv,h1⟩
      · obtain ⟨d',v',a1,a2,a3⟩:=kv_mem h2 hr z
        exact ⟨d',v',by simp [a1],a2,a3⟩
theorem JY0 (hu : X.A.units + 64 < cLine) : OpR X (compareOp .Eq) (JJ6 X.K):=by
  intro pins s σ H x y v u Q I rx ry h
  obtain ⟨a,b,ks,ls,rfl,rfl,r1,r2,p1,p2,nd,q⟩:=h
  cases rx
  cases ry
  simp only [Rep] at r1 r2
  obtain ⟨a',ws,e1,h1,k1⟩:=r1
  obtain ⟨b',us,e2,h2,k2⟩:=r2
  cases e1
  cases e2
  obtain ⟨_,ya,va,ra,da⟩:=h1.ok I.hok
  obtain ⟨_,yb,vb,rb,db⟩:=h2.ok I.hok
  -- the values side by side
  have hval : ∀ k,(valD ls k = none ∧ valueAt vb k = none) ∨ ∃ d v u,valD ls k = some d ∧ valueAt vb k = some u ∧ RelV v u ∧ Rep X.K H d v ∧ PlD 20 d:=fun k=>by
    have rr:=rb.val k
    rcases k2.val (k:=k) with ⟨e1,e2⟩ | ⟨d,v,e1,e2,e3⟩
    · rw [e2] at rr
      left
      refine ⟨e1,?_⟩
      cases hv : valueAt vb k with
      | none=>rfl
      | some z=>rw [hv] at rr; exact (rr : False).elim
    · rw [e2] at rr
      right
      obtain ⟨u,hu,ru⟩:=RelO.some_of rr
      have hm : ∀ {l : List (Key × D)},valD l k = some d → (∀ p ∈ l,PlD 20 p.2) → PlD 20 d:=by
        intro l
        induction l with
        | nil=>intro h _; simp [valD] at h
        | cons p r ih =>
          intro h hp
          simp only [valD] at h
          split at h
          · have:=Option.some.inj h
            rw [← this]
            exact hp p (by simp)
          · exact ih h fun x hx=>hp x (by simp [hx])
      exact ⟨d,v,u,e1,hu,ru,e3,hm e1 p2⟩
  let e : Key → Bool:=fun k=>match valD ks k,valD ls k with
    | some d,some d'=>deq d d'
    | _,_=>false
  have hlen : va.length = ks.length:=by rw [← ra.length,k1.len]
  have hlen2 : vb.length = ls.length:=by rw [← rb.length,k2.len]
  have look : ∀ {l : List (Key × D)} {k : Key} {d : D},(l.map (·.1)).Nodup → (k,d) ∈ l → valD l k = some d:=by
    intro l
    induction l with
    | nil=>intro k d _ m; simp at m
    | cons p r ih =>
      intro k d hn m
      obtain ⟨k',d'⟩:=p
      simp only [List.map_cons,List.nodup_cons] at hn
      simp only [valD]
      rcases List.mem_cons.mp m with z | z
      · cases z
        simp
      · have ne : k' ≠ k:=fun e=>hn.1 (by rw [e]; exact List.mem_map.mpr ⟨_,z,rfl⟩)
        simp only [ne,if_false]
        exact ih hn.2 z
  refine PySem.W.eq_dictsT (knd:=mixKind X.prog X.w) (n:=21) (e:=e) ya yb da db (fun k z y hz hy=>?_) (by omega) ⟨.bl _,H,I,rfl,?_⟩
  · obtain ⟨d,v,m,rv,rd⟩:=kv_mem k1 ra hz
    have e1 : valD ks k = some d:=look nd m
    rcases hval k with ⟨_,e2⟩ | ⟨d',v',u',e2,e3,e4,e5,e6⟩
    · rw [e2] at hy; cases hy
    · rw [e3] at hy
      cases hy
      have ee : e k = deq d d':=by show (match valD ks k,valD ls k with | some d,some d'=>deq d d' | _,_=>false) = _; rw [e1,e2]
      rw [ee,F1 20 d d' (p1 _ m) e6]
      obtain ⟨as,r1⟩:=Dp.reads I _ v z (Vn 20 d v (p1 _ m) rd) rv
      obtain ⟨bs,r2⟩:=Dp.reads I _ v' y (Vn 20 d' v' e6 e5) e4
      obtain ⟨a1,a2⟩:=W9 20 d (p1 _ m)
      obtain ⟨b1,b2⟩:=W9 20 d' e6
      exact .leaf fun A hA=>SeqAt.eqAt_plain _ _ A s z y as bs r1 r2 a1 b1 (by have:=Nat.min_le_left (pd d).depth (pd d').depth; omega)
  · have e1 : (va.all fun p=>(valueAt vb p.1).isSome && e p.1) = ks.all (F9 ls):=JJp k1 ra fun p hp=>by
      obtain ⟨k,d⟩:=p
      have e1 : valD ks k = some d:=look nd hp
      show ((valueAt vb k).isSome && e k) = F9 ls (k,d)
      unfold F9
      rcases hval k with ⟨e2,e3⟩ | ⟨d',v',u',e2,e3,e4,e5,e6⟩
      · rw [e3]
        simp only [e2]
        rfl
      · have ee : e k = deq d d':=by show (match valD ks k,valD ls k with | some d,some d'=>deq d d' | _,_=>false) = _; rw [e1,e2]
        rw [e3,ee]
        simp only [e2]
        rfl
    rw [e1,hlen,hlen2]
    exact q
def Bo : AR2:=fun x y ρ Q=>∃ ks ls,dat x ρ = some (.dic ks) ∧ dat y ρ = some (.dic ls) ∧ (∀ p ∈ ks,PlD 20 p.2) ∧ (∀ p ∈ ls,PlD 20 p.2) ∧ (ks.map (·.1)).Nodup ∧ Q (.v (.bl (Xa ks ls))) ρ
theorem JYc : Yj K (JJ6 K) Bo:=by
  intro c τ S H σ ρ vx vy x y Q R s q k
  obtain ⟨ks,ls,h1,h2,p1,p2,nd,q⟩:=q
  obtain ⟨r1,r2⟩:=Wu s h1 h2
  have r1':=r1
  have r2':=r2
  simp only [Rep] at r1' r2'
  obtain ⟨a,_,rfl,_⟩:=r1'
  obtain ⟨b,_,rfl,_⟩:=r2'
  exact ⟨a,b,ks,ls,rfl,rfl,r1,r2,p1,p2,nd,k _ _ (KE.sc s.drop.drop rfl q)⟩
end
end Vs
namespace Vs
open PySem PySem.Spec PyProof.Rows L2
variable [Tbs]
/-- a method -/
structure CalM (Pr : Program) (w : World) (K : Fg) (mg : Str → Option Value) (base : Heap) (C : Addr) (m : Str) (k : Nat) (ps : List Str) (sp : ASp) : Prop where
  ex : ∃ f fd,Meth K C m f ∧ Binds K fd ps [] ∧ Fok Pr w K mg base k f fd ps sp
/-- a class with an __init__ -/
structure CalK (Pr : Program) (w : World) (K : Fg) (mg : Str → Option Value) (base : Heap) (x : Str) (C : Addr) (k : Nat) (ps : List Str) (sp : ASp) : Prop where
  ex : ∃ f fd,Mk K C f ∧ mg x = some (.ref C) ∧ Binds K fd ps [] ∧ Fok Pr w K mg base k f fd ps sp
def Jd (vs : List Nat) (a : AS) : AS:=fun DA ρ=>a DA (Y7 vs ρ)
section
variable {X : Cx} {P : Pm} {k : Nat} {ps : List Str} {sp : ASp} {C : Addr} {m x : Str} {o e : Expr} {es : List Expr} {ao : AE} {aa : AA} {apos p pos : Pos}
theorem Je (vs : List Nat) {st : Stmt} {a : AS} (h : QS X P st a) : QS X P st (Jd vs a):=JZw vs h
theorem Ov : ∀ σ,PassesAt (L2.CX X.prog X.w) X σ (fun cls d H=>(Pn P).W cls d σ H):=fun σ pins H s e s' I c=>(Pp _ _ _ _ _ c).elim
theorem R0 {pl : Sem Bool} (he : QE X P o ao) (c : Cls X.K C) (F : CalM X.prog X.w X.K X.mg X.base C m k ps sp) (hr : Room k X.A) (hx : ∀ σ,PassesAt (L2.CX X.prog X.w) X σ (fun cls d H=>P.W cls d σ H)) (ha : QA X P (e :: es) aa)
    (hst : starEach (e :: es) X.env = (false,eval e X.env) :: starEach es X.env:=by rfl) (hpl : (backTo pos (starEach es X.env)).any (·.1) = false:=by rfl)
    (ht : eval (.Call (.Attribute o m apos) (e :: es) [] pos) X.env = (do
      let ov ← eval o X.env
      standAt apos.atName
      let (f,first) ← holding [ov] (getMethod ov m pl)
      callWith pos f first (backTo pos (starEach (e :: es) X.env)) (backToKw pos (keywordEach [] X.env))):=by rfl) :
    QE X P (.Call (.Attribute o m apos) (e :: es) [] pos) (Xm C m sp [] ao aa):=let ⟨_,_,h1,h2,h3⟩:=F.ex; JHo he c h1 h3 hr h2 .nil Hf hx ha hst hpl ht
theorem Ti {i : Int} (h : ∃ t,X.mg x = some (.int i t)) (hg : Gl X x) (hd : (x == ("__debug__" : Str)) = false:=by decide) : QE X P (.Name x pos) (aC (.int i)):=let ⟨t,h⟩:=h; JBk (v:=.int i) rfl hg h ⟨t,rfl⟩ hd
end
end Vs
namespace Vs
open PySem PySem.Spec PyProof.Rows L2
end Vs
namespace Vs
open PySem PySem.Spec PyProof.Rows L2
variable [Tbs]
section
variable {K : Fg} {C : Addr} {f : Str}
/-- an own exception class whose __init__ stores one field -/
theorem JKw (h : Rb K C = true) : OexC K C:=by
  obtain ⟨q,h⟩:=He.ba h
  obtain ⟨h2,h⟩:=He.ba h
  obtain ⟨h3,h⟩:=He.ba h
  obtain ⟨h4,h5⟩:=He.ba h
  refine ⟨?_,He.eqO_ok h2,of_decide_eq_true h3,of_decide_eq_true h4,h5⟩
  split at q
  · rename_i dd cd sl ho
    split at q
    · rename_i C' bm k0 k1 k2 k3 n k5 hm hs
      simp only [Bool.and_eq_true,beq_iff_eq,Bool.not_eq_true'] at q
      obtain ⟨⟨⟨⟨rfl,rfl⟩,hdel⟩,hhd⟩,ht⟩:=q
      obtain ⟨nm,bs,mro,ns,qn,hd,sn,sub,ab,col,del⟩:=cd
      dsimp only at hm hdel hhd
      subst hm hdel hhd
      have hsl : sl = #[k0,k1,k2,k3,some (.builtin "ValueError.__new__"),k5]:=by
        obtain ⟨l⟩:=sl
        simp only at hs
        rw [hs]
      subst hsl
      exact ⟨nm,qn,ns,bs,bm,sn,sub,ab,col,dd,k0,k1,k2,k3,k5,ho,ht⟩
    · cases q
  · cases q
/-- its __init__ is a function,its field no name of the class -/
theorem JXq (h : Dk K C f = true) : PySem.W.findIn K (.ref C) "__init__" = some (some (.ref (He.ma K C "__init__"))) ∧ PySem.W.typeIn K (.ref (He.ma K C "__init__")) = some (.type "function") ∧ PySem.W.findIn K (.ref C) f = some none ∧ XfC K C:=by
  obtain ⟨h1,h⟩:=He.ba h
  obtain ⟨h2,h⟩:=He.ba h
  obtain ⟨h3,h4⟩:=He.ba h
  exact ⟨He.eqO_ok h1,of_decide_eq_true h2,He.eqO_ok h3,xfB_ok h4⟩
/-- what isinstance asks of an own class -/
theorem Sd (c : Cls K C) (h : Kk K C = true) : ClsI K C:=by
  obtain ⟨h1,h⟩:=He.ba h
  obtain ⟨h2,h⟩:=He.ba h
  obtain ⟨h3,h4⟩:=He.ba h
  exact ⟨c,He.eqO_ok h1,He.eqO_ok h2,of_decide_eq_true h3,of_decide_eq_true h4⟩
/-- an own special method -/
theorem JB7 {m : Str} (h : A6 K C m = true) : PySem.W.findIn K (.ref C) m = some (some (.ref (He.ma K C m))) ∧ PySem.W.isFn K (.ref (He.ma K C m)) = true:=by
  obtain ⟨h1,h2⟩:=He.ba h
  exact ⟨He.eqO_ok h1,h2⟩
theorem JH8 (h : neB K C = true) : PySem.W.findIn K (.ref C) "__ne__" = some (some (.builtin "object.__ne__")) ∧ PySem.W.mroIn K C (.type "object") = some true:=by
  obtain ⟨h1,h2⟩:=He.ba h
  exact ⟨He.eqO_ok h1,of_decide_eq_true h2⟩
/-- isinstance's tables -/
theorem Us {t u : Value} {b : Bool} (h : Vz K t u b = true) : PySem.W.kitOne K t u = some b:=of_decide_eq_true h
end
end Vs
namespace Vs
open PySem PySem.Spec PyProof.Rows L2
variable [Tbs]
section
variable {EA : AX} {ρ : J0} {Q : AK} {DA : AEnds} {QB : Bool → J0 → Prop} {x y : A} {d e z : D} {K : Fg} {C : Addr} {f m : Str} {sp : ASp}
/-- isinstance of built-in data by built-in types -/
def tyN : D → Option String
  | .non=>some "NoneType"
  | .bl _=>some "bool"
  | .int _=>some "int"
  | .str _=>some "str"
  | .lst _=>some "list"
  | .tup _=>some "tuple"
  | .dic _=>some "dict"
  | _=>none
def B7 (a : String) : List String → Option Bool
  | []=>some false
  | b :: r=>match kitB a b with
    | some true=>some true
    | some false=>B7 a r
    | none=>none
theorem Tu {a : String} : ∀ {us : List String} {b : Bool},B7 a us = some b → PySem.W.kitAny K (.type a) (us.map Value.type) = some b
  | [],b,h=>by
    simp only [B7] at h
    cases h
    exact kitAny_nil
  | u :: us,b,h=>by
    simp only [B7] at h
    cases e : kitB a u with
    | none=>rw [e] at h; cases h
    | some r =>
      rw [e] at h
      cases r with
      | true =>
        cases h
        exact kitAny_cons (kit_ty e) (fun z=>nomatch z) fun _=>rfl
      | false=>exact kitAny_cons (kit_ty e) (fun _=>Tu h) fun z=>nomatch z
theorem JVd {a : String} {us : List String} {b : Bool} (h1 : tyN d = some a) (h2 : B7 a us = some b) : Wt K d (us.map Value.type) b:=by
  refine ⟨.type a,?_,fun C fs e=>?_,Tu h2⟩
  · cases d <;> simp only [tyN] at h1 <;> first | (cases h1; rfl) | cases h1
  · subst e
    cases h1
theorem Sq {us : List Value} {b : Bool} (h1 : dat x ρ = some d) (h2 : Wt K d us b) (k : Q (.v (.bl b)) ρ) : Uw K us x ρ Q:=⟨d,b,h1,h2,k⟩
theorem JUc {ae : AE} (k : ae DA.ex ρ fun x ρ1=>Yd x ρ1 fun d ρ2=>DA.ex C [(f,d)] ρ2) : Gi C f ae DA ρ:=k
theorem JZ0 {g : Bool → Bool} {fs gs : List (Str × D)} (h1 : dat x ρ = some (.obj C fs)) (h2 : dat y ρ = some (.obj C gs)) (k : Yp sp [x,y] noX ρ fun r ρ'=>∃ t,r = .v (.bl t) ∧ Q (.v (.bl (g t))) ρ') : Bq C sp g x y ρ Q:=⟨⟨fs,h1⟩,⟨gs,h2⟩,k⟩
/-- a loop as a recursion over what is left: the step is proved with the rest's meaning in hand -/
theorem JUe {G : J0 → Prop} {ag : AG} {ab : AS} (W : List D → J0 → Prop) (h0 : ∀ ρ,W [] ρ → G ρ ∧ DA.nx ρ)
    (h1 : ∀ x xs ρ,W (x :: xs) ρ → (∀ ρ,W xs ρ → forA G ag ab DA xs ρ) → G ρ ∧ ag x ρ fun ρ'=>ab { DA with nx:=forA G ag ab DA xs,ct:=forA G ag ab DA xs,bk:=DA.nx } ρ') : ∀ (xs : List D) (ρ : J0),W xs ρ → forA G ag ab DA xs ρ
  | [],ρ,w=>h0 ρ w
  | x :: xs,ρ,w=>h1 x xs ρ w fun ρ' w'=>JUe W h0 h1 xs ρ' w'
end
end Vs
namespace Vs
open PySem PySem.Spec PyProof.Rows L2
variable [Tbs]
def Vb (d : D) (u : String) : Bool:=match d with
  | .bl _=>u == "bool" || u == "int"
  | .int _=>u == "int"
  | .str _=>u == "str"
  | .lst _=>u == "list"
  | .tup _=>u == "tuple"
  | .dic _=>u == "dict"
  | _=>false
theorem Li {K : Fg} {d : D} {u : String} (h : (tyN d).isSome = true) (hu : u = "int" ∨ u = "bool" ∨ u = "str" ∨ u = "list" ∨ u = "tuple" ∨ u = "dict") : Wt K d [.type u] (Vb d u):=by
  have go : ∀ a,tyN d = some a → B7 a [u] = some (Vb d u) → Wt K d [.type u] (Vb d u):=fun a h1 h2=>JVd (us:=[u]) h1 h2
  cases d <;> first
    | (cases h; done)
    | (refine go _ rfl ?_; rcases hu with rfl | rfl | rfl | rfl | rfl | rfl <;> simp only [Vb] <;> decide +kernel)
theorem JUn {K : Fg} {d : D} (h : (tyN d).isSome = true) : Wt K d [.type "list",.type "tuple"] (Vb d "list" || Vb d "tuple"):=by
  have go : ∀ a,tyN d = some a → B7 a ["list","tuple"] = some (Vb d "list" || Vb d "tuple") → Wt K d [.type "list",.type "tuple"] (Vb d "list" || Vb d "tuple"):=fun a h1 h2=>JVd (us:=["list","tuple"]) h1 h2
  cases d <;> first
    | (cases h; done)
    | (refine go _ rfl ?_; simp only [Vb]; decide +kernel)
/-- isinstance of an own class -/
theorem T9 {K : Fg} {C C2 : Addr} {fs : List (Str × D)} {b : Bool} (c : ClsI K C) (h : PySem.W.kitOne K (.ref C) (.ref C2) = some b) : Wt K (.obj C fs) [.ref C2] b:=by
  refine ⟨.ref C,rfl,fun C' fs' e=>?_,?_⟩
  · cases e
    exact c
  · exact kitAny_cons h (fun z=>by rw [z]; exact kitAny_nil) fun z=>z
end Vs
namespace Vs
open PySem PySem.Spec PyProof.Rows L2
variable [Tbs]
section
variable {EA : AX} {ρ : J0} {Q : AK} {G : J0 → Prop} {ag : AG} {at_ : AT} {ae ak : AE} {vs : List Nat}
theorem Rh {ai : AI} (k : ai EA ρ fun xs G ρ1=>Wa vs ρ1 ∧ lcA G ag at_ ae vs xs [] ρ1 Q) : aLc ai ag at_ ae vs EA ρ Q:=k
theorem JWs {ai : AI} (k : ai EA ρ fun xs G ρ1=>Wa vs ρ1 ∧ dcA G ag at_ ak ae vs xs [] ρ1 Q) : aDc ai ag at_ ak ae vs EA ρ Q:=k
theorem JJi (W : List D → List D → J0 → Prop) (h0 : ∀ acc ρ,W acc [] ρ → G ρ ∧ Q (.lst acc) ρ)
    (h1 : ∀ acc x xs ρ,W acc (x :: xs) ρ → (∀ acc ρ,W acc xs ρ → lcA G ag at_ ae vs xs acc ρ Q) → lcA G ag at_ ae vs (x :: xs) acc ρ Q) : ∀ (xs acc : List D) (ρ : J0),W acc xs ρ → lcA G ag at_ ae vs xs acc ρ Q
  | [],acc,ρ,w=>h0 acc ρ w
  | x :: xs,acc,ρ,w=>h1 acc x xs ρ w fun acc' ρ' w'=>JJi W h0 h1 xs acc' ρ' w'
theorem JL2 {x : D} {xs acc : List D} (g : G ρ) (k : ag x ρ fun ρ1=>at_ noX ρ1 fun b ρ2=>if b = true then ae noX ρ2 fun y ρ3=>Yd y ρ3 fun d ρ4=>acc.length ≤ 100000 ∧ lcA G ag at_ ae vs xs (acc ++ [d]) (Y7 vs ρ4) Q else lcA G ag at_ ae vs xs acc (Y7 vs ρ2) Q) : lcA G ag at_ ae vs (x :: xs) acc ρ Q:=⟨g,k⟩
theorem K0 {i : Nat} {d : D} {q : J0 → Prop} (k : q (ρ.set i (some (.v d)))) : Ui i d ρ q:=k
theorem JY4 {QB : Bool → J0 → Prop} (k : QB true ρ) : B0 EA ρ QB:=k
theorem Qb {ae : AE} {QI : List D → (J0 → Prop) → J0 → Prop} (k : ae EA ρ fun x ρ1=>Yd x ρ1 fun d ρ2=>∃ xs,Zt d = some xs ∧ QI xs (fun _=>True) ρ2) : Vj ae EA ρ QI:=k
end
end Vs
namespace Vs
open PySem PySem.Spec PyProof.Rows L2
variable [Tbs]
section
variable {EA : AX} {ρ ρ' : J0} {Q : AK} {DA : AEnds} {QB : Bool → J0 → Prop} {x y o : A} {d e z : D} {C : Addr} {f m : Str} {sp : ASp} {dd : List D} {aa : AA} {ao ab : AE} {p : Prop}
theorem JX5 {c : Prop} [Decidable c] {p q : Prop} (h : c) (k : p) : if c then p else q:=by rw [if_pos h]; exact k
theorem JKj {c : Prop} [Decidable c] {p q : Prop} (h : ¬c) (k : q) : if c then p else q:=by rw [if_neg h]; exact k
theorem Rk {b : Bool} {p q : Prop} (h : b = true) (k : p) : if b = true then p else q:=JX5 h k
theorem JWq {b : Bool} {p q : Prop} (h : b = false) (k : q) : if b = true then p else q:=by subst h; exact JKj Bool.false_ne_true k
/-- x is an instance of C -/
def JW8 (C : Addr) (m : Str) (x : A) (ρ : J0) (p : Prop) : Prop:=Nn C m x ρ ∧ p
theorem JZ1 {fs : List (Str × D)} (h1 : dat x ρ = some (.obj C fs)) (h2 : fs.lookup m = none) (k : p) : JW8 C m x ρ p:=⟨⟨fs,h1,h2⟩,k⟩
theorem Ed (k : aa EA ρ fun xs ρ1=>Yp sp xs EA ρ1 Q) : Ym sp [] aa EA ρ Q:=by
  unfold Ym
  simp only [List.map_nil,List.append_nil]
  exact k
theorem Q8 (k : ao EA ρ fun o ρ1=>JW8 C m o ρ1 (aa EA ρ1 fun xs ρ2=>Yp sp (o :: xs) EA ρ2 Q)) : Xm C m sp [] ao aa EA ρ Q:=by
  unfold Xm
  simp only [List.map_nil,List.append_nil]
  exact k
theorem JWb (k : aa EA ρ fun xs ρ1=>JUr C sp xs EA ρ1 Q) : JVc C sp [] aa EA ρ Q:=by
  unfold JVc
  simp only [List.map_nil,List.append_nil]
  exact k
/-- slices -/
def Nf (x : A) (lo hi : Option Int) (ρ : J0) (Q : AK) : Prop:=∃ d,dat x ρ = some d ∧ match d with
  | .lst xs=>Q (.lst (cutD xs lo hi)) ρ
  | .tup xs=>Q (.v (.tup (cutD xs lo hi))) ρ
  | _=>False
theorem Qx {al ah : AO} (k : ao EA ρ fun x ρ1=>al EA ρ1 fun lo ρ2=>ah EA ρ2 fun hi ρ3=>Nf x lo hi ρ3 Q) : Zg ao al ah EA ρ Q:=k
theorem JW4 {xs : List D} {lo hi : Option Int} (h : dat x ρ = some (.tup xs)) (k : Q (.v (.tup (cutD xs lo hi))) ρ) : Nf x lo hi ρ Q:=⟨_,h,k⟩
theorem Ah {xs : List D} {lo hi : Option Int} (h : dat x ρ = some (.lst xs)) (k : Q (.lst (cutD xs lo hi)) ρ) : Nf x lo hi ρ Q:=⟨_,h,k⟩
theorem JUg {q : Option Int → J0 → Prop} (k : q none ρ) : Zh EA ρ q:=k
def isI (x : A) (ρ : J0) (k : Int → Prop) : Prop:=∃ i,dat x ρ = some (.int i) ∧ k i
theorem Dt {i : Int} {k : Int → Prop} (h : dat x ρ = some (.int i)) (hk : k i) : isI x ρ k:=⟨i,h,hk⟩
theorem Am {q : Option Int → J0 → Prop} (k : ao EA ρ fun x ρ1=>isI x ρ1 fun i=>q (some i) ρ1) : Ze ao EA ρ q:=k
/-- targets -/
theorem Tr {n : Nat} {b : AGs} {ds : List D} {q : J0 → Prop} (h : ds.length = n) (k : b ds ρ q) : Ha n b (.tup ds) ρ q:=⟨ds,rfl,h,k⟩
theorem Qn {a : AG} {b : AGs} {r : List D} {q : J0 → Prop} (k : a d ρ fun ρ'=>b r ρ' q) : Xe a b (d :: r) ρ q:=⟨d,r,rfl,k⟩
theorem Qp {q : J0 → Prop} (k : q ρ) : G2 [] ρ q:=⟨rfl,k⟩
/-- fields -/
def JWm (C : Addr) (f : Str) (o : A) (d : D) (ρ : J0) (nx : J0 → Prop) : Prop:=∃ j fs,o = .loc j ∧ ρ[j]? = some (some (.obj C fs)) ∧ (∀ p ∈ fs,∃ d,p.2 = .v d) ∧ fs.length ≤ 100 ∧ nx (ρ.set j (some (.obj C (Z7 f d fs))))
theorem Aq {av ao : AE} (k : av DA.ex ρ fun x ρ1=>Yd x ρ1 fun d ρ2=>ao DA.ex ρ2 fun o ρ3=>JWm C f o d ρ3 DA.nx) : Kz C f av ao DA ρ:=k
theorem JU9 {j : Nat} {fs : List (Str × A)} {nx : J0 → Prop} (h1 : ρ[j]? = some (some (.obj C fs))) (h2 : ∀ p ∈ fs,∃ d,p.2 = A.v d) (h3 : fs.length ≤ 100) (k : nx (ρ.set j (some (.obj C (Z7 f d fs))))) : JWm C f (.loc j) d ρ nx:=⟨j,fs,rfl,h1,h2,h3,k⟩
theorem Hu : ∀ p ∈ ([] : List (Str × A)),∃ d,p.2 = A.v d:=fun _ h=>nomatch h
theorem D9 {f : Str} {d : D} : ∀ p ∈ ([(f,.v d)] : List (Str × A)),∃ d,p.2 = A.v d:=fun p h=>by
  rcases List.mem_cons.mp h with h | h
  · exact ⟨d,by rw [h]⟩
  · cases h
theorem C8 {fs : List (Str × D)} (h1 : lkA x ρ = some (.v (.obj C fs))) (h2 : fs.lookup f = some d) (k : Q (.v d) ρ) : Fk C f x ρ Q:=⟨_,d,h1,by simp only [Xd,if_pos,h2],k⟩
theorem Cu {n : Nat} {d : D} (h : PlD n d) : PlD n d:=h
theorem JUd {y : A} (h : By y ≤ 100000) : By y ≤ 100000:=h
/-- get -/
def Mc (x : A) (ρ : J0) (p : Prop) : Prop:=(∃ kvs,dat x ρ = some (.dic kvs)) ∧ p
def Dq (x y : A) (ρ : J0) (Q : AK) : Prop:=∃ kvs i k,dat x ρ = some (.dic kvs) ∧ dat y ρ = some i ∧ keyD i = some k ∧ Q (.v ((valD kvs k).getD .non)) ρ
theorem Sb (k : ao EA ρ fun x ρ1=>Mc x ρ1 (ab EA ρ1 fun y ρ2=>Dq x y ρ2 Q)) : JMw ao ab EA ρ Q:=k
theorem JJ8 {kvs : List (Key × D)} (h : dat x ρ = some (.dic kvs)) (k : p) : Mc x ρ p:=⟨⟨kvs,h⟩,k⟩
theorem Ro {kvs : List (Key × D)} {i : D} {ky : Key} (h1 : dat x ρ = some (.dic kvs)) (h2 : dat y ρ = some i) (h3 : keyD i = some ky) (h4 : (valD kvs ky).getD .non = z) (k : Q (.v z) ρ) : Dq x y ρ Q:=⟨kvs,i,ky,h1,h2,h3,by rw [h4]; exact k⟩
/-- in -/
theorem JJm {kvs : List (Key × D)} {ky : Key} (h1 : dat x ρ = some d) (h2 : dat y ρ = some (.dic kvs)) (h3 : keyD d = some ky) (k : Q (.v (.bl (valD kvs ky).isSome)) ρ) : aIn false x y ρ Q:=⟨d,_,_,h1,h2,⟨ky,h3,rfl⟩,k⟩
theorem JJf {kvs : List (Key × D)} {ky : Key} (h1 : dat x ρ = some d) (h2 : dat y ρ = some (.dic kvs)) (h3 : keyD d = some ky) (k : Q (.v (.bl (!(valD kvs ky).isSome))) ρ) : aIn true x y ρ Q:=⟨d,_,_,h1,h2,⟨ky,h3,rfl⟩,k⟩
theorem JN8 {xs : List D} (h1 : dat x ρ = some d) (h2 : dat y ρ = some (.lst xs)) (h3 : PlD 20 d) (h4 : ∀ z ∈ xs,PlD 20 z) (k : Q (.v (.bl (xs.any fun z=>deq z d))) ρ) : aIn false x y ρ Q:=⟨d,_,_,h1,h2,⟨h3,h4,rfl⟩,k⟩
theorem JV0 {QI : List D → (J0 → Prop) → J0 → Prop} (k : aa EA ρ fun xs ρ1=>∃ x j,xs = [x] ∧ dat x ρ1 = some (.int j) ∧ -(2 ^ 62) ≤ j ∧ j < 2 ^ 62 ∧ QI (W7 0 j.toNat) (fun _=>True) ρ1) : H6 aa EA ρ QI:=k
theorem JZ5 {ds : List D} (h1 : dat x ρ = some (.lst ds)) (h2 : ∀ d ∈ ds,PlD 20 d) (h3 : PySem.W.AllAlike (ds.map pd)) (h4 : PySem.W.Sortable (ds.map pd)) (k : Q (.lst (X8 ds)) ρ) : K1 [x] ρ Q:=⟨x,_,rfl,h1,h2,h3,h4,k⟩
theorem JW0 {ks ls : List (Key × D)} (h1 : dat x ρ = some (.dic ks)) (h2 : dat y ρ = some (.dic ls)) (h3 : ∀ p ∈ ks,PlD 20 p.2) (h4 : ∀ p ∈ ls,PlD 20 p.2) (h5 : (ks.map (·.1)).Nodup) (k : Q (.v (.bl (Xa ks ls))) ρ) : Bo x y ρ Q:=⟨ks,ls,h1,h2,h3,h4,h5,k⟩
theorem Cn {G : J0 → Prop} {ag : AG} {at_ : AT} {ak ae : AE} {vs : List Nat} (W : List (Key × D) → List D → J0 → Prop) (h0 : ∀ acc ρ,W acc [] ρ → G ρ ∧ Q (.dic acc) ρ)
    (h1 : ∀ acc x xs ρ,W acc (x :: xs) ρ → (∀ acc ρ,W acc xs ρ → dcA G ag at_ ak ae vs xs acc ρ Q) → dcA G ag at_ ak ae vs (x :: xs) acc ρ Q) : ∀ (xs : List D) (acc : List (Key × D)) (ρ : J0),W acc xs ρ → dcA G ag at_ ak ae vs xs acc ρ Q
  | [],acc,ρ,w=>h0 acc ρ w
  | x :: xs,acc,ρ,w=>h1 acc x xs ρ w fun acc' ρ' w'=>Cn W h0 h1 xs acc' ρ' w'
end
inductive RX where
  | rt (r : A)
  | xc (C : Addr) (fs : List (Str × D))
section
variable {ι : Type} {args : ι → List A} {ok : ι → Prop} {po : ι → A → List A → Prop} {xc : ι → Addr → List (Str × D) → List A → Prop}
def Zp (O : List Nat) (xs : List A) (po : A → List A → Prop) (xc : Addr → List (Str × D) → List A → Prop) : AEnds where
  nx:=fun ρ=>∃ xs',fin O 0 xs ρ = some xs' ∧ po (.v .non) xs'
  rt:=fun r ρ=>∃ xs',fin O 0 xs ρ = some xs' ∧ po r xs'
  bk:=fun _=>False
  ct:=fun _=>False
  ex:=fun C fs ρ=>∃ xs',fin O 0 xs ρ = some xs' ∧ xc C fs xs'
variable {EA : AX} {ρ ρ' : J0} {Q : AK} {xs : List A}
variable {rs : ι → RX} {out : ι → List A}
end
section
variable {ρ : J0} {Q : AK} {G : J0 → Prop} {ag : AG} {at_ : AT} {ae ak : AE} {vs : List Nat}
/-- a comprehension whose steps leave all names as they are -/
theorem On (t : D → Bool) (f : D → D) (hG : G ρ) : ∀ (xs acc : List D),acc.length + xs.length ≤ 100000 →
    (∀ x ∈ xs,∀ (R : D → J0 → Prop) (N : J0 → Prop),(∀ ρ4,Y7 vs ρ4 = ρ → t x = true → R (f x) ρ4) → (∀ ρ2,Y7 vs ρ2 = ρ → t x = false → N ρ2) → ag x ρ fun ρ1=>at_ noX ρ1 fun b ρ2=>if b = true then ae noX ρ2 fun y ρ3=>Yd y ρ3 R else N ρ2) →
    Q (.lst (acc ++ (xs.filter t).map f)) ρ → lcA G ag at_ ae vs xs acc ρ Q
  | [],acc,_,_,hq=>⟨hG,by simpa using hq⟩
  | x :: xs,acc,hl,h,hq=>by
    simp only [List.length_cons] at hl
    refine ⟨hG,h x (List.mem_cons_self ..) (fun d ρ4=>acc.length ≤ 100000 ∧ lcA G ag at_ ae vs xs (acc ++ [d]) (Y7 vs ρ4) Q) (fun ρ2=>lcA G ag at_ ae vs xs acc (Y7 vs ρ2) Q) (fun ρ4 e ht=>?_) (fun ρ2 e ht=>?_)⟩
    · refine ⟨by omega,?_⟩
      rw [e]
      refine On t f hG xs _ (by simp; omega) (fun y hy=>h y (List.mem_cons_of_mem _ hy)) ?_
      simpa [List.filter_cons,ht] using hq
    · rw [e]
      refine On t f hG xs _ (by omega) (fun y hy=>h y (List.mem_cons_of_mem _ hy)) ?_
      simpa [List.filter_cons,ht] using hq
theorem Dy (t : D → Bool) (f : D → D) {xs : List D} (hG : G ρ) (hl : xs.length ≤ 100000)
    (h : ∀ x ∈ xs,∀ (R : D → J0 → Prop) (N : J0 → Prop),(∀ ρ4,Y7 vs ρ4 = ρ → t x = true → R (f x) ρ4) → (∀ ρ2,Y7 vs ρ2 = ρ → t x = false → N ρ2) → ag x ρ fun ρ1=>at_ noX ρ1 fun b ρ2=>if b = true then ae noX ρ2 fun y ρ3=>Yd y ρ3 R else N ρ2)
    (hq : Q (.lst ((xs.filter t).map f)) ρ) : lcA G ag at_ ae vs xs [] ρ Q:=On t f hG xs [] (by simpa using hl) h (by simpa using hq)
theorem Dc {xs : List D} : xs.filter (fun _=>true) = xs:=List.filter_eq_self.mpr fun _ _=>rfl
end
end Vs
namespace Vs
open PySem PySem.Spec PyProof.Rows L2
end Vs
set_option maxHeartbeats 2000000
namespace Vs
variable [Tbs]
section
open PySem PySem.Spec PyProof.Rows L2
variable {X : Cx} {P : Pm} {K : Fg} {n : Nat}
theorem Fi : ∀ (n : Nat) (d : D),PlD n d → deq d d = true:=fun n d h=>by
  rw [F1 n d d h h]
  exact SeqAt.eqv_refl_plain _ (W9 n d h).1
end
end Vs
set_option maxHeartbeats 1000000
namespace Vs
open PySem PySem.Spec PyProof.Rows L2
end Vs
set_option maxHeartbeats 2000000
namespace Vs
open PySem PySem.Spec PyProof.Rows L2 PpSet
variable [Tbs]
def Au (e : Int × Value) : Str:=match e.2 with | .str k _=>k | _=>Str.empty
def JLk (w : World) (e : Int × Value) : Prop:=∃ k t,e.2 = Value.str k t ∧ e.1 = hashStr w k
/-- the set of the texts l at a; its table rises and can be walked -/
def SetT (w : World) (h : Heap) (a : Addr) (l : List Str) : Prop :=
  ∃ o es ep t,h.get? a = some o ∧ o.ExactSet ∧ o.data = .set es ep t ∧ (∀ e ∈ es.toList,JLk w e) ∧ (es.toList.map Au).Nodup ∧ (∀ k,k ∈ l ↔ k ∈ es.toList.map Au) ∧
    es.size ≤ l.length ∧ t.fits es.size = true ∧ Ris t.place.toList ∧ (w.params.followText "set-order" = true ∨ t.led = true)
section
variable {P : Program} {w : World} {h h' : Heap} {a : Addr} {l : List Str}
theorem SetT.at (R : SetT w h a l) (k : ∀ o,h.get? a = some o → h'.get? a = some o) : SetT w h' a l:=by
  obtain ⟨o,es,ep,t,ho,r⟩:=R
  exact ⟨o,es,ep,t,k o ho,r⟩
end
end Vs
namespace Vs
open PySem PySem.Spec PyProof.Rows L2 PpSet
end Vs
namespace Vs
open PySem PySem.Spec PyProof.Rows L2
variable [Tbs]
section
variable {X : Cx} {P : Pm} {K : Fg} {S : Hp}
theorem RepL.erase {xs : List D} {vs : List V} (n : Nat) (h : RepL K S xs vs) : RepL K S (xs.eraseIdx n) (vs.eraseIdx n):=by
  rw [List.eraseIdx_eq_take_drop_succ,List.eraseIdx_eq_take_drop_succ]
  exact (h.take n).app (h.drop (n + 1))
theorem RepL.dropLast {xs : List D} {vs : List V} (h : RepL K S xs vs) : RepL K S xs.dropLast vs.dropLast:=by
  rw [List.dropLast_eq_take,List.dropLast_eq_take,h.len]
  exact h.take _
end
end Vs
set_option maxHeartbeats 1000000
namespace Vs
open PySem PySem.Spec PyProof.Rows L2
variable [Tbs]
def CE (ae : AE) : Prop:=∀ {ι : Type} [Nonempty ι] {EA : ι → AX} {EA' : AX} {ρ : J0} {Q : ι → AK} {Q' : AK},(∀ i,ae (EA i) ρ (Q i)) → (∀ C fs ρ,(∀ i,EA i C fs ρ) → EA' C fs ρ) → (∀ x ρ,(∀ i,Q i x ρ) → Q' x ρ) → ae EA' ρ Q'
def CT (at_ : AT) : Prop:=∀ {ι : Type} [Nonempty ι] {EA : ι → AX} {EA' : AX} {ρ : J0} {Q : ι → Bool → J0 → Prop} {Q' : Bool → J0 → Prop},(∀ i,at_ (EA i) ρ (Q i)) → (∀ C fs ρ,(∀ i,EA i C fs ρ) → EA' C fs ρ) → (∀ x ρ,(∀ i,Q i x ρ) → Q' x ρ) → at_ EA' ρ Q'
def CA (aa : AA) : Prop:=∀ {ι : Type} [Nonempty ι] {EA : ι → AX} {EA' : AX} {ρ : J0} {Q : ι → List A → J0 → Prop} {Q' : List A → J0 → Prop},(∀ i,aa (EA i) ρ (Q i)) → (∀ C fs ρ,(∀ i,EA i C fs ρ) → EA' C fs ρ) → (∀ x ρ,(∀ i,Q i x ρ) → Q' x ρ) → aa EA' ρ Q'
def CO (ao : AO) : Prop:=∀ {ι : Type} [Nonempty ι] {EA : ι → AX} {EA' : AX} {ρ : J0} {Q : ι → Option Int → J0 → Prop} {Q' : Option Int → J0 → Prop},(∀ i,ao (EA i) ρ (Q i)) → (∀ C fs ρ,(∀ i,EA i C fs ρ) → EA' C fs ρ) → (∀ x ρ,(∀ i,Q i x ρ) → Q' x ρ) → ao EA' ρ Q'
def CI (ai : AI) : Prop:=∀ {ι : Type} [Nonempty ι] {EA : ι → AX} {EA' : AX} {ρ : J0} {Q : ι → List D → (J0 → Prop) → J0 → Prop} {Q' : List D → (J0 → Prop) → J0 → Prop},(∀ i,ai (EA i) ρ (Q i)) → (∀ C fs ρ,(∀ i,EA i C fs ρ) → EA' C fs ρ) → (∀ x G ρ,(∀ i,Q i x G ρ) → Q' x G ρ) → ai EA' ρ Q'
def CG (ag : AG) : Prop:=∀ {ι : Type} [Nonempty ι] {d : D} {ρ : J0} {Q : ι → J0 → Prop} {Q' : J0 → Prop},(∀ i,ag d ρ (Q i)) → (∀ ρ,(∀ i,Q i ρ) → Q' ρ) → ag d ρ Q'
def CGs (ag : AGs) : Prop:=∀ {ι : Type} [Nonempty ι] {d : List D} {ρ : J0} {Q : ι → J0 → Prop} {Q' : J0 → Prop},(∀ i,ag d ρ (Q i)) → (∀ ρ,(∀ i,Q i ρ) → Q' ρ) → ag d ρ Q'
def C2 (ra : AR2) : Prop:=∀ {ι : Type} [Nonempty ι] {x y : A} {ρ : J0} {Q : ι → AK} {Q' : AK},(∀ i,ra x y ρ (Q i)) → (∀ x ρ,(∀ i,Q i x ρ) → Q' x ρ) → ra x y ρ Q'
def C1 (ra : AR1) : Prop:=∀ {ι : Type} [Nonempty ι] {x : A} {ρ : J0} {Q : ι → AK} {Q' : AK},(∀ i,ra x ρ (Q i)) → (∀ x ρ,(∀ i,Q i x ρ) → Q' x ρ) → ra x ρ Q'
def Cs (ra : ARs) : Prop:=∀ {ι : Type} [Nonempty ι] {x : List A} {ρ : J0} {Q : ι → AK} {Q' : AK},(∀ i,ra x ρ (Q i)) → (∀ x ρ,(∀ i,Q i x ρ) → Q' x ρ) → ra x ρ Q'
structure Cov {ι : Type} (DA : ι → AEnds) (D' : AEnds) : Prop where
  nx : ∀ ρ,(∀ i,(DA i).nx ρ) → D'.nx ρ
  rt : ∀ x ρ,(∀ i,(DA i).rt x ρ) → D'.rt x ρ
  bk : ∀ ρ,(∀ i,(DA i).bk ρ) → D'.bk ρ
  ct : ∀ ρ,(∀ i,(DA i).ct ρ) → D'.ct ρ
  ex : ∀ C fs ρ,(∀ i,(DA i).ex C fs ρ) → D'.ex C fs ρ
def CS (a : AS) : Prop:=∀ {ι : Type} [Nonempty ι] {DA : ι → AEnds} {D' : AEnds} {ρ : J0},(∀ i,a (DA i) ρ) → Cov DA D' → a D' ρ
theorem i0 {ι : Type} [h : Nonempty ι] : ∃ _ : ι,True:=let ⟨i⟩:=h; ⟨i,trivial⟩
section
variable {ι : Type} [Nonempty ι]
theorem Wi {x : A} {ρ : J0} {Q : ι → D → J0 → Prop} {Q' : D → J0 → Prop} (h : ∀ i,Yd x ρ (Q i)) (k : ∀ d ρ,(∀ i,Q i d ρ) → Q' d ρ) : Yd x ρ Q':=by
  cases x with
  | loc j =>
    obtain ⟨i,_⟩:=i0 (ι:=ι)
    obtain ⟨y,hy,_⟩:=h i
    refine ⟨y,hy,k _ _ fun i=>?_⟩
    obtain ⟨z,hz,q⟩:=h i
    rw [hy] at hz
    cases hz
    exact q
  | _=>exact k _ _ h
theorem Og : ∀ {xs : List A} {ρ : J0} {Q : ι → List D → J0 → Prop} {Q' : List D → J0 → Prop},(∀ i,Z8 xs ρ (Q i)) → (∀ d ρ,(∀ i,Q i d ρ) → Q' d ρ) → Z8 xs ρ Q'
  | [],_,_,_,h,k=>k _ _ h
  | x :: xs,_,_,_,h,k=>Wi h fun d ρ h1=>Og h1 fun ds ρ h2=>k _ _ h2
theorem JBz {x : A} {ρ : J0} {Q : ι → A → J0 → Prop} {Q' : A → J0 → Prop} (h : ∀ i,Zi x ρ (Q i)) (k : ∀ d ρ,(∀ i,Q i d ρ) → Q' d ρ) : Zi x ρ Q':=by
  cases x with
  | loc j =>
    obtain ⟨i,_⟩:=i0 (ι:=ι)
    obtain ⟨y,hy,_⟩:=h i
    refine ⟨y,hy,k _ _ fun i=>?_⟩
    obtain ⟨z,hz,q⟩:=h i
    rw [hy] at hz
    cases hz
    exact q
  | _=>exact k _ _ h
theorem JHk {x : A} {ρ : J0} {j : Nat} {Q : ι → J0 → Prop} {Q' : J0 → Prop} (h : ∀ i,Z6 x ρ j (Q i)) (k : ∀ ρ,(∀ i,Q i ρ) → Q' ρ) : Z6 x ρ j Q':=by
  cases x with
  | loc j =>
    obtain ⟨i,_⟩:=i0 (ι:=ι)
    obtain ⟨y,hy,_⟩:=h i
    refine ⟨y,hy,k _ fun i=>?_⟩
    obtain ⟨z,hz,q⟩:=h i
    rw [hy] at hz
    cases hz
    exact q
  | _=>exact k _ h
/-- a truth value -/
theorem Pd {x : A} {ρ : J0} {Q : ι → Bool → Prop} {Q' : Bool → Prop} (h : ∀ i,∃ b,dat x ρ = some (.bl b) ∧ Q i b) (k : ∀ b,(∀ i,Q i b) → Q' b) : ∃ b,dat x ρ = some (.bl b) ∧ Q' b:=by
  obtain ⟨i,_⟩:=i0 (ι:=ι)
  obtain ⟨b,hb,_⟩:=h i
  refine ⟨b,hb,k _ fun i=>?_⟩
  obtain ⟨c,hc,q⟩:=h i
  rw [hb] at hc
  cases hc
  exact q
theorem Ba {b : Bool} {p q : ι → Prop} {p' q' : Prop} (h : ∀ i,if b = true then p i else q i) (k1 : (∀ i,p i) → p') (k2 : (∀ i,q i) → q') : if b = true then p' else q':=by
  cases b with
  | true=>exact k1 h
  | false=>exact k2 h
theorem V1 {p : Prop} {q : ι → Prop} {q' : Prop} (h : ∀ i,p ∧ q i) (k : (∀ i,q i) → q') : p ∧ q':=by
  obtain ⟨i,_⟩:=i0 (ι:=ι)
  exact ⟨(h i).1,k fun i=>(h i).2⟩
/-- one witness -/
theorem Xw {α : Type} {P : α → Prop} {q : ι → α → Prop} {q' : α → Prop} (u : ∀ a b,P a → P b → a = b) (h : ∀ i,∃ a,P a ∧ q i a) (k : ∀ a,(∀ i,q i a) → q' a) : ∃ a,P a ∧ q' a:=by
  obtain ⟨i,_⟩:=i0 (ι:=ι)
  obtain ⟨a,ha,_⟩:=h i
  refine ⟨a,ha,k a fun i=>?_⟩
  obtain ⟨b,hb,q⟩:=h i
  rw [u a b ha hb]
  exact q
theorem Mf {sp : ASp} {xs : List A} : CE (Yp sp xs):=fun {ι} _ EA EA' ρ Q Q' h hx hq=>by
  obtain ⟨i,_⟩:=i0 (ι:=ι)
  obtain ⟨ys,ρ',e,hp,_,_⟩:=h i
  refine ⟨ys,ρ',e,hp,fun r ys' p l=>hq _ _ fun i=>?_,fun C fs ys' p l=>hx _ _ _ fun i=>?_⟩
  all_goals
    obtain ⟨zs,ρ2,e2,_,q1,q2⟩:=h i
    rw [e] at e2
    cases e2
  · exact q1 r ys' p l
  · exact q2 C fs ys' p l
end
theorem G9 {g : Int → Int → D} : C2 (aI0 g):=fun {ι} _ x y ρ Q Q' h k=>by
  obtain ⟨i,_⟩:=i0 (ι:=ι)
  obtain ⟨a,b,h1,h2,_⟩:=h i
  refine ⟨a,b,h1,h2,k _ _ fun i=>?_⟩
  obtain ⟨c,d,g1,g2,q⟩:=h i
  rw [h1] at g1; rw [h2] at g2
  cases g1; cases g2
  exact q
theorem K8 {C : Int → Int → Prop} {g : Int → Int → D} : C2 (aI C g):=fun {ι} _ x y ρ Q Q' h k=>by
  obtain ⟨i,_⟩:=i0 (ι:=ι)
  obtain ⟨a,b,h1,h2,hc,_⟩:=h i
  refine ⟨a,b,h1,h2,hc,k _ _ fun i=>?_⟩
  obtain ⟨c,d,g1,g2,_,q⟩:=h i
  rw [h1] at g1; rw [h2] at g2
  cases g1; cases g2
  exact q
theorem JZi : C2 L5:=G9
theorem Fc : C2 aLt:=G9
theorem Ff : C2 aLe:=G9
theorem L8 : C2 aGt:=G9
theorem JM1 : C2 aGe:=G9
theorem Gh : C2 Xl:=K8
theorem Gu : C2 X4:=K8
theorem JZp : C2 M5:=K8
theorem Ho : C2 Xz:=K8
theorem Yf : C2 aIx:=fun {ι} _ x y ρ Q Q' h k=>by
  obtain ⟨i,_⟩:=i0 (ι:=ι)
  obtain ⟨a,b,z,h1,h2,h3,_⟩:=h i
  refine ⟨a,b,z,h1,h2,h3,k _ _ fun i=>?_⟩
  obtain ⟨c,d,z',g1,g2,g3,q⟩:=h i
  rw [h1] at g1; rw [h2] at g2
  cases g1; cases g2
  rw [h3] at g3
  cases g3
  exact q
theorem Ve : C2 Uu:=fun {ι} _ x y ρ Q Q' h k=>by
  obtain ⟨i,_⟩:=i0 (ι:=ι)
  obtain ⟨d,e,h1,h2,h3⟩:=h i
  refine ⟨d,e,h1,h2,?_⟩
  have h' : ∀ i,Xb d e fun z=>Q i z ρ:=fun i=>by
    obtain ⟨d',e',g1,g2,g3⟩:=h i
    rw [h1] at g1; rw [h2] at g2
    cases g1; cases g2
    exact g3
  clear h h3
  unfold Xb at h' ⊢
  split at h' <;> first | exact k _ _ h' | exact V1 h' fun q=>k _ _ q | exact (h' i).elim
theorem Vg : C2 aEq:=fun {ι} _ x y ρ Q Q' h k=>by
  obtain ⟨i,_⟩:=i0 (ι:=ι)
  obtain ⟨a,b,h1,h2,h3,h4,_⟩:=h i
  refine ⟨a,b,h1,h2,h3,h4,k _ _ fun i=>?_⟩
  obtain ⟨c,d,g1,g2,_,_,q⟩:=h i
  rw [h1] at g1; rw [h2] at g2
  cases g1; cases g2
  exact q
theorem Fy : C2 aNe:=fun {ι} _ x y ρ Q Q' h k=>by
  obtain ⟨i,_⟩:=i0 (ι:=ι)
  obtain ⟨a,b,h1,h2,h3,h4,_⟩:=h i
  refine ⟨a,b,h1,h2,h3,h4,k _ _ fun i=>?_⟩
  obtain ⟨c,d,g1,g2,_,_,q⟩:=h i
  rw [h1] at g1; rw [h2] at g2
  cases g1; cases g2
  exact q
theorem JK9 : C2 aIs:=fun {ι} _ x y ρ Q Q' h k=>by
  obtain ⟨i,_⟩:=i0 (ι:=ι)
  obtain ⟨a,h1,h2,_⟩:=h i
  refine ⟨a,h1,h2,k _ _ fun i=>?_⟩
  obtain ⟨c,g1,_,q⟩:=h i
  rw [h1] at g1
  cases g1
  exact q
theorem JHx {d e : D} {b c : Bool} (h : InD d e b) (h' : InD d e c) : b = c:=by
  unfold InD at h h'
  cases e with
  | lst xs=>exact h.2.2.trans h'.2.2.symm
  | tup xs=>exact h.2.2.trans h'.2.2.symm
  | dic kvs =>
    obtain ⟨k,h1,h2⟩:=h
    obtain ⟨k',h1',h2'⟩:=h'
    rw [h1] at h1'
    cases h1'
    exact h2.trans h2'.symm
  | str z =>
    obtain ⟨k,h1,h2⟩:=h
    obtain ⟨k',h1',h2'⟩:=h'
    rw [h1] at h1'
    cases h1'
    exact h2.trans h2'.symm
  | _=>exact h.elim
theorem Ob {n : Bool} : C2 (aIn n):=fun {ι} _ x y ρ Q Q' h k=>by
  obtain ⟨i,_⟩:=i0 (ι:=ι)
  obtain ⟨a,b,c,h1,h2,h3,_⟩:=h i
  refine ⟨a,b,c,h1,h2,h3,k _ _ fun i=>?_⟩
  obtain ⟨a',b',c',g1,g2,g3,q⟩:=h i
  rw [h1] at g1; rw [h2] at g2
  cases g1; cases g2
  rw [JHx h3 g3]
  exact q
theorem JLe : C2 Bo:=fun {ι} _ x y ρ Q Q' h k=>by
  obtain ⟨i,_⟩:=i0 (ι:=ι)
  obtain ⟨a,b,h1,h2,h3,h4,h5,_⟩:=h i
  refine ⟨a,b,h1,h2,h3,h4,h5,k _ _ fun i=>?_⟩
  obtain ⟨c,d,g1,g2,_,_,_,q⟩:=h i
  rw [h1] at g1; rw [h2] at g2
  cases g1; cases g2
  exact q
theorem Nx {C : Addr} {sp : ASp} {g : Bool → Bool} : C2 (Bq C sp g):=fun {ι} _ x y ρ Q Q' h k=>by
  obtain ⟨i,_⟩:=i0 (ι:=ι)
  refine ⟨(h i).1,(h i).2.1,Mf (fun i=>(h i).2.2) (fun _ _ _ z=>z i) fun r ρ' z=>?_⟩
  exact Xw (P:=fun t=>r = .v (.bl t)) (fun a b h1 h2=>by rw [h1] at h2; cases h2; rfl) z fun a q=>k _ _ q
theorem N9 {C : Addr} {f : Str} : C1 (Fk C f):=fun {ι} _ x ρ Q Q' h k=>by
  obtain ⟨i,_⟩:=i0 (ι:=ι)
  obtain ⟨a,b,h1,h2,_⟩:=h i
  refine ⟨a,b,h1,h2,k _ _ fun i=>?_⟩
  obtain ⟨c,d,g1,g2,q⟩:=h i
  rw [h1] at g1
  cases g1
  rw [h2] at g2
  cases g2
  exact q
theorem JK1 {K : Fg} {d : D} {us : List Value} {b c : Bool} (h : Wt K d us b) (h' : Wt K d us c) : b = c:=by
  obtain ⟨t,h1,_,h3⟩:=h
  obtain ⟨t',g1,_,g3⟩:=h'
  rw [h1] at g1
  cases g1
  rw [h3] at g3
  cases g3
  rfl
theorem Vr {K : Fg} {us : List Value} : C1 (Uw K us):=fun {ι} _ x ρ Q Q' h k=>by
  obtain ⟨i,_⟩:=i0 (ι:=ι)
  obtain ⟨a,b,h1,h2,_⟩:=h i
  refine ⟨a,b,h1,h2,k _ _ fun i=>?_⟩
  obtain ⟨c,d,g1,g2,q⟩:=h i
  rw [h1] at g1
  cases g1
  rw [JK1 h2 g2]
  exact q
theorem V4 : Cs Uk:=fun {ι} _ x ρ Q Q' h k=>by
  obtain ⟨i,_⟩:=i0 (ι:=ι)
  obtain ⟨a,d,n,rfl,h1,h2,_⟩:=h i
  refine ⟨a,d,n,rfl,h1,h2,k _ _ fun i=>?_⟩
  obtain ⟨b,e,m,g0,g1,g2,q⟩:=h i
  cases g0
  rw [h1] at g1
  cases g1
  rw [h2] at g2
  cases g2
  exact q
theorem Bg : Cs Wz:=fun {ι} _ x ρ Q Q' h k=>by
  obtain ⟨i,_⟩:=i0 (ι:=ι)
  obtain ⟨a,rfl,h1⟩:=h i
  refine ⟨a,rfl,?_⟩
  rcases h1 with ⟨n,h1,_⟩ | ⟨n,h1,_⟩
  · refine .inl ⟨n,h1,k _ _ fun i=>?_⟩
    obtain ⟨b,g0,g1⟩:=h i
    cases g0
    rcases g1 with ⟨m,g1,q⟩ | ⟨m,g1,q⟩ <;> rw [h1] at g1 <;> cases g1
    exact q
  · refine .inr ⟨n,h1,k _ _ fun i=>?_⟩
    obtain ⟨b,g0,g1⟩:=h i
    cases g0
    rcases g1 with ⟨m,g1,q⟩ | ⟨m,g1,q⟩ <;> rw [h1] at g1 <;> cases g1
    exact q
theorem JZg : Cs Lm:=fun {ι} _ x ρ Q Q' h k=>by
  obtain ⟨i,_⟩:=i0 (ι:=ι)
  obtain ⟨a,d,rfl,h1,_⟩:=h i
  refine ⟨a,d,rfl,h1,k _ _ fun i=>?_⟩
  obtain ⟨b,e,g0,g1,q⟩:=h i
  cases g0
  rw [h1] at g1
  cases g1
  exact q
theorem Ki : Cs B5:=fun {ι} _ x ρ Q Q' h k=>by
  obtain ⟨i,_⟩:=i0 (ι:=ι)
  obtain ⟨a,d,n,rfl,h1,h2,_⟩:=h i
  refine ⟨a,d,n,rfl,h1,h2,k _ _ fun i=>?_⟩
  obtain ⟨b,e,m,g0,g1,g2,q⟩:=h i
  cases g0
  rw [h1] at g1
  cases g1
  rw [h2] at g2
  cases g2
  exact q
theorem Os : Cs Zu:=fun {ι} _ x ρ Q Q' h k=>by
  obtain ⟨i,_⟩:=i0 (ι:=ι)
  obtain ⟨a,d,n,rfl,h1,h2,_⟩:=h i
  refine ⟨a,d,n,rfl,h1,h2,k _ _ fun i=>?_⟩
  obtain ⟨b,e,m,g0,g1,g2,q⟩:=h i
  cases g0
  rw [h1] at g1
  cases g1
  rcases h2 with rfl | rfl <;> rcases g2 with g2 | g2 <;> cases g2 <;> exact q
theorem JWn : ∀ {a b : List Bool},a.map D.bl = b.map D.bl → a = b
  | [],[],_=>rfl
  | [],_ :: _,h=>by cases h
  | _ :: _,[],h=>by cases h
  | x :: xs,y :: ys,h=>by
    simp only [List.map_cons,List.cons.injEq,D.bl.injEq] at h
    rw [h.1,JWn h.2]
theorem O9 : Cs F3:=fun {ι} _ x ρ Q Q' h k=>by
  obtain ⟨i,_⟩:=i0 (ι:=ι)
  obtain ⟨a,bs,rfl,h1,_⟩:=h i
  refine ⟨a,bs,rfl,h1,k _ _ fun i=>?_⟩
  obtain ⟨b,cs,g0,g1,q⟩:=h i
  cases g0
  rw [h1] at g1
  simp only [Option.some.injEq,D.lst.injEq] at g1
  rw [JWn g1]
  exact q
theorem JVy : ∀ {a b : List Str},a.map (Sum.inr : Str → Key) = b.map Sum.inr → a = b
  | [],[],_=>rfl
  | [],_ :: _,h=>by cases h
  | _ :: _,[],h=>by cases h
  | x :: xs,y :: ys,h=>by
    simp only [List.map_cons,List.cons.injEq,Sum.inr.injEq] at h
    rw [h.1,JVy h.2]
theorem JFd : Cs K1:=fun {ι} _ x ρ Q Q' h k=>by
  obtain ⟨i,_⟩:=i0 (ι:=ι)
  obtain ⟨a,d,rfl,h1,h2⟩:=h i
  refine ⟨a,d,rfl,h1,?_⟩
  cases d with
  | lst ds =>
    refine ⟨h2.1,h2.2.1,h2.2.2.1,k _ _ fun i=>?_⟩
    obtain ⟨b,e,g0,g1,q⟩:=h i
    cases g0
    rw [h1] at g1
    cases g1
    exact q.2.2.2
  | dic kvs =>
    obtain ⟨ks,g1,g2,_⟩:=h2
    refine ⟨ks,g1,g2,fun ys p s=>k _ _ fun i=>?_⟩
    obtain ⟨b,e,f0,f1,q⟩:=h i
    cases f0
    rw [h1] at f1
    cases f1
    obtain ⟨ls,f1,_,q⟩:=q
    rw [g1] at f1
    exact q ys (by rw [← JVy f1]; exact p) s
  | _=>exact h2.elim
end Vs
namespace Vs
open PySem PySem.Spec PyProof.Rows L2
variable [Tbs]
section
variable {aa ab ac ao ae ak av : AE} {ra rb : AR2} {at_ t u : AT} {al : AA} {ai : AI} {ag : AG} {sp : ASp}
theorem J5 {d : D} : CE (aC d):=fun h _ hq=>hq _ _ h
theorem J8 {j : Nat} : CE (J7 j):=fun {ι} _ EA EA' ρ Q Q' h hx hq=>by
  refine Xw (P:=fun d=>ρ[j]? = some (some (.v d))) (fun a b h1 h2=>?_) h fun a q=>hq _ _ q
  rw [h1] at h2; cases h2; rfl
theorem Jo {j : Nat} : CE (Jl j):=fun h hx hq=>V1 h fun q=>hq _ _ q
theorem Ja (hr : C2 ra) (ha : CE aa) (hb : CE ab) : CE (aOp ra aa ab):=fun h hx hq=>ha h hx fun x ρ1 h1=>hb h1 hx fun y ρ2 h2=>hr h2 hq
theorem V7 {ra : AR1} (hr : C1 ra) (ha : CE aa) : CE (aUn ra aa):=fun h hx hq=>ha h hx fun x ρ1 h1=>hr h1 hq
theorem Y6 (ha : CE aa) : CT (Y5 aa):=fun h hx hq=>ha h hx fun x ρ1 h1=>Pd h1 fun b q=>hq _ _ q
theorem P0 (hr : C2 ra) (hr2 : C2 rb) (ha : CE aa) (hb : CE ab) (hc : CE ac) : CE (Xc ra rb aa ab ac):=fun h hx hq=>ha h hx fun x ρ1 h1=>hb h1 hx fun y ρ2 h2 =>
  Xw (P:=fun dy=>y = .v dy) (fun a b h1 h2=>by rw [h1] at h2; cases h2; rfl) h2 fun d h3=>hr h3 fun z ρ3 h4=>Pd h4 fun b h5=>Ba h5 (fun h6=>hc h6 hx fun w ρ4 h7=>hr2 h7 hq) fun q=>hq _ _ q
theorem Gq (ha : CT t) (hb : CT u) : CT (Zv t u):=fun h hx hq=>ha h hx fun x ρ1 h1=>Ba h1 (fun h2=>hb h2 hx hq) fun h2=>hq _ _ h2
theorem Vm (ha : CT t) (hb : CT u) : CT (Uv t u):=fun h hx hq=>ha h hx fun x ρ1 h1=>Ba h1 (fun h2=>hq _ _ h2) fun h2=>hb h2 hx hq
theorem V6 (ha : CT t) : CT (Uj t):=fun h hx hq=>ha h hx fun x ρ1 h1=>hq _ _ h1
theorem Lx : CT B0:=fun h hx hq=>hq _ _ h
theorem Gw (ha : CE aa) (hb : CE ab) : CE (Zm aa ab):=fun h hx hq=>ha h hx fun x ρ1 h1=>Pd h1 fun b h2=>Ba h2 (fun h3=>hb h3 hx hq) fun h3=>hq _ _ h3
theorem Jb : CA J9:=fun h hx hq=>hq _ _ h
theorem J3 (ha : CE aa) (hl : CA al) : CA (J2 aa al):=fun h hx hq=>ha h hx fun x ρ1 h1=>hl h1 hx fun xs ρ2 h2=>hq _ _ h2
theorem Ue (hl : CA al) : CE (U7 al):=fun h hx hq=>hl h hx fun xs ρ1 h1=>V1 h1 fun h2=>Og h2 fun ds ρ2 h3=>hq _ _ h3
theorem Um (hl : CA al) : CE (Uc al):=fun h hx hq=>hl h hx fun xs ρ1 h1=>V1 h1 fun h2=>Og h2 fun ds ρ2 h3=>hq _ _ h3
theorem M9 : CE Fl:=fun h hx hq=>hq _ _ h
theorem Yh {ra : ARs} (hr : Cs ra) (hl : CA al) : CE (aCB ra al):=fun h hx hq=>hl h hx fun xs ρ1 h1=>hr h1 hq
theorem Wc (ha : CE aa) : CE (Vk aa):=fun h hx hq=>ha h hx fun x ρ1 h1=>Wi h1 fun d ρ2 h2=>hq _ _ h2
theorem Xx : CO Zh:=fun h hx hq=>hq _ _ h
theorem Xs (ha : CE aa) : CO (Ze aa):=fun {ι} _ EA EA' ρ Q Q' h hx hq=>ha h hx fun x ρ1 h1 =>
  Xw (P:=fun i=>dat x ρ1 = some (.int i)) (fun a b h1 h2=>by rw [h1] at h2; cases h2; rfl) h1 fun a q=>hq _ _ q
theorem Bb {lo hi : AO} (ha : CE aa) (hl : CO lo) (hh : CO hi) : CE (Zg aa lo hi):=fun {ι} _ EA EA' ρ Q Q' h hx hq=>ha h hx fun x ρ1 h1=>hl h1 hx fun l ρ2 h2=>hh h2 hx fun u ρ3 h3=>by
  refine Xw (P:=fun d=>dat x ρ3 = some d) (fun a b h1 h2=>by rw [h1] at h2; cases h2; rfl) h3 fun d q=>?_
  cases d with
  | lst xs=>exact hq _ _ q
  | tup xs=>exact hq _ _ q
  | _ =>
    obtain ⟨i,_⟩:=i0 (ι:=ι)
    exact (q i).elim
theorem Pt (ha : CE ao) (hb : CE ae) : CE (Fe ao ae):=fun {ι} _ EA EA' ρ Q Q' h hx hq=>ha h hx fun o ρ1 h1=>V1 h1 fun h2=>hb h2 hx fun x ρ2 h3=>Wi h3 fun d ρ3 h4=>by
  obtain ⟨i,_⟩:=i0 (ι:=ι)
  obtain ⟨j,xs,rfl,e1,e2,_⟩:=h4 i
  refine ⟨j,xs,rfl,e1,e2,hq _ _ fun i=>?_⟩
  obtain ⟨j',xs',f0,f1,_,q⟩:=h4 i
  cases f0
  rw [e1] at f1; cases f1
  exact q
theorem Yx {dd : List D} (hl : CA al) : CE (Ym sp dd al):=fun h hx hq=>hl h hx fun xs ρ1 h1=>Mf h1 hx hq
theorem JJb {C : Addr} {m : Str} {dd : List D} (ho : CE ao) (hl : CA al) : CE (Xm C m sp dd ao al):=fun h hx hq=>ho h hx fun o ρ1 h1=>V1 h1 fun h2=>hl h2 hx fun xs ρ2 h3=>Mf h3 hx hq
theorem Uz {j : Nat} : CG (Ui j):=fun h hq=>hq _ h
theorem JYk : CGs G2:=fun h hq=>V1 h fun q=>hq _ q
theorem Gc {bs : AGs} (ha : CG ag) (hb : CGs bs) : CGs (Xe ag bs):=fun {ι} _ d ρ Q Q' h hq=>by
  obtain ⟨i,_⟩:=i0 (ι:=ι)
  obtain ⟨x,r,rfl,_⟩:=h i
  refine ⟨x,r,rfl,ha (Q:=fun i ρ'=>bs r ρ' (Q i)) (fun i=>?_) fun ρ' z=>hb z hq⟩
  obtain ⟨x',r',e,q⟩:=h i
  cases e
  exact q
theorem Dd {n : Nat} {bs : AGs} (hb : CGs bs) : CG (Ha n bs):=fun {ι} _ d ρ Q Q' h hq=>by
  obtain ⟨i,_⟩:=i0 (ι:=ι)
  obtain ⟨ds,rfl,hl,_⟩:=h i
  refine ⟨ds,rfl,hl,hb (Q:=Q) (fun i=>?_) hq⟩
  obtain ⟨ds',e,_,q⟩:=h i
  cases e
  exact q
theorem W8 (ha : CE aa) : CI (Vj aa):=fun h hx hq=>ha h hx fun x ρ1 h1=>Wi h1 fun d ρ2 h2 =>
  Xw (P:=fun xs=>Zt d = some xs) (fun a b h1 h2=>by rw [h1] at h2; cases h2; rfl) h2 fun a q=>hq _ _ _ q
theorem Ak (hl : CA al) : CI (H6 al):=fun {ι} _ EA EA' ρ Q Q' h hx hq=>hl h hx fun xs ρ1 h1=>by
  obtain ⟨i,_⟩:=i0 (ι:=ι)
  obtain ⟨x,j,rfl,e1,e2,e3,_⟩:=h1 i
  refine ⟨x,j,rfl,e1,e2,e3,hq _ _ _ fun i=>?_⟩
  obtain ⟨x',j',f0,f1,_,_,q⟩:=h1 i
  cases f0
  rw [e1] at f1; cases f1
  exact q
theorem Pf {ι : Type} [Nonempty ι] {G : J0 → Prop} {vs : List Nat} (hg : CG ag) (ht : CT at_) (he : CE ae) : ∀ {xs acc : List D} {ρ : J0} {Q : ι → AK} {Q' : AK},(∀ i,lcA G ag at_ ae vs xs acc ρ (Q i)) → (∀ x ρ,(∀ i,Q i x ρ) → Q' x ρ) → lcA G ag at_ ae vs xs acc ρ Q'
  | [],_,_,_,_,h,k=>V1 h fun q=>k _ _ q
  | x :: xs, acc, _, _, _, h, k => V1 h fun q => hg q fun ρ1 h1 => ht (EA := fun _ => noX) h1 (fun _ _ _ z => by
      obtain ⟨i,_⟩:=i0 (ι:=ι)
      exact z i) fun b ρ2 h2=>Ba h2 (fun h3=>he (EA:=fun _=>noX) h3 (fun _ _ _ z=>by
      obtain ⟨i,_⟩:=i0 (ι:=ι)
      exact z i) fun y ρ3 h4=>Wi h4 fun d ρ4 h5=>V1 h5 fun h6=>Pf hg ht he h6 k) fun h3=>Pf hg ht he h3 k
theorem F7 {vs : List Nat} (hi : CI ai) (hg : CG ag) (ht : CT at_) (he : CE ae) : CE (aLc ai ag at_ ae vs):=fun h hx hq=>hi h hx fun xs G ρ1 h1=>V1 h1 fun h2=>Pf hg ht he h2 hq
theorem Ou {ι : Type} [Nonempty ι] {G : J0 → Prop} {vs : List Nat} (hg : CG ag) (ht : CT at_) (hk : CE ak) (he : CE ae) : ∀ {xs : List D} {acc : List (Key × D)} {ρ : J0} {Q : ι → AK} {Q' : AK},(∀ i,dcA G ag at_ ak ae vs xs acc ρ (Q i)) → (∀ x ρ,(∀ i,Q i x ρ) → Q' x ρ) → dcA G ag at_ ak ae vs xs acc ρ Q'
  | [],_,_,_,_,h,k=>V1 h fun q=>k _ _ q
  | x :: xs, acc, _, Q, Q', h, k => V1 h fun q => hg q fun ρ1 h1 => ht (EA := fun _ => noX) h1 (fun _ _ _ z => by
      obtain ⟨i,_⟩:=i0 (ι:=ι)
      exact z i) fun b ρ2 h2=>Ba h2 (fun h3=>hk (EA:=fun _=>noX) h3 (fun _ _ _ z=>by
      obtain ⟨i,_⟩:=i0 (ι:=ι)
      exact z i) fun ky ρ3 h4=>he (EA:=fun _=>noX) h4 (fun _ _ _ z=>by
      obtain ⟨i,_⟩:=i0 (ι:=ι)
      exact z i) fun y ρ4 h5=>Wi h5 fun d ρ5 h6=>by
        obtain ⟨i,_⟩:=i0 (ι:=ι)
        obtain ⟨kd,kk,e1,e2,e3,_⟩:=h6 i
        refine ⟨kd,kk,e1,e2,e3,Ou hg ht hk he (Q:=Q) (fun i=>?_) k⟩
        obtain ⟨kd',kk',f1,f2,_,q⟩:=h6 i
        rw [e1] at f1; cases f1
        rw [e2] at f2; cases f2
        exact q) fun h3=>Ou hg ht hk he h3 k
theorem JM8 {vs : List Nat} (hi : CI ai) (hg : CG ag) (ht : CT at_) (hk : CE ak) (he : CE ae) : CE (aDc ai ag at_ ak ae vs):=fun h hx hq=>hi h hx fun xs G ρ1 h1=>V1 h1 fun h2=>Ou hg ht hk he h2 hq
end
section
variable {a b : AS} {ae av ao aiv : AE} {t : AT} {ai : AI} {ag : AG}
theorem U2 : CS Yt:=fun h c=>c.nx _ h
theorem Jq (ha : CS a) (hb : CS b) : CS (Jm a b):=fun h c=>ha h ⟨fun ρ h1=>hb h1 c,c.rt,c.bk,c.ct,c.ex⟩
theorem X1 (he : CE ae) : CS (Wo ae):=fun h c=>he h c.ex fun _ ρ h1=>c.nx _ h1
theorem Yk (he : CE ae) : CS (Yc ae):=fun h c=>he h c.ex fun x ρ h1=>JBz h1 c.rt
theorem U0 (ht : CT t) (ha : CS a) (hb : CS b) : CS (Yq t a b):=fun h c=>ht h c.ex fun x ρ h1=>Ba h1 (fun h2=>ha h2 c) fun h2=>hb h2 c
theorem Yl {j : Nat} (he : CE ae) : CS (Ye j ae):=fun h c=>he h c.ex fun x ρ h1=>JHk h1 c.nx
theorem Hj (hv : CE av) (ho : CE ao) (hi : CE aiv) : CS (Xf av ao aiv):=fun {ι} _ DA D' ρ h c=>hv h c.ex fun x ρ1 h1=>Wi h1 fun d ρ2 h2=>ho h2 c.ex fun o ρ3 h3=>hi h3 c.ex fun iv ρ4 h4=>by
  obtain ⟨i,_⟩:=i0 (ι:=ι)
  obtain ⟨j,y,k,y',rfl,e1,e2,e3,e4,_⟩:=h4 i
  refine ⟨j,y,k,y',rfl,e1,e2,e3,e4,c.nx _ fun i=>?_⟩
  obtain ⟨j',z,k',z',f0,f1,f2,f3,_,q⟩:=h4 i
  cases f0
  rw [e1] at f1; cases f1
  rw [e2] at f2; cases f2
  rw [e3] at f3; cases f3
  exact q
theorem N5 {ι : Type} [Nonempty ι] {G : J0 → Prop} (hg : CG ag) (hb : CS b) : ∀ {xs : List D} {ρ : J0} {DA : ι → AEnds} {D' : AEnds},(∀ i,forA G ag b (DA i) xs ρ) → Cov DA D' → forA G ag b D' xs ρ
  | [],_,_,_,h,c=>V1 h fun q=>c.nx _ q
  | x :: xs,_,_,_,h,c=>V1 h fun q=>hg q fun ρ1 h1=>hb h1 ⟨fun ρ h2=>N5 hg hb h2 c,c.rt,fun ρ h2=>c.nx ρ h2,fun ρ h2=>N5 hg hb h2 c,c.ex⟩
theorem Zd (hi : CI ai) (hg : CG ag) (hb : CS b) : CS (Wq ai ag b):=fun h c=>hi h c.ex fun xs G ρ h1=>N5 hg hb h1 c
theorem JFp {C : Addr} {f : Str} (hv : CE av) (ho : CE ao) : CS (Kz C f av ao):=fun {ι} _ DA D' ρ h c=>hv h c.ex fun x ρ1 h1=>Wi h1 fun d ρ2 h2=>ho h2 c.ex fun o ρ3 h3=>by
  obtain ⟨i,_⟩:=i0 (ι:=ι)
  obtain ⟨j,fs,rfl,e1,e2,e3,_⟩:=h3 i
  refine ⟨j,fs,rfl,e1,e2,e3,c.nx _ fun i=>?_⟩
  obtain ⟨j',fs',f0,f1,_,_,q⟩:=h3 i
  cases f0
  rw [e1] at f1; cases f1
  exact q
theorem JU4 {C : Addr} {f : Str} (he : CE ae) : CS (Gi C f ae):=fun h c=>he h c.ex fun x ρ1 h1=>Wi h1 fun d ρ2 h2=>c.ex _ _ _ h2
theorem Jf {vs : List Nat} (ha : CS a) : CS (Jd vs a):=fun h c=>ha h c
end
def spS (a : AS) (O : List Nat) (n m : Nat) : ASp where
  pre:=fun xs=>xs.length = m ∧ ∃ po xc,a (Zp O xs po xc) (Yn n xs)
  post:=fun xs r xs'=>∀ po xc,a (Zp O xs po xc) (Yn n xs) → po r xs'
  exc:=fun xs C fs xs'=>(∃ po xc,a (Zp O xs po xc) (Yn n xs)) ∧ ∀ po xc,a (Zp O xs po xc) (Yn n xs) → xc C fs xs'
theorem Uy {a : AS} {O : List Nat} {n m : Nat} (c : CS a) : ∀ xs,(spS a O n m).pre xs → a (U9 O (spS a O n m) xs) (Yn n xs):=by
  rintro xs ⟨_,po,xc,h⟩
  haveI : Nonempty {p : (A → List A → Prop) × (Addr → List (Str × D) → List A → Prop) // a (Zp O xs p.1 p.2) (Yn n xs)}:=⟨⟨(po,xc),h⟩⟩
  refine c (ι:={p : (A → List A → Prop) × (Addr → List (Str × D) → List A → Prop) // a (Zp O xs p.1 p.2) (Yn n xs)}) (DA:=fun i=>Zp O xs i.1.1 i.1.2) (fun i=>i.2) ?_
  have i1 : {p : (A → List A → Prop) × (Addr → List (Str × D) → List A → Prop) // a (Zp O xs p.1 p.2) (Yn n xs)}:=⟨(po,xc),h⟩
  constructor
  · intro ρ z
    obtain ⟨xs',e,_⟩:=z i1
    refine ⟨xs',e,fun po xc hh=>?_⟩
    obtain ⟨ys,e',q⟩:=z ⟨(po,xc),hh⟩
    rw [e] at e'
    cases e'
    exact q
  · intro r ρ z
    obtain ⟨xs',e,_⟩:=z i1
    refine ⟨xs',e,fun po xc hh=>?_⟩
    obtain ⟨ys,e',q⟩:=z ⟨(po,xc),hh⟩
    rw [e] at e'
    cases e'
    exact q
  · intro ρ z
    exact z i1
  · intro ρ z
    exact z i1
  · intro C fs ρ z
    obtain ⟨xs',e,_⟩:=z i1
    refine ⟨xs',e,⟨_,_,h⟩,fun po xc hh=>?_⟩
    obtain ⟨ys,e',q⟩:=z ⟨(po,xc),hh⟩
    rw [e] at e'
    cases e'
    exact q
theorem Ut {a : AS} {O : List Nat} {n m : Nat} : ∀ xs,(spS a O n m).pre xs → xs.length = m:=fun _ h=>h.1
/-- what is known of a def at some arguments -/
structure Sat (S : ASp) (xs : List A) (P : A → List A → Prop) (X : Addr → List (Str × D) → List A → Prop) : Prop where
  pre : S.pre xs
  po : ∀ r o,S.post xs r o → P r o
  ex : ∀ C fs o,S.exc xs C fs o → X C fs o
theorem Sat.mk' {a : AS} {O : List Nat} {n m : Nat} {xs : List A} {P : A → List A → Prop} {X : Addr → List (Str × D) → List A → Prop} (hl : xs.length = m) (h : a (Zp O xs P X) (Yn n xs)) : Sat (spS a O n m) xs P X :=
  ⟨⟨hl,P,X,h⟩,fun _ _ p=>p _ _ h,fun _ _ _ p=>p.2 _ _ h⟩
def noO : Addr → List (Str × D) → List A → Prop:=fun _ _ _=>False
/-- the arguments stay,and there is no exception -/
abbrev Val (S : ASp) (xs : List A) (P : A → Prop) : Prop:=Sat S xs (fun r o=>o = xs ∧ P r) noO
abbrev Ev (S : ASp) (xs : List A) (r : A) : Prop:=Val S xs (· = r)
abbrev Rz (S : ASp) (xs : List A) (C : Addr) (fs : List (Str × D)) : Prop:=Sat S xs (fun _ _=>False) fun C' fs' o=>C' = C ∧ fs' = fs ∧ o = xs
section
variable {S : ASp} {xs ys : List A} {P : A → List A → Prop} {X : Addr → List (Str × D) → List A → Prop} {EA : AX} {ρ ρ' : J0} {Q : AK}
theorem Zs (hp : pass xs ρ = some (ys,ρ')) (h : Sat S ys P X) (hq : ∀ r o,P r o → Q r (give xs o ρ')) (hx : ∀ C fs o,X C fs o → EA C fs (give xs o ρ')) : Yp S xs EA ρ Q :=
  ⟨ys,ρ',hp,h.pre,fun r o p _=>hq r o (h.po r o p),fun C fs o p _=>hx C fs o (h.ex C fs o p)⟩
theorem Lg : ∀ {xs : List A} {ρ ρ' : J0} {ys : List A},pass xs ρ = some (ys,ρ') → give xs ys ρ' = ρ
  | [],ρ,ρ',ys,h=>by
    simp only [pass,Option.some.injEq,Prod.mk.injEq] at h
    obtain ⟨rfl,rfl⟩:=h
    rfl
  | x :: xs,ρ,ρ',ys,h=>by
    cases x with
    | loc i =>
      simp only [pass] at h
      split at h
      · rename_i y hy
        split at h
        · rename_i zs ρ2 hz
          cases h
          have e:=Lg hz
          simp only [give]
          have hn:=(Kj hz).2.1 i (by
            have : i < ρ.length:=by
              rcases Nat.lt_or_ge i ρ.length with q | q
              · exact q
              · rw [List.getElem?_eq_none q] at hy; cases hy
            simp [this])
          have hni:=Kc hz i (by
            have : i < ρ.length:=by
              rcases Nat.lt_or_ge i ρ.length with q | q
              · exact q
              · rw [List.getElem?_eq_none q] at hy; cases hy
            simp [this])
          have hc : ∀ (xs zs : List A) (ρ : J0) (o : Option A),A.loc i ∉ xs → give xs zs (ρ.set i o) = (give xs zs ρ).set i o:=by
            intro xs
            induction xs with
            | nil=>intro zs ρ o _; cases zs <;> rfl
            | cons x xs ih =>
              intro zs ρ o hn
              have h1 : A.loc i ∉ xs:=fun z=>hn (List.mem_cons_of_mem _ z)
              cases zs with
              | nil=>cases x <;> rfl
              | cons z zs =>
                cases x with
                | loc j =>
                  have hij : j ≠ i:=fun z=>hn (by rw [z]; exact List.mem_cons_self ..)
                  simp only [give]
                  rw [List.set_comm _ _ hij.symm,ih _ _ _ h1]
                | _=>exact ih _ _ _ h1
          rw [hc _ _ _ _ hni,e,List.set_set]
          refine List.ext_getElem? fun j=>?_
          rcases Nat.decEq i j with q | q
          · rw [List.getElem?_set_ne q]
          · subst q
            have : i < ρ.length:=by
              rcases Nat.lt_or_ge i ρ.length with q | q
              · exact q
              · rw [List.getElem?_eq_none q] at hy; cases hy
            rw [List.getElem?_set_self this,hy]
        · cases h
      · cases h
    | _ =>
      simp only [pass] at h
      split at h
      · rename_i zs ρ2 hz
        cases h
        simpa only [give] using Lg hz
      · cases h
theorem Wr {P : A → Prop} (hp : pass xs ρ = some (ys,ρ')) (h : Val S ys P) (hq : ∀ r,P r → Q r ρ) : Yp S xs EA ρ Q:=Zs hp h (fun r o ⟨e,p⟩=>by rw [e,Lg hp]; exact hq r p) fun _ _ _ z=>z.elim
theorem kEv {r : A} (hp : pass xs ρ = some (ys,ρ')) (h : Ev S ys r) (hq : Q r ρ) : Yp S xs EA ρ Q:=Wr hp h fun _ e=>by rw [e]; exact hq
theorem kRz {C : Addr} {fs : List (Str × D)} (hp : pass xs ρ = some (ys,ρ')) (h : Rz S ys C fs) (hx : EA C fs ρ) : Yp S xs EA ρ Q:=Zs hp h (fun _ _ z=>z.elim) fun C' fs' o ⟨e1,e2,e3⟩=>by rw [e1,e2,e3,Lg hp]; exact hx
/-- an __init__ that gives this instance,its other arguments stay -/
abbrev Mks (S : ASp) (C : Addr) (ys : List A) (y : A) : Prop:=Sat S (.obj C [] :: ys) (fun r o=>r = .v .non ∧ o = y :: ys) noO
end
end Vs
namespace Vs
open PySem PySem.Spec PyProof.Rows L2
variable [Tbs]
def Z4 (vs : List Nat) (a : AS) : AS:=fun DA ρ=>a { DA with nx:=fun ρ=>DA.nx (Y7 vs ρ) } ρ
section
variable {X : Cx} {P : Pm} {DA : AEnds} {ρ ρ' : J0} {a : AS} {vs : List Nat}
theorem Xg (vs : List Nat) {st : List Stmt} (h : QSs X P st a) : QSs X P st (Z4 vs a) :=
  let ⟨t,p,s⟩:=h.ex; ⟨t,p,fun c D DA ho hw l S H σ ρ st q=>s c D { DA with nx:=fun ρ=>DA.nx (Y7 vs ρ) } ho hw ⟨fun S H σ ρ st q=>l.nx S H σ _ (st.clears vs fun _ _ m=>by simp at m) q,l.rt,l.bk,l.ct⟩ S H σ _ st q⟩
theorem Xj (h : CS a) : CS (Z4 vs a):=fun h1 c=>h h1 ⟨fun ρ h2=>c.nx _ h2,c.rt,c.bk,c.ct,c.ex⟩
theorem JUt (k : a { DA with nx:=fun ρ=>DA.nx (Y7 vs ρ) } ρ) : Z4 vs a DA ρ:=k
theorem Cz (h : Y7 vs ρ = ρ') (k : a DA ρ') : Jd vs a DA ρ:=by
  subst h
  exact k
theorem JLf {a b : AS} (M : J0 → Prop) (h1 : ∀ k : J0 → Prop,(∀ ρ,M ρ → k ρ) → a { DA with nx:=k } ρ) (h2 : ∀ ρ,M ρ → b DA ρ) : Jm a b DA ρ:=h1 (b DA) h2
section
variable {O : List Nat} {n m : Nat} {xs ys out : List A} {R : RX} {S : ASp} {EA : AX} {Q : AK} {P : A → List A → Prop} {Z : Addr → List (Str × D) → List A → Prop}
theorem fnP (hl : xs.length = m) (h : ∀ DA : AEnds,(∀ r ρ o,fin O 0 xs ρ = some o → P r o → DA.rt r ρ) → (∀ ρ o,fin O 0 xs ρ = some o → P (.v .non) o → DA.nx ρ) → (∀ C fs ρ o,fin O 0 xs ρ = some o → Z C fs o → DA.ex C fs ρ) → a DA (Yn n xs)) : Sat (spS a O n m) xs P Z :=
  Sat.mk' hl (h _ (fun r ρ o h1 h2=>⟨o,h1,h2⟩) (fun ρ o h1 h2=>⟨o,h1,h2⟩) fun C fs ρ o h1 h2=>⟨o,h1,h2⟩)
end
theorem C5 {xs : List D} {n : Nat} (h : xs.length ≤ n) : xs.length ≤ n:=h
/-- a comprehension over data of one kind,each round with the same names -/
theorem Mu {α : Type} {G : J0 → Prop} {ag : AG} {at_ : AT} {ae : AE} {vs : List Nat} {Q : AK} (f : α → D) (t : α → Bool) (e : α → D) (hG : G ρ) : ∀ (xs : List α) (acc : List D),acc.length + xs.length ≤ 100000 →
    (∀ x ∈ xs,∀ (R : D → J0 → Prop) (N : J0 → Prop),(∀ ρ4,Y7 vs ρ4 = ρ → t x = true → R (e x) ρ4) → (∀ ρ2,Y7 vs ρ2 = ρ → t x = false → N ρ2) → ag (f x) ρ fun ρ1=>at_ noX ρ1 fun b ρ2=>if b = true then ae noX ρ2 fun y ρ3=>Yd y ρ3 R else N ρ2) →
    Q (.lst (acc ++ (xs.filter t).map e)) ρ → lcA G ag at_ ae vs (xs.map f) acc ρ Q
  | [],acc,_,_,hq=>⟨hG,by simpa using hq⟩
  | x :: xs,acc,hl,h,hq=>by
    simp only [List.length_cons] at hl
    refine ⟨hG,h x (List.mem_cons_self ..) (fun d ρ4=>acc.length ≤ 100000 ∧ lcA G ag at_ ae vs (xs.map f) (acc ++ [d]) (Y7 vs ρ4) Q) (fun ρ2=>lcA G ag at_ ae vs (xs.map f) acc (Y7 vs ρ2) Q) (fun ρ4 e1 ht=>?_) (fun ρ2 e1 ht=>?_)⟩
    · refine ⟨by omega,?_⟩
      rw [e1]
      refine Mu f t e hG xs _ (by simp; omega) (fun y hy=>h y (List.mem_cons_of_mem _ hy)) ?_
      simpa [List.filter_cons,ht] using hq
    · rw [e1]
      refine Mu f t e hG xs _ (by omega) (fun y hy=>h y (List.mem_cons_of_mem _ hy)) ?_
      simpa [List.filter_cons,ht] using hq
theorem Nv {α : Type} {G : J0 → Prop} {ag : AG} {at_ : AT} {ae : AE} {vs : List Nat} {Q : AK} (f : α → D) (t : α → Bool) (e : α → D) {xs : List α} (hG : G ρ) (hl : xs.length ≤ 100000)
    (h : ∀ x ∈ xs,∀ (R : D → J0 → Prop) (N : J0 → Prop),(∀ ρ4,Y7 vs ρ4 = ρ → t x = true → R (e x) ρ4) → (∀ ρ2,Y7 vs ρ2 = ρ → t x = false → N ρ2) → ag (f x) ρ fun ρ1=>at_ noX ρ1 fun b ρ2=>if b = true then ae noX ρ2 fun y ρ3=>Yd y ρ3 R else N ρ2)
    (hq : Q (.lst ((xs.filter t).map e)) ρ) : lcA G ag at_ ae vs (xs.map f) [] ρ Q:=Mu f t e hG xs [] (by simpa using hl) h (by simpa using hq)
theorem Nl {xs : List D} {z : Int} (h0 : 0 ≤ z) (h1 : z < xs.length) : ∃ x ∈ xs,itD (.lst xs) (.int z) = some x:=by
  refine ⟨xs[z.toNat]'(by omega),List.getElem_mem _,?_⟩
  have e : z = ((z.toNat : Nat) : Int):=by omega
  have h:=Gk (xs:=xs) (k:=z.toNat) (by omega)
  rw [← e] at h
  show atI _ z = _
  rw [h,List.getElem?_eq_getElem (by omega)]
theorem Ca : ∀ {xs ys : List D},We xs ys = true → xs.length = ys.length
  | [],[],_=>rfl
  | [],_ :: _,h=>by simp [We] at h
  | _ :: _,[],h=>by simp [We] at h
  | x :: xs,y :: ys,h=>by
    simp only [We,Bool.and_eq_true] at h
    simp [Ca h.2]
end
end Vs
namespace Vs
open PySem PySem.Spec PyProof.Rows L2
variable [Tbs]
/-- x += e,numbers -/
def JXy (i : Nat) (ae : AE) : AS:=fun DA ρ=>∃ x,ρ[i]? = some (some (.v (.int x))) ∧ ae DA.ex ρ fun y ρ1=>∃ j,dat y ρ1 = some (.int j) ∧ DA.nx (ρ1.set i (some (.v (.int (x + j)))))
section
variable {X : Cx} {P : Pm} {K : Fg} {pos : Pos}
/-- o.insert(i,x) -/
def Nh (o iv : A) (d : D) (ρ : J0) (Q : AK) : Prop:=∃ j xs k,o = .loc j ∧ ρ[j]? = some (some (.lst xs)) ∧ dat iv ρ = some (.int k) ∧ 0 ≤ k ∧ k < 2 ^ 63 ∧ xs.length ≤ 100000 ∧ Q (.v .non) (ρ.set j (some (.lst (xs.take k.toNat ++ [d] ++ xs.drop k.toNat))))
def Hg (ao ai ae : AE) : AE:=fun EA ρ Q=>ao EA ρ fun o ρ1=>(∃ xs,dat o ρ1 = some (.lst xs)) ∧ ai EA ρ1 fun iv ρ2=>ae EA ρ2 fun x ρ3=>Yd x ρ3 fun d ρ4=>Nh o iv d ρ4 Q
theorem E3 {o e f : Expr} {ao ai ae : AE} {apos cpos : Pos} (ho' : QE X P o ao) (hi : QE X P e ai) (he : QE X P f ae) (hbase : attributeBase o "insert" X.env (eval o X.env) = eval o X.env:=by rfl)
    (h1 : ((backTo cpos (starEach [e,f] X.env)).all (fun x=>!x.1) && (backToKw cpos (keywordEach [] X.env)).all (fun x=>x.1.isSome) && decide ([e,f].length + ([] : List Keyword).length + (if ([] : List Keyword).isEmpty then 0 else 1) < 30)) = true:=by rfl)
    (h2 : (apos.endLine == cpos.line) = true:=by rfl) (h3 : starEach [e,f] X.env = (false,eval e X.env) :: starEach [f] X.env:=by rfl) (h4 : (backTo cpos (starEach [f] X.env)).any (·.1) = false:=by rfl) (h5 : starEach [f] X.env = (false,eval f X.env) :: starEach [] X.env:=by rfl) :
    QE X P (.Call (.Attribute o "insert" apos) [e,f] [] cpos) (Hg ao ai ae):=by
  obtain ⟨to,po,so⟩:=ho'.ex
  obtain ⟨ti,pi,si⟩:=hi.ex
  obtain ⟨te,pe,se⟩:=he.ex
  refine ⟨_,pe_bm PySem.F.plainAttrs_list PySem.F.slot_list_insert PySem.F.type_list_insert mt_insert po (pa_cons pi (pa_cons pe pa_nil h5) h3) hbase h1 h2 h3 h4,fun c EA ho hw τ S H σ ρ Q R st q k=>so c EA ho hw τ S H σ ρ _ _ st q fun vo H1 ⟨S1,ρ1,xo,s1,⟨xs0,h0⟩,q1⟩=>?_⟩
  obtain ⟨y0,g0,r0,e0⟩:=s1.thing (List.mem_cons_self ..) h0
  obtain ⟨p,vs,rfl,h3',h4'⟩:=Vy r0 e0 s1.le
  refine ⟨.inl ⟨rfl,vs,h3'⟩,si c EA ho hw _ S1 H1 σ ρ1 _ _ s1 q1 fun v H2 ⟨S2,ρ2,x,s2,q2⟩=>se c EA ho hw _ S2 H2 σ ρ2 _ _ s2 q2 fun u H3 ⟨S3,ρ3,z,s3,q3⟩=>?_⟩
  obtain ⟨S4,d,ρ4,sm,s4,j,xs,kk,eo,hj,hk,hk0,hk1,hl,q4⟩:=W3 s3 q3
  subst eo
  have hvo : σ[j]? = some (some (.ref p)):=(s4.loc _ j (by simp)).1
  obtain ⟨g,ra⟩:=s4.slotA hj hvo
  obtain ⟨p',ws,e1,hp,rl,rfl⟩:=ra.lst_inv
  cases e1
  have rk:=s4.dat (List.mem_cons_of_mem _ (List.mem_cons_self ..)) hk
  simp only [Rep] at rk
  subst rk
  have rd:=s4.data
  refine ⟨p,ws,kk,u,rfl,rfl,hp,by rw [rl.len]; exact Nat.lt_of_le_of_lt hl (by decide),hk0,hk1,?_⟩
  have rn : RepL X.K S4 (xs.take kk.toNat ++ [d] ++ xs.drop kk.toNat) (ws.take kk.toNat ++ [u] ++ ws.drop kk.toNat):=((rl.take _).app (by simp only [RepL]; exact ⟨u,[],rfl,rd,rfl⟩)).app (rl.drop _)
  have s5:=s4.write (o:=.lst (ws.take kk.toNat ++ [u] ++ ws.drop kk.toNat)) (y':=.lst (xs.take kk.toNat ++ [d] ++ xs.drop kk.toNat)) hj hvo (fun g' h=>by obtain ⟨a',_,e,_,_,e2⟩:=h.lst_inv; cases e; exact e2) rfl (.mk_lst upd_same rn)
  exact k _ _ ⟨S4,_,.v .non,s5.drop.drop.drop.hold (by simp only [Rep]),q4⟩
/-- a new list times a number -/
def Lj : AR2:=fun x y ρ Q=>∃ xs k,x = .lst xs ∧ dat y ρ = some (.int k) ∧ 0 ≤ k ∧ xs.length * k.toNat ≤ 100000 ∧ k ≤ 100000 ∧ Q (.lst (List.replicate k.toNat xs).flatten) ρ
theorem RepL.rep {S : Hp} {xs : List D} {vs : List V} (h : RepL K S xs vs) : ∀ n,RepL K S (List.replicate n xs).flatten (List.replicate n vs).flatten
  | 0=>by simp only [List.replicate,List.flatten,RepL]
  | n + 1=>by
    simp only [List.replicate,List.flatten]
    exact h.app (RepL.rep h n)
theorem JHa : Yj K rRep Lj:=by
  intro c τ S H σ ρ vx vy x y Q R s q k
  obtain ⟨xs,n,rfl,h2,h0,hz,hb,q⟩:=q
  have rn:=s.dat (List.mem_cons_self ..) h2
  simp only [Rep] at rn
  subst rn
  have s1:=s.swap (List.Perm.swap ..)
  obtain ⟨f,g,r1,_⟩:=s1.top rfl
  obtain ⟨p,ws,rfl,hp,rl,_⟩:=RepA.lst_inv r1
  refine ⟨p,n,ws,rfl,rfl,hp,by omega,by omega,by rw [rl.len]; exact Nat.le_trans hz (by decide),fun pn hn=>?_⟩
  exact k _ _ ⟨S,ρ,_,s.drop.drop.newList hn (rl.rep _),q⟩
end
end Vs
namespace Vs
open PySem PySem.Spec PyProof.Rows L2
variable [Tbs]
section
variable {X : Cx} {P : Pm} {K : Fg} {pos : Pos}
/-- t[::-1] -/
def JLg (ae : AE) : AE:=fun EA ρ Q=>ae EA ρ fun x ρ1=>∃ xs,dat x ρ1 = some (.tup xs) ∧ Q (.v (.tup xs.reverse)) ρ1
theorem RepL.rev {S : Hp} : ∀ {xs : List D} {vs : List V},RepL K S xs vs → RepL K S xs.reverse vs.reverse
  | [],vs,h=>by
    simp only [RepL] at h
    subst h
    simp only [List.reverse_nil,RepL]
  | x :: xs,vs,h=>by
    simp only [RepL] at h
    obtain ⟨v,r,rfl,h1,h2⟩:=h
    rw [List.reverse_cons,List.reverse_cons]
    exact (RepL.rev h2).app (by simp only [RepL]; exact ⟨v,[],rfl,h1,rfl⟩)
def JFi : AR2:=fun x y ρ Q=>∃ xs k,dat x ρ = some (.tup xs) ∧ dat y ρ = some (.int k) ∧ xs ≠ [] ∧ 1 ≤ k ∧ k ≤ 1000 ∧ xs.length ≤ 1000 ∧ Q (.v (.tup (List.replicate k.toNat xs).flatten)) ρ
def Z5 : List (AE × AE) → AX → J0 → (List (Key × D) → J0 → Prop) → Prop
  | [],_,ρ,Q=>Q [] ρ
  | (ak,av) :: r,EA,ρ,Q=>ak EA ρ fun x ρ1=>∃ kd k,x = .v kd ∧ keyD kd = some k ∧ av EA ρ1 fun y ρ2=>Yd y ρ2 fun d ρ3=>Z5 r EA ρ3 fun kvs ρ4=>Q ((k,d) :: kvs) ρ4
def M7 (kvs : List (Key × D)) : List (Key × D):=kvs.foldl (fun acc p=>putD acc p.1 p.2) []
def Hi (ps : List (AE × AE)) : AE:=fun EA ρ Q=>Z5 ps EA ρ fun kvs ρ1=>kvs.length ≤ 15 ∧ Q (.dic (M7 kvs)) ρ1
structure QPs (X : Cx) (P : Pm) (pos : Pos) (ks : List (Option Expr)) (vs : List Expr) (ps : List (AE × AE)) : Prop where
  ex : ∃ trs,PPs X pos ks vs trs ∧ ∀ c EA,OsIn X.K c P.O → XOk X.K c P.W EA → ∀ τ S H σ ρ Q (R : List (V × V) → Hp → Prop),Stt X.K c S H σ ρ τ → Z5 ps EA ρ Q →
    (∀ (ws : List (Key × V)) H',(∃ S' ρ' kvs,Stt X.K c S' H' σ ρ' τ ∧ RepK X.K S' kvs ws ∧ Q kvs ρ') → R (ws.map fun p=>(kV p.1,p.2)) H') → tPairs trs σ H R
theorem Qj : QPs X P pos [] [] []:=⟨[],pps_nil,fun c EA _ _ τ S H σ ρ Q R st q k=>k [] H ⟨S,ρ,[],st,by simp only [RepK],q⟩⟩
theorem Lo {a b : Expr} {ak av : AE} {ks : List (Option Expr)} {vs : List Expr} {ps : List (AE × AE)} (ha : QE X P a ak) (hb : QE X P b av) (h : QPs X P pos ks vs ps) : QPs X P pos (some a :: ks) (b :: vs) ((ak,av) :: ps):=by
  obtain ⟨tk,pk,sk⟩:=ha.ex
  obtain ⟨tv,pv,sv⟩:=hb.ex
  obtain ⟨trs,pr,sr⟩:=h.ex
  refine ⟨_,pps_cons pk pv pr,fun c EA ho hw τ S H σ ρ Q R st q k=>sk c EA ho hw τ S H σ ρ _ _ st q fun v H1 ⟨S1,ρ1,x,s1,kd,ky,ex,hk,q1⟩=>?_⟩
  subst ex
  have rk:=X3 hk s1.data
  subst rk
  refine sv c EA ho hw τ S1 H1 σ ρ1 _ _ s1.drop q1 fun u H2 ⟨S2,ρ2,y,s2,q2⟩=>?_
  obtain ⟨S3,d,ρ3,_,s3,q3⟩:=W3 s2 q2
  refine sr c EA ho hw _ S3 H2 σ ρ3 _ _ s3 q3 fun ws H3 ⟨S4,ρ4,kvs,s4,rk,q4⟩=>?_
  exact k ((ky,u) :: ws) H3 ⟨S4,ρ4,(ky,d) :: kvs,s4.drop,by simp only [RepK]; exact ⟨u,ws,rfl,s4.data,rk⟩,q4⟩
theorem RepK.mrg {S : Hp} : ∀ {kvs : List (Key × D)} {ws : List (Key × V)} {acc : List (Key × D)} {wa : List (Key × V)},RepK K S kvs ws → RepK K S acc wa → RepK K S (kvs.foldl (fun acc p=>putD acc p.1 p.2) acc) (ws.foldl (fun acc kv=>putK acc kv.1 kv.2) wa)
  | [],ws,acc,wa,h,h2=>by
    simp only [RepK] at h
    subst h
    exact h2
  | (k,d) :: kvs,ws,acc,wa,h,h2=>by
    simp only [RepK] at h
    obtain ⟨v,r,rfl,h1,h3⟩:=h
    have:=RepK.mrg h3 (h2.put k h1)
    exact this
theorem JWu {ks : List (Option Expr)} {vs : List Expr} {ps : List (AE × AE)} (h : QPs X P pos ks vs ps) (h1 : ks.all (·.isSome) = true) (h2 : ks.length = vs.length) (h3 : ks ≠ []) (h4 : ks.length ≤ 15) : QE X P (.Dict ks vs pos) (Hi ps):=by
  obtain ⟨trs,pr,sr⟩:=h.ex
  refine ⟨_,pe_disp pr h1 h2 h3 h4,fun c EA ho hw τ S H σ ρ Q R st q k p hp=>?_⟩
  have s1:=st.alloc (x:=.dic []) (o:=.dK []) hp rfl (by
    simp only [RepA]
    exact ⟨p,[],rfl,upd_same,by simp only [RepK],rfl⟩)
  refine sr c EA ho hw _ S _ σ ρ _ _ s1 q fun ws H2 ⟨S2,ρ2,kvs,s2,rk,hl,q2⟩=>?_
  obtain ⟨g,f,a1,a2,a3,a4⟩:=s2.top rfl
  obtain ⟨p',w0,e1,hp2,r0,rfl⟩:=RepA.dic_inv a1
  cases e1
  have hw0 : w0 = []:=by simpa only [RepK] using r0
  subst hw0
  refine ⟨hp2,ws,rfl,by rw [rk.len]; exact hl,k _ _ ⟨S2,ρ2,.dic (M7 kvs),?_,q2⟩⟩
  have np : p ∉ f:=fun z=>(List.nodup_append.mp a3).2.2 p (List.mem_cons_self ..) p z rfl
  have hS : S2 p = none ∧ c.R p = none:=a4 p (by simp)
  refine Stt.push (g:=[p]) (h:=f) rfl ?_ (a2.keep (fun _ _ e=>e) fun a ha=>upd_ne fun e=>np (e ▸ ha)) a3 a4 s2.drop.env s2.drop.loc (s2.le.up hS.1) (fun a o e=>by
    have : a ≠ p:=fun z=>by rw [z,hS.2] at e; cases e
    rw [upd_ne this]
    exact s2.r a o e) s2.new s2.up s2.os (s2.tb.put hp2 rfl)
  simp only [RepA]
  exact ⟨p,_,rfl,upd_same,RepK.mrg rk (by simp only [RepK]),rfl⟩
end
end Vs
namespace Vs
open PySem PySem.Spec PyProof.Rows L2
variable [Tbs]
section
variable {aa ab ac ao ae av : AE} {at_ : AT} {a b : AS}
theorem JYn (ho : CE ao) (hi : CE ab) (he : CE ae) : CE (Hg ao ab ae):=fun {ι} _ EA EA' ρ Q Q' h hx hq=>ho h hx fun o ρ1 h1=>V1 h1 fun h2=>hi h2 hx fun iv ρ2 h3=>he h3 hx fun x ρ3 h4=>Wi h4 fun d ρ4 h5=>by
  obtain ⟨i,_⟩:=i0 (ι:=ι)
  obtain ⟨j,xs,k,rfl,e1,e2,e3,e4,e5,_⟩:=h5 i
  refine ⟨j,xs,k,rfl,e1,e2,e3,e4,e5,hq _ _ fun i=>?_⟩
  obtain ⟨j',xs',k',f0,f1,f2,_,_,_,q⟩:=h5 i
  cases f0
  rw [e1] at f1; cases f1
  rw [e2] at f2; cases f2
  exact q
theorem JMq : C2 Lj:=fun {ι} _ x y ρ Q Q' h k=>by
  obtain ⟨i,_⟩:=i0 (ι:=ι)
  obtain ⟨xs,n,h1,h2,h3,h4,h5,_⟩:=h i
  refine ⟨xs,n,h1,h2,h3,h4,h5,k _ _ fun i=>?_⟩
  obtain ⟨xs',n',g1,g2,_,_,_,q⟩:=h i
  rw [h1] at g1; cases g1
  rw [h2] at g2; cases g2
  exact q
def CPs (ps : List (AE × AE)) : Prop:=∀ p ∈ ps,CE p.1 ∧ CE p.2
theorem JJq : CPs []:=fun _ h=>nomatch h
theorem Ky {ps : List (AE × AE)} (h1 : CE aa) (h2 : CE ab) (h : CPs ps) : CPs ((aa,ab) :: ps):=fun p hp=>by
  rcases List.mem_cons.mp hp with rfl | hp
  · exact ⟨h1,h2⟩
  · exact h p hp
theorem JU2 {ι : Type} [Nonempty ι] : ∀ {ps : List (AE × AE)},CPs ps → ∀ {EA : ι → AX} {EA' : AX} {ρ : J0} {Q : ι → List (Key × D) → J0 → Prop} {Q' : List (Key × D) → J0 → Prop},(∀ i,Z5 ps (EA i) ρ (Q i)) → (∀ C fs ρ,(∀ i,EA i C fs ρ) → EA' C fs ρ) → (∀ x ρ,(∀ i,Q i x ρ) → Q' x ρ) → Z5 ps EA' ρ Q'
  | [],_,_,_,_,_,_,h,_,hq=>hq _ _ h
  | (ak,av) :: ps,hc,EA,EA',ρ,Q,Q',h,hx,hq=>(hc _ (List.mem_cons_self ..)).1 h hx fun x ρ1 h1=>by
    obtain ⟨i,_⟩:=i0 (ι:=ι)
    obtain ⟨kd,k,e1,e2,_⟩:=h1 i
    refine ⟨kd,k,e1,e2,(hc _ (List.mem_cons_self ..)).2 (EA:=EA) (Q:=fun i y ρ2=>Yd y ρ2 fun d ρ3=>Z5 ps (EA i) ρ3 fun kvs ρ4=>Q i ((k,d) :: kvs) ρ4) (fun i=>?_) hx fun y ρ2 h2=>Wi h2 fun d ρ3 h3=>JU2 (fun p hp=>hc p (List.mem_cons_of_mem _ hp)) h3 hx fun kvs ρ4 h4=>hq _ _ h4⟩
    obtain ⟨kd',k',f1,f2,q⟩:=h1 i
    rw [e1] at f1; cases f1
    rw [e2] at f2; cases f2
    exact q
theorem Rj {ps : List (AE × AE)} (h : CPs ps) : CE (Hi ps):=fun h1 hx hq=>JU2 h h1 hx fun kvs ρ1 h2=>V1 h2 fun h3=>hq _ _ h3
end
section
variable {X : Cx} {P : Pm} {k : Nat} {ps : List Str} {x : Str} {p pos : Pos}
theorem JN7 {sp : ASp} (F : Cal X.prog X.w X.K X.mg X.base x k ps sp) (hr : Room k X.A) (hg : Gl X x) (hx : ∀ σ,PassesAt (L2.CX X.prog X.w) X σ (fun cls d H=>P.W cls d σ H)) (hdb : (x == ("__debug__" : Str)) = false:=by decide) :
    QE X P (.Call (.Name x p) [] [] pos) (Ym sp [] J9):=by
  obtain ⟨f,fd,hm,hk,hb,F⟩:=F.ex
  refine ⟨tCallSD (lift X.K sp) [] (fun σ cls d H=>P.W cls d σ H) tNil,⟨fun pins s σ H Q I h=>wpAny_Call_Name_kw (ld_glob I hg hm ?_ hdb)⟩,JYu Hf Sj⟩
  exact PySem.W.callWith_K0 I.kIn hk (run_fnSD (E:=fun σ cls d H=>P.W cls d σ H) (us:=[]) F hr hb .nil (hx σ) I .nil h)
end
section
variable {EA : AX} {ρ : J0} {Q : AK} {DA : AEnds} {x y : A} {ae ao ai ak av : AE} {at_ : AT} {ab : AS} {j : Nat}
def Rq (j : Nat) (x : Int) (y : A) (ρ : J0) (nx : J0 → Prop) : Prop:=∃ k,dat y ρ = some (.int k) ∧ nx (ρ.set j (some (.v (.int (x + k)))))
theorem JYo {x : Int} (h : ρ[j]? = some (some (.v (.int x)))) (k : ae DA.ex ρ fun y ρ1=>Rq j x y ρ1 DA.nx) : JXy j ae DA ρ:=⟨x,h,k⟩
theorem El {x k : Int} {nx : J0 → Prop} (h : dat y ρ = some (.int k)) (q : nx (ρ.set j (some (.v (.int (x + k)))))) : Rq j x y ρ nx:=⟨k,h,q⟩
theorem Dx (k : ao EA ρ fun o ρ1=>isL o ρ1 (ai EA ρ1 fun iv ρ2=>ae EA ρ2 fun x ρ3=>Yd x ρ3 fun d ρ4=>Nh o iv d ρ4 Q)) : Hg ao ai ae EA ρ Q:=k
theorem An {xs : List D} {iv : A} {d : D} {k : Int} (h1 : ρ[j]? = some (some (.lst xs))) (h2 : dat iv ρ = some (.int k)) (h3 : 0 ≤ k ∧ k < 2 ^ 63 ∧ xs.length ≤ 100000) (q : Q (.v .non) (ρ.set j (some (.lst (xs.take k.toNat ++ [d] ++ xs.drop k.toNat))))) : Nh (.loc j) iv d ρ Q:=⟨j,xs,k,rfl,h1,h2,h3.1,h3.2.1,h3.2.2,q⟩
theorem JJ0 {xs : List D} {k : Int} (h2 : dat y ρ = some (.int k)) (h3 : 0 ≤ k ∧ xs.length * k.toNat ≤ 100000 ∧ k ≤ 100000) (q : Q (.lst (List.replicate k.toNat xs).flatten) ρ) : Lj (.lst xs) y ρ Q:=⟨xs,k,rfl,h2,h3.1,h3.2.1,h3.2.2,q⟩
theorem JYe {xs : List D} {k : Int} (h1 : dat x ρ = some (.tup xs)) (h2 : dat y ρ = some (.int k)) (h3 : xs ≠ [] ∧ 1 ≤ k ∧ k ≤ 1000 ∧ xs.length ≤ 1000) (q : Q (.v (.tup (List.replicate k.toNat xs).flatten)) ρ) : JFi x y ρ Q:=⟨xs,k,h1,h2,h3.1,h3.2.1,h3.2.2.1,h3.2.2.2,q⟩
def C7 (x : A) (ρ : J0) (Q : AK) : Prop:=∃ xs,dat x ρ = some (.tup xs) ∧ Q (.v (.tup xs.reverse)) ρ
theorem Ex (k : ae EA ρ fun x ρ1=>C7 x ρ1 Q) : JLg ae EA ρ Q:=k
theorem Es {xs : List D} (h : dat x ρ = some (.tup xs)) (k : Q (.v (.tup xs.reverse)) ρ) : C7 x ρ Q:=⟨xs,h,k⟩
def Nm (x : A) (k : Key → Prop) : Prop:=∃ kd ky,x = .v kd ∧ keyD kd = some ky ∧ k ky
theorem Td {ps : List (AE × AE)} (k : Z5 ps EA ρ fun kvs ρ1=>kvs.length ≤ 15 ∧ Q (.dic (M7 kvs)) ρ1) : Hi ps EA ρ Q:=k
theorem A8 {q : List (Key × D) → J0 → Prop} (k : q [] ρ) : Z5 [] EA ρ q:=k
theorem Ri {ps : List (AE × AE)} {q : List (Key × D) → J0 → Prop} (k : ak EA ρ fun x ρ1=>Nm x fun ky=>av EA ρ1 fun y ρ2=>Yd y ρ2 fun d ρ3=>Z5 ps EA ρ3 fun kvs ρ4=>q ((ky,d) :: kvs) ρ4) : Z5 ((ak,av) :: ps) EA ρ q:=by
  simp only [Z5]
  unfold Nm at k
  simp only [← exists_and_left,← and_assoc] at k ⊢
  exact k
theorem JV1 {kd : D} {ky : Key} {q : Key → Prop} (h : keyD kd = some ky) (k : q ky) : Nm (.v kd) q:=⟨kd,ky,rfl,h,k⟩
theorem evI {a : AS} {O : List Nat} {n m : Nat} {xs : List A} {R : A} (hl : xs.length = m) (h : ∀ DA : AEnds,(∀ r ρ,fin O 0 xs ρ = some xs → r = R → DA.rt r ρ) → (∀ ρ,fin O 0 xs ρ = some xs → R = .v .non → DA.nx ρ) → a DA (Yn n xs)) : Ev (spS a O n m) xs R :=
  Sat.mk' hl (h _ (fun r ρ h1 h2=>⟨_,h1,rfl,h2⟩) fun ρ h1 h2=>⟨_,h1,rfl,h2.symm⟩)
end
end Vs
namespace Vs
open PySem PySem.Spec PyProof.Rows L2
variable [Tbs]
section
variable {DA : AEnds} {ρ : J0} {G : J0 → Prop} {ag : AG} {ab : AS}
theorem ints_cons {lo : Int} {n : Nat} : W7 lo (n + 1) = .int lo :: W7 (lo + 1) n:=by
  unfold W7
  rw [List.range_succ_eq_map,List.map_cons,List.map_map]
  simp only [Int.natCast_zero,Int.add_zero,List.cons.injEq,true_and]
  refine List.map_congr_left fun i _=>?_
  simp only [Function.comp]
  congr 1
  push_cast
  omega
/-- for k in range(n) -/
theorem Rc {n : Nat} (W : Nat → J0 → Prop) (h0 : ∀ ρ,W n ρ → G ρ ∧ DA.nx ρ)
    (h1 : ∀ k ρ,k < n → W k ρ → ∀ K : J0 → Prop,(∀ ρ,W (k + 1) ρ → K ρ) → G ρ ∧ ag (.int (k : Nat)) ρ fun ρ'=>ab { DA with nx:=K,ct:=K,bk:=DA.nx } ρ') : ∀ (r k : Nat) (ρ : J0),k + r = n → W k ρ → forA G ag ab DA (W7 (k : Nat) r) ρ
  | 0, k, ρ, e, w => h0 ρ (by have : k = n := by omega
                              rw [← this]; exact w)
  | r + 1,k,ρ,e,w=>by
    rw [ints_cons]
    refine h1 k ρ (by omega) w _ fun ρ' w'=>?_
    have:=Rc W h0 h1 r (k + 1) ρ' (by omega) w'
    rw [show ((k + 1 : Nat) : Int) = (k : Int) + 1 by omega] at this
    exact this
theorem JF2 {n : Nat} (W : Nat → J0 → Prop) (h0 : ∀ ρ,W n ρ → G ρ ∧ DA.nx ρ)
    (h1 : ∀ k ρ,k < n → W k ρ → ∀ K : J0 → Prop,(∀ ρ,W (k + 1) ρ → K ρ) → G ρ ∧ ag (.int (k : Nat)) ρ fun ρ'=>ab { DA with nx:=K,ct:=K,bk:=DA.nx } ρ') (w : W 0 ρ) : forA G ag ab DA (W7 0 n) ρ:=Rc W h0 h1 n 0 ρ (by omega) w
theorem E1 {k : Int} {xs : List D} (h : 0 ≤ k ∧ k < 2 ^ 63 ∧ xs.length ≤ 100000) : 0 ≤ k ∧ k < 2 ^ 63 ∧ xs.length ≤ 100000:=h
theorem Ee {kvs : List (Key × D)} {p : Prop} (h : kvs.length ≤ 15) (k : p) : kvs.length ≤ 15 ∧ p:=⟨h,k⟩
end
end Vs
namespace Vs
open PySem PySem.Spec PyProof.Rows L2
variable [Tbs]
mutual
theorem RepA.noX {K : Fg} {S H : Hp} {dd : Addr} {ws : List (Str × V)} (hd : H dd = some (.xd ws)) : ∀ (x : A) (v : V) (fp : List Addr),RepA K S H x v fp → dd ∉ fp
  | .v d,v,fp,h=>by
    simp only [RepA] at h
    rw [h.2]; simp
  | .lst xs,v,fp,h=>by
    simp only [RepA] at h
    obtain ⟨b,vs,_,h1,_,rfl⟩:=h
    intro m
    rw [List.mem_singleton] at m
    rw [m,h1] at hd; cases hd
  | .dic kvs,v,fp,h=>by
    simp only [RepA] at h
    obtain ⟨b,vs,_,h1,_,rfl⟩:=h
    intro m
    rw [List.mem_singleton] at m
    rw [m,h1] at hd; cases hd
  | .obj C fs,v,fp,h=>by
    simp only [RepA] at h
    obtain ⟨b,dx,vs,g,_,h1,h2,rfl⟩:=h
    intro m
    rcases List.mem_cons.mp m with m | m
    · rw [m,h1] at hd; cases hd
    · exact RepAF.noX hd fs vs g h2 m
  | .loc _,v,fp,h=>by simp only [RepA] at h
  | .nl xs,v,fp,h=>by
    simp only [RepA] at h
    obtain ⟨b,vs,g,_,h1,h2,rfl⟩:=h
    intro m
    rcases List.mem_cons.mp m with m | m
    · rw [m,h1] at hd; cases hd
    · exact RepAL.noX hd xs vs g h2 m
  | .nd xs,v,fp,h=>by
    simp only [RepA] at h
    obtain ⟨b,vs,g,_,h1,h2,rfl⟩:=h
    intro m
    rcases List.mem_cons.mp m with m | m
    · rw [m,h1] at hd; cases hd
    · exact RepAK.noX hd xs vs g h2 m
  | .nt xs,v,fp,h=>by
    simp only [RepA] at h
    obtain ⟨b,vs,g,_,h1,h2,rfl⟩:=h
    intro m
    rcases List.mem_cons.mp m with m | m
    · rw [m,h1] at hd; cases hd
    · exact RepAL.noX hd xs vs g h2 m
  | .cel w x,v,fp,h=>by
    simp only [RepA] at h
    exact RepA.noX hd x v fp h.2.2
  | .pth _ _ w,v,fp,h=>by
    simp only [RepA] at h
    rw [h.2.2]; simp
theorem RepAF.noX {K : Fg} {S H : Hp} {dd : Addr} {ws : List (Str × V)} (hd : H dd = some (.xd ws)) : ∀ (xs : List (Str × A)) (vs : List (Str × V)) (fp : List Addr),RepAF K S H xs vs fp → dd ∉ fp
  | [],vs,fp,h=>by
    simp only [RepAF] at h
    rw [h.2]; simp
  | (k,x) :: xs,vs,fp,h=>by
    simp only [RepAF] at h
    obtain ⟨v,r,g,g',_,h1,h2,rfl⟩:=h
    intro m
    rcases List.mem_append.mp m with m | m
    · exact RepA.noX hd x v g h1 m
    · exact RepAF.noX hd xs r g' h2 m
theorem RepAL.noX {K : Fg} {S H : Hp} {dd : Addr} {ws : List (Str × V)} (hd : H dd = some (.xd ws)) : ∀ (xs : List A) (vs : List V) (fp : List Addr),RepAL K S H xs vs fp → dd ∉ fp
  | [],vs,fp,h=>by
    simp only [RepAL] at h
    rw [h.2]; simp
  | x :: xs,vs,fp,h=>by
    simp only [RepAL] at h
    obtain ⟨v,r,g,g',_,h1,h2,rfl⟩:=h
    intro m
    rcases List.mem_append.mp m with m | m
    · exact RepA.noX hd x v g h1 m
    · exact RepAL.noX hd xs r g' h2 m
theorem RepAK.noX {K : Fg} {S H : Hp} {dd : Addr} {ws : List (Str × V)} (hd : H dd = some (.xd ws)) : ∀ (xs : List (Key × A)) (vs : List (Key × V)) (fp : List Addr),RepAK K S H xs vs fp → dd ∉ fp
  | [],vs,fp,h=>by
    simp only [RepAK] at h
    rw [h.2]; simp
  | (k,x) :: xs,vs,fp,h=>by
    simp only [RepAK] at h
    obtain ⟨v,r,g,g',_,h1,h2,rfl⟩:=h
    intro m
    rcases List.mem_append.mp m with m | m
    · exact RepA.noX hd x v g h1 m
    · exact RepAK.noX hd xs r g' h2 m
end
theorem RepP.noX {K : Fg} {S H : Hp} {dd : Addr} {ws : List (Str × V)} (hd : H dd = some (.xd ws)) : ∀ {ps : List (V × A)} {fp : List Addr},RepP K S H ps fp → dd ∉ fp:=by
  intro ps
  induction ps with
  | nil=>intro fp h; cases h; simp
  | cons x ps ih =>
    obtain ⟨v,x⟩:=x
    intro fp h m
    obtain ⟨g,h',h1,h2,h3⟩:=h
    subst h3
    rcases List.mem_append.mp m with q | q
    · exact RepA.noX hd x v g h1 q
    · exact ih h2 q
section
variable {X : Cx} {P : Pm} {K : Fg} {pos : Pos}
def OX (K : Fg) (O : OL) (i : Nat) (a dd : Addr) (ws : List (Str × V)) (fs : List (Str × D)) : OL:=⟨i :: O.l,fun S H σ=>O.J S H σ ∧ σ[i]? = some (some (.ref a)) ∧ H dd = some (.xd ws) ∧ RepF K S fs ws,fun S H σ d o ws' h1 ⟨h2,h3,h4,h5⟩=>⟨O.un S H σ d o ws' h1 h2,h3,by
  by_cases e : dd = d
  · rw [e,upd_same] at h4
    cases h4
  · rwa [upd_ne e] at h4,h5⟩⟩
def noW : WX:=fun _ _ _ _=>False
def aXf (fs : List (Str × D)) (f : Str) : AE:=fun _ ρ Q=>∃ d,fs.lookup f = some d ∧ Q (.v d) ρ
variable {i : Nat} {a dd C : Addr} {ws : List (Str × V)} {fs : List (Str × D)}
theorem Sx {W : WX} {O : OL} {f n : Str} {oe : Obj} {pn : List (Addr × Obj)} {np : Pos} (T : XfC X.K C) (hno : PySem.W.findIn X.K (.ref C) f = some none) (hz : Zc (.ref C) (some dd) oe) (hf : ∃ vs,oe.data = .fields vs) (hN : X.N[i]? = some n:=by rfl) (hv : Vis X.env.scope n:=by first | exact Or.inl rfl | exact Or.inr (Or.inl rfl) | exact Or.inr (Or.inr rfl)) (hd : (n == ("__debug__" : Str)) = false:=by decide) (hcd : (n == ("__classdict__" : Str)) = false:=by decide)
    (hb : attributeBase (.Name n np) f X.env (eval (.Name n np) X.env) = eval (.Name n np) X.env:=by rfl) : QE (X.suite a ((a,oe) :: pn)) ⟨W,OX X.K O i a dd ws fs⟩ (.Attribute (.Name n np) f pos) (aXf fs f):=by
  refine ⟨_,pe_xf T hno hz hf (pe_var hN hv hd hcd) hb,fun c EA ho hw τ S H σ ρ Q R s q k=>?_⟩
  obtain ⟨_,h1,h2,h3⟩:=ho.2.2 S H σ ρ τ s
  refine ⟨.ref a,h1,rfl,rfl,?_⟩
  obtain ⟨d,h4,q⟩:=q
  rcases Lv (m:=f) h3 with ⟨e1,_⟩ | ⟨d',u,e1,e2,e3⟩
  · rw [e1] at h4; cases h4
  · rw [h4] at e1
    cases e1
    exact ⟨dd,ws,u,rfl,h2,e2,k _ _ ⟨S,ρ,.v d,s.hold e3,q⟩⟩
theorem Q5 {fs : List (Str × D)} {f : Str} : CE (aXf fs f):=fun {ι} _ EA EA' ρ Q Q' h ce cq=>by
  obtain ⟨i,_⟩:=i0 (ι:=ι)
  obtain ⟨d,e,_⟩:=h i
  refine ⟨d,e,cq _ _ fun i=>?_⟩
  obtain ⟨d',e',q⟩:=h i
  rw [e] at e'
  cases e'
  exact q
def Bl (i : Nat) (DA : AEnds) : AEnds:={ nx:=fun ρ=>DA.nx (ρ.set i none),rt:=DA.rt,bk:=fun ρ=>DA.bk (ρ.set i none),ct:=fun ρ=>DA.ct (ρ.set i none),ex:=fun _ _ _=>False }
def Gx (K : Fg) (C : Addr) (i : Nat) (su : List (Str × D) → AS) (DA : AEnds) : AEnds:={ DA with ex:=fun C' fs ρ'=>∃ b,PySem.W.exmOne K (.ref C') (.ref C) = some b ∧ (b = true → C' = C ∧ fs ≠ [] ∧ i < ρ'.length ∧ su fs (Bl i DA) (ρ'.set i none)) ∧ (b = false → DA.ex C' fs ρ') }
def G3 (K : Fg) (C : Addr) (i : Nat) (ab : AS) (su : List (Str × D) → AS) : AS:=fun DA ρ=>ab (Gx K C i su DA) ρ
/-- the context of a suite -/
def cxS (c : Ctx) (S : Hp) (i : Nat) (a dd : Addr) (ws : List (Str × V)) : Ctx:=⟨upd c.R dd (.xd ws),S,(i,.ref a) :: c.os⟩
theorem Stt.suOff {c : Ctx} {S S' H H' : Hp} {σ σ' : L2.St} {ρ ρ' : J0} {τ τ' : List (V × A)} (s : Stt K c S H σ ρ τ) (hd : H dd = some (.xd ws)) (t : Stt K (cxS c S i a dd ws) S' H' σ' ρ' τ') : Stt K c S' H' σ' ρ' τ':=by
  have hR : ∀ b,c.R b ≠ none → upd c.R dd (.xd ws) b = c.R b:=fun b hb=>by
    by_cases e : b = dd
    · subst e
      rw [upd_same]
      cases h : c.R b with
      | none=>exact absurd h hb
      | some o =>
        have:=s.r b o h
        rw [hd] at this
        rw [this]
    · rw [upd_ne e]
  obtain ⟨fp,r,nd,h3⟩:=t.own
  refine ⟨⟨fp,r,nd,fun b hb=>⟨(h3 b hb).1,?_⟩⟩,t.env,t.loc,t.le,fun b o e=>?_,fun b hb=>?_,fun b o e=>t.up b o (s.up b o e),fun p m=>t.os p (List.mem_cons_of_mem _ m),Tb.bk t.tb⟩
  · cases h : c.R b with
    | none=>rfl
    | some o =>
      have h1:=(h3 b hb).2
      have h2:=hR b (by rw [h]; exact fun z=>nomatch z)
      have h1' : upd c.R dd (.xd ws) b = none:=h1
      rw [h2,h] at h1'
      cases h1'
  · refine t.r b o ?_
    show upd c.R dd (.xd ws) b = some o
    rw [hR b (by rw [e]; exact fun z=>nomatch z)]
    exact e
  · have h1 : S' b = S b:=t.new b (by
      show upd c.R dd (.xd ws) b ≠ none
      rw [hR b hb]
      exact hb)
    rw [h1]
    exact s.new b hb
theorem Stt.suOn {c : Ctx} {S H : Hp} {σ : L2.St} {ρ : J0} (s : Stt K c S H σ ρ []) (hd : H dd = some (.xd ws)) (hi : ρ[i]? = some none) (hs : ∀ p ∈ c.os,p.1 ≠ i) (hσ : σ[i]? = some (some (.ref a))) : Stt K (cxS c S i a dd ws) S H σ ρ []:=by
  obtain ⟨fp,r,nd,h3⟩:=s.own
  have nfp : ∀ b ∈ fp,b ≠ dd:=fun b hb z=>RepP.noX hd r (z ▸ hb)
  refine ⟨⟨fp,r,nd,fun b hb=>⟨(h3 b hb).1,?_⟩⟩,s.env,s.loc,s.le,fun b o e=>?_,fun b hb=>rfl,fun b o e=>e,fun p m=>?_,s.tb.lk hd rfl⟩
  · show upd c.R dd (.xd ws) b = none
    rw [upd_ne (nfp b hb)]
    exact (h3 b hb).2
  · have e' : upd c.R dd (.xd ws) b = some o:=e
    by_cases q : b = dd
    · rw [q,upd_same] at e'
      rw [q,hd]
      exact e'
    · rw [upd_ne q] at e'
      exact s.r b o e'
  · rcases List.mem_cons.mp m with e | m
    · rw [e]; exact hσ
    · exact s.os p m
theorem Stt.slotN {c : Ctx} {S H : Hp} {σ : L2.St} {ρ : J0} {i : Nat} {w : Option V} (s : Stt K c S H σ ρ []) (hs : ∀ p ∈ c.os,p.1 ≠ i) : Stt K c S H (σ.set i w) (ρ.set i none) []:=by
  have z:=s.clear i (by simp)
  have ev : EnvOk (ρ.set i none) (σ.set i w):=by
    have y:=z.env.store (i:=i) (o:=none) (w:=w) fun _ e=>(nomatch e)
    rwa [set_set] at y
  refine ⟨?_,ev,fun _ _ m=>by simp at m,z.le,z.r,z.new,z.up,fun p m=>?_,z.tb⟩
  · have e2:=Pw (ρ:=ρ) (σ:=σ) (i:=i) (w:=w)
    rw [e2]
    exact z.own
  · rw [List.getElem?_set_ne (Ne.symm (hs p m))]
    exact z.os p m
theorem E6 {x n : Str} {body suite : List Stmt} {b₀ : Stmt} {ab : AS} {su : List (Str × D) → AS} {np pos' : Pos} (hs : X.stack = X.env :: X.outer) (hf : X.env.frame = some X.env.locals) (hN : X.N.Nodup) (hi : X.N[i]? = some n) (hln : X.env.kindOf n = some .local) (hO : i ∉ P.O) (hg : Gl X x) (hm : X.mg x = some (.ref C)) (tk : Takes X P.W)
    (hb : ∀ (W : WX) (pn : List (Addr × Obj)) (xe : Value → Shared → Prop),Takes (X.tr pn xe) W → PassesOwn (model X.prog X.w) X.A X.env xe → QSs (X.tr pn xe) ⟨W,P.O⟩ body ab)
    (hsu : ∀ (a : Addr) (oe : Obj) (dd : Addr) (pn : List (Addr × Obj)) (ws : List (Str × V)) (fs : List (Str × D)),Zc (.ref C) (some dd) oe → (∃ vs,oe.data = .fields vs) → QSs (X.suite a ((a,oe) :: pn)) ⟨noW,OX X.K P.O i a dd ws fs⟩ (b₀ :: suite) (su fs)) (hdb : (x == ("__debug__" : Str)) = false:=by decide) :
    QS X P (.Try body [.ExceptHandler (some (.Name x np)) (some n) (b₀ :: suite) pos'] [] [] pos) (G3 X.K C i ab su):=by
  refine ⟨_,ps_try_as (tb:=fun W=>Aj X.K ⟨W,P.O⟩ ab) (ts:=fun a cls d D σ H=>∃ c DA S ρ dd ws fs,cls = .ref C ∧ d = some dd ∧ OsIn X.K c (OX X.K P.O i a dd ws fs) ∧ Link X.K c D DA ∧ XOk X.K c noW DA.ex ∧ Stt X.K c S H σ ρ [] ∧ su fs DA ρ) hs hf hN hi hln ⟨hg,hdb,.inl hm⟩ tk (fun W pn xe h1 h2=>JHj (hb W pn xe h1 h2)) (fun a oe cls d pn hz hfs=>?_),fun c D DA ho hw l S H σ ρ st q=>?_⟩
  · refine ⟨fun pins s σ H D I h=>?_⟩
    obtain ⟨c,DA,S,ρ,dd,ws,fs,rfl,rfl,h1,h2,h3,h4,h5⟩:=h
    obtain ⟨t,p,sm⟩:=(hsu a oe dd pn ws fs hz hfs).ex
    exact p.run pins s σ H D I (sm c D DA h1 h3 h2 S H σ ρ h4 h5)
  · refine ⟨c,Gx X.K C i su DA,S,ρ,ho,?_,⟨l.nx,l.rt,l.bk,l.ct⟩,st,q⟩
    rintro S' H' σ' ρ' C' fs dd st' xd ⟨b,hb1,hb2,hb3⟩
    refine ⟨b,hb1,fun e1 a ha=>?_,fun e1=>hw S' H' σ' ρ' C' fs dd st' xd (hb3 e1)⟩
    obtain ⟨rfl,hne,hil,hq⟩:=hb2 e1
    rcases xd with ⟨rfl,rfl⟩ | ⟨d',ws,rfl,hw',rf⟩
    · exact absurd rfl hne
    · have st2 : Stt X.K c S' H' (σ'.set i (some (.ref a))) (ρ'.set i none) []:=st'.slotN (ho.ne hO)
      have hlt : i < σ'.length:=by rw [st'.env.len]; exact hil
      have hσ : (σ'.set i (some (.ref a)))[i]? = some (some (V.ref a)):=by rw [List.getElem?_set_self hlt]
      have st3:=st2.suOn (i:=i) (a:=a) hw' (by rw [List.getElem?_set_self hil]) (ho.ne hO) hσ
      refine ⟨cxS c S' i a d' ws,Bl i DA,S',_,d',ws,fs,rfl,rfl,⟨fun p m=>?_,fun j hj=>?_,fun S2 H2 σ2 ρ2 τ2 t=>⟨?_,?_,?_,?_⟩⟩,⟨fun S2 H2 σ2 ρ2 t e=>?_,fun S2 H2 σ2 ρ2 v2 x2 t e1 e2=>l.rt S2 H2 σ2 ρ2 v2 x2 (st2.suOff hw' t) e1 e2,fun S2 H2 σ2 ρ2 t e=>?_,fun S2 H2 σ2 ρ2 t e=>?_⟩,fun _ _ _ _ _ _ _ _ _ z=>z.elim,st3,hq⟩
      · rcases List.mem_cons.mp m with e | m
        · rw [e]; exact List.mem_cons_self
        · exact List.mem_cons_of_mem _ (ho.1 p m)
      · rcases List.mem_cons.mp hj with e | hj
        · rw [e]; exact ⟨_,List.mem_cons_self⟩
        · obtain ⟨v,hv⟩:=ho.2.1 j hj
          exact ⟨v,List.mem_cons_of_mem _ hv⟩
      · exact ho.2.2 S2 H2 σ2 ρ2 τ2 (st2.suOff hw' t)
      · exact t.os (i,.ref a) List.mem_cons_self
      · exact t.r d' _ (show upd c.R d' (.xd ws) d' = some (.xd ws) from upd_same)
      · exact RepF.le (Le.of_same t.up) _ _ rf
      · exact l.nx S2 H2 _ _ ((st2.suOff hw' t).slotN (ho.ne hO)) e
      · exact l.bk S2 H2 _ _ ((st2.suOff hw' t).slotN (ho.ne hO)) e
      · exact l.ct S2 H2 _ _ ((st2.suOff hw' t).slotN (ho.ne hO)) e
theorem Su {a : AS} {su : List (Str × D) → AS} {j : Nat} (ha : CS a) (hu : ∀ fs,CS (su fs)) : CS (G3 K C j a su):=fun {ι} _ DA D' ρ h c=>ha h ⟨c.nx,c.rt,c.bk,c.ct,fun C' fs ρ' z=>by
  obtain ⟨i,_⟩:=i0 (ι:=ι)
  obtain ⟨b,e,h1,h2⟩:=z i
  have hz : ∀ i,(b = true → C' = C ∧ fs ≠ [] ∧ j < ρ'.length ∧ su fs (Bl j (DA i)) (ρ'.set j none)) ∧ (b = false → (DA i).ex C' fs ρ'):=fun i=>by
    obtain ⟨b',e',g⟩:=z i
    rw [e] at e'
    cases e'
    exact g
  refine ⟨b,e,fun hb=>?_,fun hb=>c.ex _ _ _ fun i=>(hz i).2 hb⟩
  obtain ⟨q1,q2,q3,_⟩:=h1 hb
  exact ⟨q1,q2,q3,hu fs (fun i=>((hz i).1 hb).2.2.2) ⟨fun ρ h=>c.nx _ h,fun x ρ h=>c.rt x ρ h,fun ρ h=>c.bk _ h,fun ρ h=>c.ct _ h,fun _ _ _ h=>h i⟩⟩⟩
theorem Ez {DA : AEnds} {ρ : J0} {a : AS} {su : List (Str × D) → AS} {j : Nat} (h : a (Gx K C j su DA) ρ) : G3 K C j a su DA ρ:=h
theorem JWx {DA : AEnds} {ρ : J0} {su : List (Str × D) → AS} {j : Nat} {fs : List (Str × D)} (h : PySem.W.exmOne K (.ref C) (.ref C) = some true) (hne : fs ≠ []) (hj : j < ρ.length) (k : su fs (Bl j DA) (ρ.set j none)) : (Gx K C j su DA).ex C fs ρ:=⟨true,h,fun _=>⟨rfl,hne,hj,k⟩,fun z=>nomatch z⟩
theorem Rr {EA : AX} {ρ : J0} {Q : AK} {fs : List (Str × D)} {f : Str} {d : D} (h : fs.lookup f = some d) (k : Q (.v d) ρ) : aXf fs f EA ρ Q:=⟨d,h,k⟩
end
end Vs
namespace Vs
open PySem PySem.Spec PyProof.Rows L2
variable [Tbs]
section
variable {X : Cx} {P : Pm} {K : Fg} {pos : Pos}
def JK4 : AR2:=fun x y ρ Q=>∃ m n,dat x ρ = some (.bl m) ∧ dat y ρ = some (.bl n) ∧ Q (.v (.bl (decide (m = n)))) ρ
def JGn : AR2:=fun x y ρ Q=>∃ m n,dat x ρ = some (.bl m) ∧ dat y ρ = some (.bl n) ∧ Q (.v (.bl (!decide (m = n)))) ρ
theorem JYp {x y : A} {ρ : J0} {Q : AK} {m n : Bool} (h1 : dat x ρ = some (.bl m)) (h2 : dat y ρ = some (.bl n)) (k : Q (.v (.bl (decide (m = n)))) ρ) : JK4 x y ρ Q:=⟨m,n,h1,h2,k⟩
theorem R5 {x y : A} {ρ : J0} {Q : AK} {m n : Bool} (h1 : dat x ρ = some (.bl m)) (h2 : dat y ρ = some (.bl n)) (k : Q (.v (.bl (!decide (m = n)))) ρ) : JGn x y ρ Q:=⟨m,n,h1,h2,k⟩
theorem C9 {K : Fg} {C : Addr} {j : Nat} {su : List (Str × D) → AS} {DA : AEnds} {ρ : J0} (k : DA.nx ρ) : (Gx K C j su DA).nx ρ:=k
theorem D7 {j : Nat} {DA : AEnds} {ρ : J0} (k : DA.nx (ρ.set j none)) : (Bl j DA).nx ρ:=k
end
end Vs
namespace Vs
open PySem PySem.Spec PyProof.Rows L2
variable [Tbs]
abbrev HdL:=List (Value × Option Nat × (Addr → Value → Option Addr → TS))
def JL3 : Option Nat → Ends → Ends
  | none,D=>D
  | some i,D=>{ nx:=fun σ H=>D.nx (σ.set i none) H,rt:=D.rt,bk:=fun σ H=>D.bk (σ.set i none) H,ct:=fun σ H=>D.ct (σ.set i none) H }
def dSt : Option Nat → Addr → L2.St → L2.St
  | none,_,σ=>σ
  | some i,a,σ=>σ.set i (some (.ref a))
def Da (K : Fg) (Wout : WX) (D : Ends) : HdL → WX
  | []=>Wout
  | (c,o,ts) :: r=>fun cls d σ H=>∃ b,PySem.W.exmOne K cls c = some b ∧ (b = true → ∀ a,H a = none → ts a cls d (JL3 o D) (dSt o a σ) H) ∧ (b = false → Da K Wout D r cls d σ H)
inductive Hds (X : Cx) : List ExceptHandler → HdL → Prop
  | nil : Hds X [] []
  | as {x n : Str} {c : Value} {i : Nat} {ts : Addr → Value → Option Addr → TS} {b₀ : Stmt} {suite : List Stmt} {np pos' : Pos} {hds : List ExceptHandler} {l : HdL} (hi : X.N[i]? = some n) (hln : X.env.kindOf n = some .local) (hc : Names X x c)
      (hsu : ∀ (a : Addr) (oe : Obj) (cls : Value) (d : Option Addr) (pn : List (Addr × Obj)),Zc cls d oe → (∃ vs,oe.data = .fields vs) → PSs (X.suite a ((a,oe) :: pn)) (b₀ :: suite) (ts a cls d)) (r : Hds X hds l) :
      Hds X (.ExceptHandler (some (.Name x np)) (some n) (b₀ :: suite) pos' :: hds) ((c,some i,ts) :: l)
  | only {x : Str} {c : Value} {ts : Addr → Value → Option Addr → TS} {b₀ : Stmt} {suite : List Stmt} {np pos' : Pos} {hds : List ExceptHandler} {l : HdL} (hc : Names X x c)
      (hsu : ∀ (a : Addr) (oe : Obj) (cls : Value) (d : Option Addr) (pn : List (Addr × Obj)),Zc cls d oe → (∃ vs,oe.data = .fields vs) → PSs (X.suite a ((a,oe) :: pn)) (b₀ :: suite) (ts a cls d)) (r : Hds X hds l) :
      Hds X (.ExceptHandler (some (.Name x np)) none (b₀ :: suite) pos' :: hds) ((c,none,ts) :: l)
end Vs
namespace Vs
open PySem PySem.Spec PyProof.Rows L2
variable [Tbs]
abbrev HL:=List (Addr × Option Nat × (List (Str × D) → AS))
def JVg : Option Nat → AEnds → AEnds
  | none,DA=>{ DA with ex:=fun _ _ _=>False }
  | some i,DA=>Bl i DA
def hSt : Option Nat → J0 → J0
  | none,ρ=>ρ
  | some i,ρ=>ρ.set i none
def hOk : Option Nat → List (Str × D) → J0 → Prop
  | none,_,_=>True
  | some i,fs,ρ=>fs ≠ [] ∧ i < ρ.length
def hEx (K : Fg) (DA : AEnds) : HL → AX
  | []=>DA.ex
  | (C,o,su) :: r=>fun C' fs ρ=>∃ b,PySem.W.exmOne K (.ref C') (.ref C) = some b ∧ (b = true → C' = C ∧ hOk o fs ρ ∧ su fs (JVg o DA) (hSt o ρ)) ∧ (b = false → hEx K DA r C' fs ρ)
def Lq (K : Fg) (l : HL) (DA : AEnds) : AEnds:={ DA with ex:=hEx K DA l }
def JMm (K : Fg) (l : HL) (ab : AS) : AS:=fun DA ρ=>ab (Lq K l DA) ρ
section
variable {X : Cx} {P : Pm} {K : Fg} {pos : Pos}
inductive QHds (X : Cx) (P : Pm) : List ExceptHandler → HL → Prop
  | nil : QHds X P [] []
  | as {x n : Str} {C : Addr} {i : Nat} {su : List (Str × D) → AS} {b₀ : Stmt} {suite : List Stmt} {np pos' : Pos} {hds : List ExceptHandler} {l : HL} (hi : X.N[i]? = some n) (hln : X.env.kindOf n = some .local) (hO : i ∉ P.O) (hg : Gl X x) (hm : X.mg x = some (.ref C)) (hdb : (x == ("__debug__" : Str)) = false)
      (hsu : ∀ (a : Addr) (oe : Obj) (dd : Addr) (pn : List (Addr × Obj)) (ws : List (Str × V)) (fs : List (Str × D)),Zc (.ref C) (some dd) oe → (∃ vs,oe.data = .fields vs) → QSs (X.suite a ((a,oe) :: pn)) ⟨noW,OX X.K P.O i a dd ws fs⟩ (b₀ :: suite) (su fs)) (r : QHds X P hds l) :
      QHds X P (.ExceptHandler (some (.Name x np)) (some n) (b₀ :: suite) pos' :: hds) ((C,some i,su) :: l)
  | only {x : Str} {C : Addr} {su : List (Str × D) → AS} {b₀ : Stmt} {suite : List Stmt} {np pos' : Pos} {hds : List ExceptHandler} {l : HL} (hg : Gl X x) (hm : X.mg x = some (.ref C)) (hdb : (x == ("__debug__" : Str)) = false)
      (hsu : ∀ (a : Addr) (oe : Obj) (pn : List (Addr × Obj)) (fs : List (Str × D)),QSs (X.suite a ((a,oe) :: pn)) ⟨noW,P.O⟩ (b₀ :: suite) (su fs)) (r : QHds X P hds l) :
      QHds X P (.ExceptHandler (some (.Name x np)) none (b₀ :: suite) pos' :: hds) ((C,none,su) :: l)
theorem QHds.go {hds : List ExceptHandler} {l : HL} (h : QHds X P hds l) : ∃ l',Hds X hds l' ∧ ∀ c D DA,OsIn X.K c P.O → Link X.K c D DA → ∀ Wout,XOk X.K c Wout DA.ex → XOk X.K c (Da X.K Wout D l') (hEx X.K DA l):=by
  induction h with
  | nil=>exact ⟨[],.nil,fun c D DA _ _ Wout hw=>hw⟩
  | @as x n C i su b₀ suite np pos' hds l hi hln hO hg hm hdb hsu r ih =>
    obtain ⟨l',h1,h2⟩:=ih
    refine ⟨_,.as (ts:=fun a cls d D σ H=>∃ c DA S ρ dd ws fs,cls = .ref C ∧ d = some dd ∧ OsIn X.K c (OX X.K P.O i a dd ws fs) ∧ Link X.K c D DA ∧ XOk X.K c noW DA.ex ∧ Stt X.K c S H σ ρ [] ∧ su fs DA ρ) hi hln ⟨hg,hdb,.inl hm⟩ (fun a oe cls d pn hz hfs=>⟨fun pins s σ H D I h=>?_⟩) h1,fun c D DA ho l Wout hw=>?_⟩
    · obtain ⟨c,DA,S,ρ,dd,ws,fs,rfl,rfl,g1,g2,g3,g4,g5⟩:=h
      obtain ⟨t,p,sm⟩:=(hsu a oe dd pn ws fs hz hfs).ex
      exact p.run pins s σ H D I (sm c D DA g1 g3 g2 S H σ ρ g4 g5)
    · rintro S' H' σ' ρ' C' fs dd st' xd ⟨b,hb1,hb2,hb3⟩
      refine ⟨b,hb1,fun e1 a ha=>?_,fun e1=>h2 c D DA ho l Wout hw S' H' σ' ρ' C' fs dd st' xd (hb3 e1)⟩
      obtain ⟨rfl,⟨hne,hil⟩,hq⟩:=hb2 e1
      rcases xd with ⟨rfl,rfl⟩ | ⟨d',ws,rfl,hw',rf⟩
      · exact absurd rfl hne
      · have st2 : Stt X.K c S' H' (σ'.set i (some (.ref a))) (ρ'.set i none) []:=st'.slotN (ho.ne hO)
        have hlt : i < σ'.length:=by rw [st'.env.len]; exact hil
        have hσ : (σ'.set i (some (.ref a)))[i]? = some (some (V.ref a)):=by rw [List.getElem?_set_self hlt]
        have st3:=st2.suOn (i:=i) (a:=a) hw' (by rw [List.getElem?_set_self hil]) (ho.ne hO) hσ
        refine ⟨cxS c S' i a d' ws,Bl i DA,S',_,d',ws,fs,rfl,rfl,⟨fun p m=>?_,fun j hj=>?_,fun S2 H2 σ2 ρ2 τ2 t=>⟨?_,?_,?_,?_⟩⟩,⟨fun S2 H2 σ2 ρ2 t e=>?_,fun S2 H2 σ2 ρ2 v2 x2 t e1 e2=>l.rt S2 H2 σ2 ρ2 v2 x2 (st2.suOff hw' t) e1 e2,fun S2 H2 σ2 ρ2 t e=>?_,fun S2 H2 σ2 ρ2 t e=>?_⟩,fun _ _ _ _ _ _ _ _ _ z=>z.elim,st3,hq⟩
        · rcases List.mem_cons.mp m with e | m
          · rw [e]; exact List.mem_cons_self
          · exact List.mem_cons_of_mem _ (ho.1 p m)
        · rcases List.mem_cons.mp hj with e | hj
          · rw [e]; exact ⟨_,List.mem_cons_self⟩
          · obtain ⟨v,hv⟩:=ho.2.1 j hj
            exact ⟨v,List.mem_cons_of_mem _ hv⟩
        · exact ho.2.2 S2 H2 σ2 ρ2 τ2 (st2.suOff hw' t)
        · exact t.os (i,.ref a) List.mem_cons_self
        · exact t.r d' _ (show upd c.R d' (.xd ws) d' = some (.xd ws) from upd_same)
        · exact RepF.le (Le.of_same t.up) _ _ rf
        · exact l.nx S2 H2 _ _ ((st2.suOff hw' t).slotN (ho.ne hO)) e
        · exact l.bk S2 H2 _ _ ((st2.suOff hw' t).slotN (ho.ne hO)) e
        · exact l.ct S2 H2 _ _ ((st2.suOff hw' t).slotN (ho.ne hO)) e
  | @only x C su b₀ suite np pos' hds l hg hm hdb hsu r ih =>
    obtain ⟨l',h1,h2⟩:=ih
    refine ⟨_,.only (ts:=fun a cls d D σ H=>∃ c DA S ρ fs,OsIn X.K c P.O ∧ Link X.K c D DA ∧ XOk X.K c noW DA.ex ∧ Stt X.K c S H σ ρ [] ∧ su fs DA ρ) ⟨hg,hdb,.inl hm⟩ (fun a oe cls d pn hz hfs=>⟨fun pins s σ H D I h=>?_⟩) h1,fun c D DA ho l Wout hw=>?_⟩
    · obtain ⟨c,DA,S,ρ,fs,g1,g2,g3,g4,g5⟩:=h
      obtain ⟨t,p,sm⟩:=(hsu a oe pn fs).ex
      exact p.run pins s σ H D I (sm c D DA g1 g3 g2 S H σ ρ g4 g5)
    · rintro S' H' σ' ρ' C' fs dd st' xd ⟨b,hb1,hb2,hb3⟩
      refine ⟨b,hb1,fun e1 a ha=>?_,fun e1=>h2 c D DA ho l Wout hw S' H' σ' ρ' C' fs dd st' xd (hb3 e1)⟩
      obtain ⟨rfl,_,hq⟩:=hb2 e1
      exact ⟨c,{ DA with ex:=fun _ _ _=>False },S',ρ',fs,ho,⟨l.nx,l.rt,l.bk,l.ct⟩,fun _ _ _ _ _ _ _ _ _ z=>z.elim,st',hq⟩
inductive CHL : HL → Prop
  | nil : CHL []
  | cons {C : Addr} {o : Option Nat} {su : List (Str × D) → AS} {r : HL} (h : ∀ fs,CS (su fs)) (k : CHL r) : CHL ((C,o,su) :: r)
theorem CHL.ex {l : HL} (h : CHL l) {ι : Type} [Nonempty ι] {DA : ι → AEnds} {D' : AEnds} (c : Cov DA D') : ∀ C fs ρ,(∀ i,hEx K (DA i) l C fs ρ) → hEx K D' l C fs ρ:=by
  induction h with
  | nil=>exact c.ex
  | @cons C o su r hu k ih =>
    intro C' fs ρ z
    obtain ⟨i,_⟩:=i0 (ι:=ι)
    obtain ⟨b,e,h1,h2⟩:=z i
    have hz : ∀ i,(b = true → C' = C ∧ hOk o fs ρ ∧ su fs (JVg o (DA i)) (hSt o ρ)) ∧ (b = false → hEx K (DA i) r C' fs ρ):=fun i=>by
      obtain ⟨b',e',g⟩:=z i
      rw [e] at e'
      cases e'
      exact g
    refine ⟨b,e,fun hb=>?_,fun hb=>ih _ _ _ fun i=>(hz i).2 hb⟩
    obtain ⟨q1,q2,_⟩:=h1 hb
    refine ⟨q1,q2,hu fs (fun i=>((hz i).1 hb).2.2) ?_⟩
    cases o with
    | none=>exact ⟨c.nx,c.rt,c.bk,c.ct,fun _ _ _ h=>h i⟩
    | some j=>exact ⟨fun ρ h=>c.nx _ h,fun x ρ h=>c.rt x ρ h,fun ρ h=>c.bk _ h,fun ρ h=>c.ct _ h,fun _ _ _ h=>h i⟩
variable {DA : AEnds} {ρ : J0} {C : Addr} {fs : List (Str × D)}
theorem JJ4 {l : HL} {a : AS} (h : a (Lq K l DA) ρ) : JMm K l a DA ρ:=h
theorem Ej {l : HL} (h : DA.nx ρ) : (Lq K l DA).nx ρ:=h
theorem Dg {l : HL} {x : A} (h : DA.rt x ρ) : (Lq K l DA).rt x ρ:=h
end
end Vs
set_option maxHeartbeats 4000000
namespace Vs
open PySem PySem.Spec PySem.Calls PyProof.Rows L2 PySem.W
variable [Tbs]
section
variable {prog : Program} {w : World} {A : Around} {E : Value → Shared → Prop} {s : Shared} {K : Frag} {x D : Addr} {ox : Obj} {od : Obj}
/-- the class of such an error,asked for by its name -/
theorem JLr {Q : Option Value → Shared → Prop} (C : ExcC K D) (X : K.In s.heap) (I : W.InstAt s.heap x ox D (some od)) (h : Q (some (.ref D)) { s with toks:=s.toks + 1 }) : wpAny (model prog w) A (getAttr? (.ref x) "__class__") Q E s:=by
  have found : findObj K D (some od) "__class__" = some (.bind (.builtin "getset_descriptor.__get__") (.builtin "object.__class__")):=findObj_data (by obtain ⟨cd,hc,_⟩:=any_some C.hd; rw [hc]; rfl) C.ha C.hn C.ht
  obtain ⟨hp,g,d,t,os⟩:=s
  have ty:=I.type (M:=model prog w)
  have ga:=looks_findIn (M:=model prog w) X C.hg
  have gt:=looks_findIn (M:=model prog w) X C.hk
  have own:=looks_find (M:=model prog w) X I found
  have ne : (Value.builtin "BaseException.__getattribute__" == Value.builtin "object.__getattribute__") = false:=by decide +kernel
  unfold getAttr? getAttrBy? getAttrBy
  refine wpAny_bind (wpAny_mkText (wpAny_bind (wpAny_attempt (wpAny_holding (wpAny_bind (ty.at (wpAny_bind (ga.at ?_))))))))
  show wpAny _ _ (if (onTheHeap (Value.ref D) && Value.builtin "BaseException.__getattribute__" == Value.builtin "object.__getattribute__") = true then _ else _) _ _ _
  rw [if_neg (by rw [ne]; simp)]
  unfold getAttrByItsOwn hookBefore
  refine wpAny_bind ?_
  rw [if_pos (show onTheHeap (Value.ref D) = true from rfl)]
  refine gt.at (wpAny_bind (wpAny_attempt (wpAny_holding ?_)))
  unfold callGetattribute
  rw [if_neg (show ¬ (false && onTheHeap (Value.builtin "BaseException.__getattribute__")) = true from Bool.false_ne_true)]
  unfold boundAndCalled
  rw [PySem.F.excAttr_ValueError.ga.bind (.ref x)]
  refine wpAny_bind (wpAny_pure ?_)
  show wpAny _ _ (call (.builtin "BaseException.__getattribute__") [.ref x,.str "__class__" t]) _ _ _
  refine wpAny_call (codeAny_call_builtin PySem.F.excAttr_ValueError.ga.plain PySem.F.entry_bexc_ga ?_)
  refine @check_slot (model prog w) _ _ ⟨hp,g,d,t + 1,os⟩ "BaseException.__getattribute__" "BaseException" "__getattribute__" (.ref x) [.str "__class__" t] [] _ (by decide +kernel) (by decide +kernel) (ty.andThen (looks_subIn X C.hs)) (PySem.F.args_bexc_ga (.ref x) (.str "__class__" t)) ?_
  unfold Builtin.«object.__getattribute__»
  refine wpAny_bind (wpAny_of_eq (a:=((Value.ref x : Value),[Value.str "__class__" t])) (by first | rfl | (simp only [slotArgs]; rfl)) ?_)
  refine wpAny_bind (wpAny_pure (wpAny_bind (ty.at (wpAny_bind (own.at ?_)))))
  show wpAny _ _ (holding [Value.builtin "object.__class__"] (call (.builtin "getset_descriptor.__get__") [.builtin "object.__class__",.ref x,.ref D]) >>= ret) _ _ _
  refine wpAny_bind (wpAny_holding (wpAny_call (class_get (s:=⟨hp,g,d,t + 1,os⟩) (ox:=ox) (od:=some od) X I C.hm ?_)))
  refine wpAny_pure ?_
  show wpAny _ _ (handedOut (.ref D)) _ _ _
  rw [handedOut_of (v:=.ref D) rfl]
  first
    | exact wpAny_pure (wpAny_pure h)
    | exact wpAny_pure h
    | exact wpAny_pure (wpAny_bind (wpAny_pure (wpAny_pure h)))
/-- the type of the class's own object is no tuple,and it is a type -/
theorem A2 (C : ExcC K D) {h : Heap} (X : K.In h) : ∃ o cd,h.get? D = some o ∧ o.data = .cls cd:=by
  obtain ⟨cd,hc,_⟩:=any_some C.hd
  unfold clsIn at hc
  split at hc
  · rename_i c' d' cd' sl' ho
    exact ⟨_,_,X _ _ ho,rfl⟩
  · cases hc
theorem kitx_dict (C : ExcC K D) : KitX K (.ref x) (.ref D) (fun h=>W.InstAt h x ox D (some od)) where
  ty:=fun _ _ _ I=>I.type
  it:=fun _ _ X _=>by
    obtain ⟨o,cd,ho,hd⟩:=A2 C X
    intro A' Q' E' s' k q
    unfold isType loadHead
    refine wpAny_bind (wpAny_loadPart (k _ _ ho) ?_)
    rw [hd]
    exact wpAny_pure q
  ne:=fun h tp dd its n sl X htp=>by
    obtain ⟨o,cd,ho,hd⟩:=A2 C X
    refine Bool.eq_false_iff.mpr fun q=>?_
    have e : D = tp:=Value.ref.inj (beq_iff_eq.mp q)
    rw [e,htp] at ho
    cases ho
    cases hd
  ca:=fun X I k=>JLr C X I k
end
section
variable {X : Cx} {P : Pm} {pos : Pos}
def JH1 (K : Frag) (D a dd : Addr) : List V → Hp → VK → Prop:=fun xs H Q=>∃ (c : V) (cv : Value) (b : Bool) (ws : List (Str × V)),xs = [.ref a,c] ∧ (∀ u,RelV c u → u = cv) ∧ kitOne K (.ref D) cv = some b ∧ H dd = some (.xd ws) ∧ Q (.bl b) H
theorem JFs {a D dd : Addr} {oe : Obj} {pn : List (Addr × Obj)} (C : ExcC X.K D) (hz : Zc (.ref D) (some dd) oe) (hf : ∃ vs,oe.data = .fields vs) : CallR (X.suite a ((a,oe) :: pn)) (.builtin "isinstance") (JH1 X.K D a dd):=by
  intro pins s σ H xs us Q I r h
  obtain ⟨c,cv,b,ws,rfl,hcv,e,hx,q⟩:=h
  cases r with
  | cons rx rr =>
    cases rr with
    | cons rt rr =>
      cases rr
      cases rx
      have ec:=hcv _ rt
      subst ec
      obtain ⟨hget,_⟩:=I.pin (a,oe) (List.mem_append.mpr (.inl List.mem_cons_self))
      obtain ⟨vs,hv⟩:=hf
      have hk : ObjOk X.prog X.w H s.heap dd (.xd ws):=I.hok dd _ hx
      obtain ⟨mA,hns,_⟩:=hk
      obtain ⟨od,ho,_⟩:=lookIn_ns hns
      have J : W.InstAt s.heap a oe D (some od):=⟨hget,hz.1,by unfold W.notCls; rw [hv] <;> rfl,by rw [hz.2]; exact ho⟩
      exact kia_one (kitx_dict C) I.kIn J e (fun z=>nomatch z) fun tk=>⟨.bl b,H,I.kept (t':=tk) fun _ _ z=>z,rfl,q⟩
/-- isinstance(e,c) within the suite -/
def Hw (K : Frag) (D : Addr) (u : Value) : AE:=fun _ ρ Q=>∃ b,kitOne K (.ref D) u = some b ∧ Q (.v (.bl b)) ρ
theorem JZ3 {v : V} {u : Value} (h : ClsV v u) : ∀ u',RelV v u' → u' = u:=by
  cases h <;> (intro u' h'; exact h')
theorem JZy {W : WX} {O : OL} {i : Nat} {a C dd : Addr} {ws : List (Str × V)} {fs : List (Str × Vs.D)} {n : Str} {c : Expr} {u : Value} {oe : Obj} {pn : List (Addr × Obj)} {np p : Pos} (T : ExcC X.K C) (hz : Zc (.ref C) (some dd) oe) (hf : ∃ vs,oe.data = .fields vs) (hg : Gl X "isinstance") (hm : X.mg "isinstance" = none) (hc : QC (X.suite a ((a,oe) :: pn)) c u)
    (hN : X.N[i]? = some n:=by rfl) (hv : Vis X.env.scope n:=by first | exact Or.inl rfl | exact Or.inr (Or.inl rfl) | exact Or.inr (Or.inr rfl)) (hd : (n == ("__debug__" : Str)) = false:=by decide) (hcd : (n == ("__classdict__" : Str)) = false:=by decide)
    (hs : starEach [.Name n np,c] X.env = (false,eval (.Name n np) X.env) :: starEach [c] X.env:=by rfl) (hs2 : starEach [c] X.env = (false,eval c X.env) :: starEach [] X.env:=by rfl) (hpl : (backTo pos (starEach [c] X.env)).any (·.1) = false:=by rfl) :
    QE (X.suite a ((a,oe) :: pn)) ⟨W,OX X.K O i a dd ws fs⟩ (.Call (.Name "isinstance" p) [.Name n np,c] [] pos) (Hw X.K C u):=by
  obtain ⟨v,pc,k⟩:=hc.ex
  refine ⟨_,pe_callB (JFs T hz hf) hg hm PyProof.Rows.boot_isinstance (pa_cons (pe_var hN hv hd hcd) (pa_cons pc pa_nil hs2) hs) (by decide) (by decide) hs hpl,fun c EA ho hw τ S H σ ρ Q R s q kk=>?_⟩
  obtain ⟨_,h1,h2,h3⟩:=ho.2.2 S H σ ρ τ s
  obtain ⟨b,h4,q⟩:=q
  exact ⟨.ref a,h1,⟨v,u,b,ws,rfl,JZ3 k,h4,h2,kk _ _ (KE.sc s rfl q)⟩⟩
theorem JZb {K : Frag} {C : Addr} {u : Value} : CE (Hw K C u):=fun {ι} _ EA EA' ρ Q Q' h ce cq=>by
  obtain ⟨i,_⟩:=i0 (ι:=ι)
  obtain ⟨b,e,_⟩:=h i
  refine ⟨b,e,cq _ _ fun i=>?_⟩
  obtain ⟨b',e',q⟩:=h i
  rw [e] at e'
  cases e'
  exact q
theorem P8 {K : Frag} {C : Addr} {u : Value} {EA : AX} {ρ : J0} {Q : AK} {b : Bool} (h : kitOne K (.ref C) u = some b) (k : Q (.v (.bl b)) ρ) : Hw K C u EA ρ Q:=⟨b,h,k⟩
theorem exc_ok {K : Frag} {C : Addr} (x : XfC K C) (h : Kk K C = true) : ExcC K C:=by
  obtain ⟨h1,h⟩:=He.ba h
  obtain ⟨h2,h⟩:=He.ba h
  obtain ⟨h3,h4⟩:=He.ba h
  exact ⟨x.ga,x.gg,x.exC,x.hdC,He.eqO_ok h1,He.eqO_ok h2,of_decide_eq_true h3,of_decide_eq_true h4⟩
end
end Vs
set_option maxHeartbeats 1000000
namespace Vs
open PySem PySem.Spec PySem.Calls PyProof.Rows L2
variable [Tbs]
section
variable {X : Cx} {pins : List (Addr × Obj)} {σ : L2.St} {H : Hp} {s : Shared}
/-- the last item of a tuple,an int -/
def JM3 : D → Int
  | .tup xs=>(match xs.getLast? with
    | some (.int i)=>i
    | _=>0)
  | _=>0
def R9 (d : D) : Prop:=∃ xs i,d = .tup xs ∧ xs.getLast? = some (.int i)
def JWo (ds : List D) : List D:=ds.mergeSort (PySem.W.dataLe false fun d=>.int (JM3 d))
end
end Vs
namespace Vs
open PySem PySem.Spec PySem.Calls PyProof.Rows L2
variable [Tbs]
section
variable {K : Fg} {c : Ctx} {S H : Hp} {σ : L2.St} {ρ : J0} {τ : List (V × A)}
omit [Tbs] in
theorem Le.ext {c' : Addr} {q : Str} (h : Le S H) (e : S c' = some (LamX.CodeO c' q)) : H c' = some (LamX.CodeO c' q):=by
  rcases h c' _ e with z | ⟨_,_,z,_⟩
  · exact z
  · unfold LamX.CodeO at z
    cases z
omit [Tbs] in
theorem SqL.but {H' : Hp} {a : Addr} {xs : List V} (h : SqL K H a xs) (k : ∀ b o,spc o = false → H b = some o → H' b = some o) : SqL K H' a xs:=by
  rcases h with (h | ⟨o,h⟩) | h
  · exact .inl (.inl (k _ _ rfl h))
  · exact .inl (.inr ⟨o,k _ _ rfl h⟩)
  · exact .inr h
omit [Tbs] in
theorem SqT.but {H' : Hp} {a : Addr} {xs : List V} (h : SqT K H a xs) (k : ∀ b o,spc o = false → H b = some o → H' b = some o) : SqT K H' a xs:=by
  rcases h with (h | ⟨o,h⟩) | h
  · exact .inl (.inl (k _ _ rfl h))
  · exact .inl (.inr ⟨o,k _ _ rfl h⟩)
  · exact .inr h
end
end Vs
namespace Vs
open PySem PySem.Spec PySem.Calls PyProof.Rows L2
variable [Tbs]
def JLv (aa : AA) : AE:=fun EA ρ Q=>aa EA ρ fun xs ρ1=>∃ x ds,xs = [x] ∧ dat x ρ1 = some (.lst ds) ∧ (∀ d ∈ ds,R9 d) ∧ Q (.lst (JWo ds)) ρ1
section
variable {X : Cx} {P : Pm} {K : Fg} {e : Expr} {pos p : Pos}
def Qm : D → Option (List D)
  | .lst xs=>some xs
  | .tup xs=>some xs
  | _=>none
def JN9 (ae : AE) (aa : AA) : AA:=fun EA ρ Q=>ae EA ρ fun x ρ1=>∃ d ds,dat x ρ1 = some d ∧ Qm d = some ds ∧ aa EA ρ1 fun ys ρ2=>Q (ds.map A.v ++ ys) ρ2
def JMo (C : Addr) (sp : ASp) (aa ab : AE) : AE:=fun EA ρ Q=>aa EA ρ fun x ρ1=>ab EA ρ1 fun y ρ2=>(∃ fs,dat x ρ2 = some (.obj C fs)) ∧ (∃ gs,dat y ρ2 = some (.obj C gs)) ∧ Yp sp [x,y] EA ρ2 Q
end
end Vs
namespace Vs
open PySem PySem.Spec PySem.Calls PyProof.Rows L2
variable [Tbs]
section
variable {EA : AX} {ρ : J0} {Q : AK} {x : A}
theorem JUb {aa : AA} (k : aa EA ρ fun xs ρ1=>∃ x ds,xs = [x] ∧ dat x ρ1 = some (.lst ds) ∧ (∀ d ∈ ds,R9 d) ∧ Q (.lst (JWo ds)) ρ1) : JLv aa EA ρ Q:=k
theorem JJv {ae : AE} {aa : AA} {QA : List A → J0 → Prop} (k : ae EA ρ fun x ρ1=>∃ d ds,dat x ρ1 = some d ∧ Qm d = some ds ∧ aa EA ρ1 fun ys ρ2=>QA (ds.map A.v ++ ys) ρ2) : JN9 ae aa EA ρ QA:=k
theorem JJg {C : Addr} {sp : ASp} {aa ab : AE} (k : aa EA ρ fun x ρ1=>ab EA ρ1 fun y ρ2=>(∃ fs,dat x ρ2 = some (.obj C fs)) ∧ (∃ gs,dat y ρ2 = some (.obj C gs)) ∧ Yp sp [x,y] EA ρ2 Q) : JMo C sp aa ab EA ρ Q:=k
end
def Ls (ag : AG) (ae : AE) : AS:=fun DA ρ=>ae DA.ex ρ fun x ρ1=>Yd x ρ1 fun d ρ2=>ag d ρ2 DA.nx
section
variable {X : Cx} {P : Pm} {tg e : Expr} {pos : Pos}
theorem JKn {ag : AG} {ae : AE} {ws : List Nat} (he : QE X P e ae) (hg : QG X P tg ag ws) (hs : swapsWithSole [tg] e pos.line X.env = pure false:=by rfl) (hw : swappedStores [tg] e X.env = pure none:=by rfl) (h1 : (assignEach [tg] X.env).map (·.2) = [assign tg X.env]:=by rfl) : QS X P (.Assign [tg] e pos) (Ls ag ae):=by
  obtain ⟨te,pe,se⟩:=he.ex
  obtain ⟨g,pg,sg⟩:=hg.ex
  refine ⟨_,ps_asg pe pg hs hw h1,fun c D DA ho hwx l S H σ ρ st q=>se c DA.ex ho hwx [] S H σ ρ _ _ st q fun v H1 ⟨S1,ρ1,x,s1,q1⟩=>?_⟩
  obtain ⟨S2,d,ρ2,sm,s2,q2⟩:=W3 s1 q1
  exact sg c ho [] S2 H1 σ ρ2 v d _ _ s2 (fun _ _ m=>by simp at m) q2 fun σ' ρ' s3 _ q3=>l.nx _ _ _ _ s3 q3
theorem JXd {ag : AG} {ae : AE} (h1 : CG ag) (h2 : CE ae) : CS (Ls ag ae):=fun h k=>h2 h k.ex fun x ρ1 h3=>Wi h3 fun d ρ2 h4=>h1 h4 fun ρ3 h5=>k.nx _ h5
theorem E7 {DA : AEnds} {ρ : J0} {ag : AG} {ae : AE} (k : ae DA.ex ρ fun x ρ1=>Yd x ρ1 fun d ρ2=>ag d ρ2 DA.nx) : Ls ag ae DA ρ:=k
end
end Vs
namespace Vs
open PySem PySem.Spec PySem.Calls PyProof.Rows L2
end Vs
namespace Vs
open PySem PySem.Spec PySem.Calls PyProof.Rows L2
end Vs
namespace Vs
open PySem PySem.Spec PyProof.Rows L2
end Vs
set_option maxHeartbeats 2000000
namespace Vs
end Vs
namespace Vs
open PySem PySem.Spec PyProof.Rows L2
end Vs
namespace PySem
open PySem.W PySem.SeqAt
open AutoSeq1 (wpAny_loadPart')
end PySem
namespace Vs
open PySem PySem.Spec PyProof.Rows L2
end Vs
set_option maxHeartbeats 1000000
namespace Vs
open PySem PySem.Spec PyProof.Rows L2
variable [Tbs]
/-- slot,path and thing that a held reference tells of -/
noncomputable def L0 (i : Nat) (p : List Stp) (o : Option A) (w : V) : Option (Nat × List Stp × A):=match o with
  | some (.cel w' n)=>@ite _ (w' = w) (Classical.propDecidable _) (some (i,p,n)) none
  | _=>none
noncomputable def Y8 (x : A) (ρ : J0) : Option (Nat × List Stp × A):=match x with
  | .loc j=>(match ρ[j]? with
    | some (some t)=>some (j,[],t)
    | _=>none)
  | .pth i p w=>(match ρ[i]? with
    | some (some t)=>L0 i p (t.at p) w
    | _=>none)
  | _=>none
/-- a thing put back to where it stood -/
def Ud (x n : A) : A:=match x with
  | .pth _ _ w=>.cel w n
  | _=>n
theorem G7 {i : Nat} {p : List Stp} {o : Option A} {w : V} {z : Nat × List Stp × A} (h : L0 i p o w = some z) : ∃ n,o = some (.cel w n) ∧ z = (i,p,n):=by
  unfold L0 at h
  split at h
  · rename_i w' n
    by_cases e : w' = w
    · rw [if_pos e] at h
      subst e
      exact ⟨n,rfl,(Option.some.inj h).symm⟩
    · rw [if_neg e] at h; cases h
  · cases h
section
variable {K : Fg} {c : Ctx} {S H : Hp} {σ : L2.St} {ρ : J0} {τ : List (V × A)} {v ve : V} {x xe n : A} {i : Nat} {p : List Stp}
theorem RepA.noLoc {K : Fg} {S H : Hp} {x : A} {v : V} {g : List Addr} (h : RepA K S H x v g) : Y4 x = false:=by
  cases x <;> first | rfl | (simp only [RepA] at h)
/-- the thing that a reference tells of,a held thing beside it: both may be exchanged for one -/
theorem Stt.nodeWith (s : Stt K c S H σ ρ ((ve,xe) :: τ)) (hxe : Y4 xe = false) (m : (v,x) ∈ τ) (h : Y8 x ρ = some (i,p,n)) :
    ∃ t gx g f,ρ[i]? = some (some t) ∧ RepA K S H xe ve gx ∧ RepA K S H n v g ∧ (gx ++ (g ++ f)).Nodup ∧ (∀ a ∈ gx ++ (g ++ f),S a = none ∧ c.R a = none) ∧
      ∀ (H' : Hp) (n' : A) (g' : List Addr),(∀ a ∈ f,H' a = H a) → RepA K S H' n' v g' → (g' ++ f).Nodup → (∀ a ∈ g' ++ f,S a = none ∧ c.R a = none) → Le S H' → Same c.R H' → Tb K c.R S H' →
        Stt K c S H' σ (ρ.set i (some (t.upd p (Ud x n')))) τ:=by
  have pre : ∃ (t : A) (u : V),ρ[i]? = some (some t) ∧ σ[i]? = some (some u) ∧ ((∃ w,x = .pth i p w ∧ v = w ∧ (∃ a,w = .ref a) ∧ t.at p = some (.cel w n)) ∨ (x = .loc i ∧ p = [] ∧ u = v ∧ t = n)):=by
    cases x with
    | loc j =>
      simp only [Y8] at h
      split at h
      · rename_i t ht
        cases h
        obtain ⟨h1,_⟩:=s.loc v i (List.mem_cons_of_mem _ m)
        exact ⟨_,v,ht,h1,.inr ⟨rfl,rfl,rfl,rfl⟩⟩
      · cases h
    | pth j p' w =>
      simp only [Y8] at h
      split at h
      · rename_i t ht
        obtain ⟨n0,e1,e2⟩:=G7 h
        cases e2
        obtain ⟨⟨u,hu⟩,_⟩:=s.env.get ht
        obtain ⟨fp,h1,_,_⟩:=s.own
        have m2 : (v,A.pth i p w) ∈ Ji ρ σ ++ Jg ((ve,xe) :: τ):=List.mem_append_right _ (List.mem_filter.mpr ⟨List.mem_cons_of_mem _ m,rfl⟩)
        obtain ⟨g,a1,_⟩:=h1.pick m2
        simp only [RepA] at a1
        obtain ⟨e3,e4,_⟩:=a1
        exact ⟨t,u,ht,hu,.inl ⟨_,rfl,e3,e4,e1⟩⟩
      · cases h
    | _=>cases h
  obtain ⟨t,u,ht,hu,hq⟩:=pre
  obtain ⟨fp,h1,h2,h3⟩:=s.own
  have pm : (Ji ρ σ ++ Jg ((ve,xe) :: τ)).Perm ((ve,xe) :: (u,t) :: (Ji (ρ.set i none) σ ++ Jg τ)):=by
    rw [B9 hxe]
    exact List.perm_middle.trans (List.Perm.cons _ (List.Perm.append_right _ (Wh ht hu)))
  obtain ⟨fq,q1,q2⟩:=RepP.perm pm h1
  obtain ⟨gx,f1,a1,a2,e2⟩:=q1
  obtain ⟨gt,f0,b1,b2,e3⟩:=a2
  subst e3 e2
  have key : ∃ gq f1,RepA K S H n v gq ∧ gt.Perm (gq ++ f1) ∧ ∀ (H' : Hp) (n' : A) (g' : List Addr),(∀ a ∈ f1,H' a = H a) → RepA K S H' n' v g' → ∃ fp',RepA K S H' (t.upd p (Ud x n')) u fp' ∧ fp'.Perm (g' ++ f1):=by
    rcases hq with ⟨w,rfl,rfl,hw,hat⟩ | ⟨rfl,rfl,rfl,rfl⟩
    · obtain ⟨v',gq,f1,l1,l2,l3⟩:=RepA.lens b1 hat
      simp only [RepA] at l1
      obtain ⟨rfl,_,z⟩:=l1
      refine ⟨gq,f1,z,l2,fun H' n' g' hk hz=>l3 S H' (.cel v' n') g' (Same.refl S) hk ?_⟩
      simp only [RepA]
      exact ⟨trivial,hw,hz⟩
    · exact ⟨gt,[],b1,by simp,fun H' n' g' _ hz=>⟨g',hz,by simp⟩⟩
  obtain ⟨gq,f2,k1,k2,k3⟩:=key
  have P1 : (gx ++ (gt ++ f0)).Perm (gx ++ (gq ++ (f2 ++ f0))):=List.Perm.append_left gx (by
    rw [← List.append_assoc]
    exact List.Perm.append_right f0 k2)
  refine ⟨t,gx,gq,f2 ++ f0,ht,a1,k1,(q2.trans P1).nodup_iff.mp h2,fun a ha=>h3 a ((q2.trans P1).symm.subset ha),fun H' n' g' hk hz nd hs hle hr ht'=>?_⟩
  obtain ⟨fp',w1,w2⟩:=k3 H' n' g' (fun a ha=>hk a (List.mem_append_left _ ha)) hz
  have v1 : RepP K S H' (Ji (ρ.set i none) σ ++ Jg τ) f0:=b2.keep (Same.refl S) fun a ha=>hk a (List.mem_append_right _ ha)
  have hy : Y4 (t.upd p (Ud x n')) = false:=w1.noLoc
  have p2 : ((u,t.upd p (Ud x n')) :: (Ji (ρ.set i none) σ ++ Jg τ)).Perm (Ji (ρ.set i (some (t.upd p (Ud x n')))) σ ++ Jg τ):=List.Perm.append_right _ (Xy (W1 ht) hu).symm
  obtain ⟨fr,c1,c2⟩:=RepP.perm p2 (show RepP K S H' ((u,t.upd p (Ud x n')) :: (Ji (ρ.set i none) σ ++ Jg τ)) (fp' ++ f0) from ⟨fp',f0,w1,v1,rfl⟩)
  have P2 : (fp' ++ f0).Perm (g' ++ (f2 ++ f0)):=by
    rw [← List.append_assoc]
    exact List.Perm.append_right f0 w2
  refine ⟨⟨fr,c1,(P2.symm.trans c2).nodup_iff.mp nd,fun a ha=>hs a ((P2.symm.trans c2).symm.subset ha)⟩,s.env.put (fun z e=>by cases e; exact ⟨⟨u,hu⟩,Xr hy⟩),fun v' j mm=>?_,hle,hr,s.new,s.up,s.os,ht'⟩
  obtain ⟨z1,z,z2⟩:=s.loc v' j (List.mem_cons_of_mem _ mm)
  by_cases e : i = j
  · subst e; exact ⟨z1,_,by rw [List.getElem?_set_self (W1 ht)]⟩
  · exact ⟨z1,z,by rw [List.getElem?_set_ne e]; exact z2⟩
/-- .. without one beside it -/
theorem Stt.node (s : Stt K c S H σ ρ τ) (m : (v,x) ∈ τ) (h : Y8 x ρ = some (i,p,n)) :
    ∃ t g f,ρ[i]? = some (some t) ∧ RepA K S H n v g ∧ (g ++ f).Nodup ∧ (∀ a ∈ g ++ f,S a = none ∧ c.R a = none) ∧
      ∀ (H' : Hp) (n' : A) (g' : List Addr),(∀ a ∈ f,H' a = H a) → RepA K S H' n' v g' → (g' ++ f).Nodup → (∀ a ∈ g' ++ f,S a = none ∧ c.R a = none) → Le S H' → Same c.R H' → Tb K c.R S H' →
        Stt K c S H' σ (ρ.set i (some (t.upd p (Ud x n')))) τ:=by
  obtain ⟨t,gx,g,f,a1,a2,a3,a4,a5,a6⟩:=(s.hold (v:=.non) (d:=.non) (by simp only [Rep])).nodeWith rfl m h
  simp only [RepA] at a2
  obtain ⟨_,rfl⟩:=a2
  exact ⟨t,g,f,a1,a3,by simpa using a4,by simpa using a5,a6⟩
/-- a flat thing is changed in its place -/
theorem Stt.writeN {a : Addr} {o u : HO} {n' : A} (s : Stt K c S H σ ρ τ) (m : (.ref a,x) ∈ τ) (h : Y8 x ρ = some (i,p,n)) (hg : ∀ g,RepA K S H n (.ref a) g → g = [a]) (ho : H a = some u) (hu : spc u = false) (hr : RepA K S (upd H a o) n' (.ref a) [a]) :
    ∃ t,ρ[i]? = some (some t) ∧ Stt K c S (upd H a o) σ (ρ.set i (some (t.upd p (Ud x n')))) τ:=by
  obtain ⟨t,g,f,a1,a3,a4,a5,a6⟩:=s.node m h
  have eg:=hg g a3
  subst eg
  have na : a ∉ f:=fun z=>(List.nodup_append.mp a4).2.2 a (by simp) a z rfl
  have Sa : S a = none:=(a5 a (by simp)).1
  have Ra : c.R a = none:=(a5 a (by simp)).2
  exact ⟨t,a1,a6 (upd H a o) n' [a] (fun b hb=>upd_ne (fun z=>na (z ▸ hb))) hr a4 a5 (s.le.up Sa) (fun b o' e=>by rw [upd_ne (ne_of_none e Ra)]; exact s.r b o' e) (s.tb.put ho hu)⟩
end
end Vs
namespace Vs
open PySem PySem.Spec PyProof.Rows L2
variable [Tbs]
/-- the value of an item,in the heap -/
def ItH (H : Hp) (u : V) : Stp → V → Prop
  | .n i,v=>∃ a vs,u = .ref a ∧ (H a = some (.lst vs) ∨ H a = some (.tup vs)) ∧ vs[i]? = some v
  | .k k,v=>∃ a ws,u = .ref a ∧ H a = some (.dK ws) ∧ valV ws k = some v
  | .f x,v=>∃ a C dx ws,u = .ref a ∧ H a = some (.ins C dx ws) ∧ ws.lookup x = some v
section
variable {K : Fg} {S H : Hp}
theorem RepA.lensH {t x : A} {s : Stp} {u : V} {fp : List Addr} (h : RepA K S H t u fp) (e : itN t s = some x) : ∃ v g f,ItH H u s v ∧ RepA K S H x v g ∧ fp.Perm (g ++ f) ∧
    (∀ (S' H' : Hp) (z : A) (g' : List Addr),Same S S' → (∀ a ∈ f,H' a = H a) → RepA K S' H' z v g' → ∃ fp',RepA K S' H' (V2 t s z) u fp' ∧ fp'.Perm (g' ++ f)):=by
  have mv : ∀ {a : Addr} {g f fp : List Addr},fp.Perm (g ++ f) → (a :: fp).Perm (g ++ a :: f):=fun p=>(List.Perm.cons _ p).trans List.perm_middle.symm
  cases t with
  | nl xs =>
    cases s with
    | n i =>
      simp only [RepA] at h
      obtain ⟨a,vs,g0,rfl,h1,h2,rfl⟩:=h
      obtain ⟨v,g,f,a1,a2,a3,a4⟩:=RepAL.lens h2 e
      refine ⟨v,g,a :: f,⟨a,vs,rfl,.inl h1,a1⟩,a2,mv a3,fun S' H' z g' hs hk hz=>?_⟩
      obtain ⟨fp',b1,b2⟩:=a4 S' H' z g' hs (fun b hb=>hk b (List.mem_cons_of_mem _ hb)) hz
      refine ⟨a :: fp',?_,mv b2⟩
      simp only [V2,RepA]
      exact ⟨a,vs,fp',rfl,by rw [hk a (by simp)]; exact h1,b1,rfl⟩
    | _=>cases e
  | nt xs =>
    cases s with
    | n i =>
      simp only [RepA] at h
      obtain ⟨a,vs,g0,rfl,h1,h2,rfl⟩:=h
      obtain ⟨v,g,f,a1,a2,a3,a4⟩:=RepAL.lens h2 e
      refine ⟨v,g,a :: f,⟨a,vs,rfl,.inr h1,a1⟩,a2,mv a3,fun S' H' z g' hs hk hz=>?_⟩
      obtain ⟨fp',b1,b2⟩:=a4 S' H' z g' hs (fun b hb=>hk b (List.mem_cons_of_mem _ hb)) hz
      refine ⟨a :: fp',?_,mv b2⟩
      simp only [V2,RepA]
      exact ⟨a,vs,fp',rfl,by rw [hk a (by simp)]; exact h1,b1,rfl⟩
    | _=>cases e
  | nd xs =>
    cases s with
    | k i =>
      simp only [RepA] at h
      obtain ⟨a,vs,g0,rfl,h1,h2,rfl⟩:=h
      obtain ⟨v,g,f,a1,a2,a3,a4⟩:=RepAK.lens h2 e
      refine ⟨v,g,a :: f,⟨a,vs,rfl,h1,a1⟩,a2,mv a3,fun S' H' z g' hs hk hz=>?_⟩
      obtain ⟨fp',b1,b2⟩:=a4 S' H' z g' hs (fun b hb=>hk b (List.mem_cons_of_mem _ hb)) hz
      refine ⟨a :: fp',?_,mv b2⟩
      simp only [V2,RepA]
      exact ⟨a,vs,fp',rfl,by rw [hk a (by simp)]; exact h1,b1,rfl⟩
    | _=>cases e
  | obj C xs =>
    cases s with
    | f i =>
      simp only [RepA] at h
      obtain ⟨a,dx,vs,g0,rfl,h1,h2,rfl⟩:=h
      obtain ⟨v,g,f,a1,a2,a3,a4⟩:=RepAF.lens h2 e
      refine ⟨v,g,a :: f,⟨a,C,dx,vs,rfl,h1,a1⟩,a2,mv a3,fun S' H' z g' hs hk hz=>?_⟩
      obtain ⟨fp',b1,b2⟩:=a4 S' H' z g' hs (fun b hb=>hk b (List.mem_cons_of_mem _ hb)) hz
      refine ⟨a :: fp',?_,mv b2⟩
      simp only [V2,RepA]
      exact ⟨a,dx,vs,fp',rfl,by rw [hk a (by simp)]; exact h1,b1,rfl⟩
    | _=>cases e
  | _=>cases s <;> cases e
end
/-- an owned thing that is no datum,no reference -/
def Zx : A → Bool
  | .lst _=>true
  | .dic _=>true
  | .obj _ _=>true
  | .nl _=>true
  | .nd _=>true
  | .nt _=>true
  | _=>false
theorem RepA.isRef {K : Fg} {S H : Hp} {z : A} {v : V} {g : List Addr} (h : RepA K S H z v g) (q : Zx z = true) : ∃ a,v = .ref a:=by
  cases z with
  | lst xs=>simp only [RepA] at h; obtain ⟨a,_,h1,_⟩:=h; exact ⟨a,h1⟩
  | dic xs=>simp only [RepA] at h; obtain ⟨a,_,h1,_⟩:=h; exact ⟨a,h1⟩
  | obj C xs=>simp only [RepA] at h; obtain ⟨a,_,_,_,h1,_⟩:=h; exact ⟨a,h1⟩
  | nl xs=>simp only [RepA] at h; obtain ⟨a,_,_,h1,_⟩:=h; exact ⟨a,h1⟩
  | nd xs=>simp only [RepA] at h; obtain ⟨a,_,_,h1,_⟩:=h; exact ⟨a,h1⟩
  | nt xs=>simp only [RepA] at h; obtain ⟨a,_,_,h1,_⟩:=h; exact ⟨a,h1⟩
  | _=>cases q
/-- what is in the hand behind an item was looked at -/
def outI (x : A) (i : Nat) (p : List Stp) (n : A) (st : Stp) (z : A) (ρ : J0) (Q : AK) : Prop:=match z with
  | .v d=>Q (.v d) ρ
  | .cel w _=>Q (.pth i (p ++ [st]) w) ρ
  | .pth j q w=>Q (.pth j q w) ρ
  | .loc _=>False
  | z=>∃ t,ρ[i]? = some (some t) ∧ ∀ w,Q (.pth i (p ++ [st]) w) (ρ.set i (some (t.upd p (Ud x (V2 n st (.cel w z))))))
section
variable {K : Fg} {c : Ctx} {S H : Hp} {σ : L2.St} {ρ : J0} {τ : List (V × A)} {v : V} {x z n : A} {i : Nat} {p : List Stp} {st : Stp}
/-- a thing that needs no cells of its own is held -/
theorem Stt.holdA (s : Stt K c S H σ ρ τ) (hx : Y4 x = false) (h : RepA K S H x v []) : Stt K c S H σ ρ ((v,x) :: τ):=by
  obtain ⟨fp,h1,h2,h3⟩:=s.own
  exact Stt.push (g:=[]) (h:=fp) hx h h1 (by simpa using h2) (by simpa using h3) s.env s.loc s.le s.r s.new s.up s.os s.tb
theorem JGu {Q : AK} {R : VK} (s : Stt K c S H σ ρ τ) (m : (v,x) ∈ τ) (h : Y8 x ρ = some (i,p,n)) (hz : itN n st = some z) (q : outI x i p n st z ρ Q) (τ' : List (V × A)) (hd : ∀ {ρ'},Stt K c S H σ ρ' τ → Stt K c S H σ ρ' τ') (k : ∀ v' H',KE K c σ τ' Q v' H' → R v' H') : ∃ v',ItH H v st v' ∧ R v' H:=by
  obtain ⟨t,g,f,a1,a2,a3,a4,a5⟩:=s.node m h
  obtain ⟨v',g2,f2,b1,b2,b3,b4⟩:=a2.lensH hz
  refine ⟨v',b1,?_⟩
  have own : ∀ z0 : A,z = z0 → Zx z0 = true → (∃ t,ρ[i]? = some (some t) ∧ ∀ w,Q (.pth i (p ++ [st]) w) (ρ.set i (some (t.upd p (Ud x (V2 n st (.cel w z0))))))) → R v' H:=by
    rintro z0 rfl hq ⟨t',ht',q⟩
    have e : t = t':=by rw [a1] at ht'; cases ht'; rfl
    subst e
    obtain ⟨a,ha⟩:=b2.isRef hq
    have cz : RepA K S H (.cel v' z) v' g2:=by
      simp only [RepA]
      exact ⟨trivial,⟨a,ha⟩,b2⟩
    obtain ⟨fp',c1,c2⟩:=b4 S H (.cel v' z) g2 (Same.refl S) (fun _ _=>rfl) cz
    have pm : (fp' ++ f).Perm (g ++ f):=List.Perm.append_right f (c2.trans b3.symm)
    have s2:=a5 H (V2 n st (.cel v' z)) fp' (fun _ _=>rfl) c1 (pm.symm.nodup_iff.mp a3) (fun b hb=>a4 b (pm.subset hb)) s.le s.r s.tb
    exact k _ _ ⟨S,_,.pth i (p ++ [st]) v',(hd s2).holdA rfl (by simp only [RepA]; exact ⟨trivial,⟨a,ha⟩,trivial⟩),q v'⟩
  cases z with
  | v d =>
    simp only [RepA] at b2
    exact k _ _ ⟨S,ρ,.v d,(hd s).hold b2.1,q⟩
  | cel w z0 =>
    simp only [RepA] at b2
    obtain ⟨rfl,hw,_⟩:=b2
    exact k _ _ ⟨S,ρ,.pth i (p ++ [st]) v',(hd s).holdA rfl (by simp only [RepA]; exact ⟨trivial,hw,trivial⟩),q⟩
  | pth j q' w =>
    simp only [RepA] at b2
    obtain ⟨rfl,hw,_⟩:=b2
    exact k _ _ ⟨S,ρ,.pth j q' v',(hd s).holdA rfl (by simp only [RepA]; exact ⟨trivial,hw,trivial⟩),q⟩
  | loc j=>exact q.elim
  | _=>exact own _ rfl rfl q
end
/-- the step that an index says -/
def Wy (n : A) (d : D) : Option Stp:=match n with
  | .nl xs=>(match d with
    | .int k=>(ixN xs.length k).map .n
    | _=>none)
  | .nt xs=>(match d with
    | .int k=>(ixN xs.length k).map .n
    | _=>none)
  | .nd _=>(keyD d).map .k
  | _=>none
def Hs : AR2:=fun x y ρ Q=>∃ i p n d st z,Y8 x ρ = some (i,p,n) ∧ dat y ρ = some d ∧ Wy n d = some st ∧ itN n st = some z ∧ outI x i p n st z ρ Q
section
variable {K : Fg}
theorem JM7 : Yj K (fun x y H Q=>rIx K x y H Q ∨ Fd x y H Q) Hs:=by
  intro c τ S H σ ρ vx vy x y Q R s q k
  obtain ⟨i,p,n,d,st,z,h1,h2,h3,h4,q⟩:=q
  have rk:=s.dat (List.mem_cons_self ..) h2
  obtain ⟨v',e1,e2⟩:=JGu s (List.mem_cons_of_mem _ (List.mem_cons_self ..)) h1 h4 q τ (fun s'=>s'.drop.drop) k
  obtain ⟨t,g,f,a1,a2,_⟩:=s.node (List.mem_cons_of_mem _ (List.mem_cons_self ..)) h1
  cases n with
  | nl xs =>
    cases d with
    | int j =>
      simp only [Rep] at rk
      simp only [Wy] at h3
      cases e : ixN xs.length j with
      | none=>rw [e] at h3; cases h3
      | some m =>
        rw [e] at h3
        cases h3
        simp only [RepA] at a2
        obtain ⟨a,vs,g0,rfl,b1,b2,_⟩:=a2
        obtain ⟨a',vs',e3,e4,e5⟩:=e1
        cases e3
        have e6 : vs' = vs:=by
          rcases e4 with e4 | e4 <;> rw [b1] at e4 <;> cases e4
          rfl
        subst e6
        have ll : vs'.length = xs.length:=by
          have : ∀ {xs : List A} {vs : List V} {g : List Addr},RepAL K S H xs vs g → vs.length = xs.length:=by
            intro xs
            induction xs with
            | nil=>intro vs g h; simp only [RepAL] at h; rw [h.1]; rfl
            | cons x xs ih =>
              intro vs g h
              simp only [RepAL] at h
              obtain ⟨_,r,_,_,rfl,_,h2,_⟩:=h
              simp [ih h2]
          exact this b2
        exact .inl (.inl ⟨a,vs',j,v',rfl,rk,SqL.of b1,by unfold atI; rw [ll,e]; exact e5,e2⟩)
    | _=>cases h3
  | nt xs =>
    cases d with
    | int j =>
      simp only [Rep] at rk
      simp only [Wy] at h3
      cases e : ixN xs.length j with
      | none=>rw [e] at h3; cases h3
      | some m =>
        rw [e] at h3
        cases h3
        simp only [RepA] at a2
        obtain ⟨a,vs,g0,rfl,b1,b2,_⟩:=a2
        obtain ⟨a',vs',e3,e4,e5⟩:=e1
        cases e3
        have e6 : vs' = vs:=by
          rcases e4 with e4 | e4 <;> rw [b1] at e4 <;> cases e4
          rfl
        subst e6
        have ll : vs'.length = xs.length:=by
          have : ∀ {xs : List A} {vs : List V} {g : List Addr},RepAL K S H xs vs g → vs.length = xs.length:=by
            intro xs
            induction xs with
            | nil=>intro vs g h; simp only [RepAL] at h; rw [h.1]; rfl
            | cons x xs ih =>
              intro vs g h
              simp only [RepAL] at h
              obtain ⟨_,r,_,_,rfl,_,h2,_⟩:=h
              simp [ih h2]
          exact this b2
        exact .inl (.inr (.inl ⟨a,vs',j,v',rfl,rk,SqT.of b1,by unfold atI; rw [ll,e]; exact e5,e2⟩))
    | _=>cases h3
  | nd kvs =>
    simp only [Wy] at h3
    cases e : keyD d with
    | none=>rw [e] at h3; cases h3
    | some kk =>
      rw [e] at h3
      cases h3
      have ek:=X3 e rk
      subst ek
      obtain ⟨a',ws,rfl,e4,e5⟩:=e1
      exact .inr ⟨a',v',rfl,.inl ⟨ws,kk,.inl e4,rfl,e5.symm⟩,e2⟩
  | _=>cases h3
/-- x[y],flat or not -/
def Vi : AR2:=fun x y ρ Q=>aIx x y ρ Q ∨ Hs x y ρ Q
theorem JLb : Yj K (fun x y H Q=>rIx K x y H Q ∨ Fd x y H Q) Vi:=by
  intro c τ S H σ ρ vx vy x y Q R s q k
  rcases q with q | q
  · exact JY8 c τ S H σ ρ vx vy x y Q R s q k
  · exact JM7 c τ S H σ ρ vx vy x y Q R s q k
theorem JFu {x n : A} {ρ : J0} {i : Nat} {p : List Stp} {d : D} {st : Stp} (h : Y8 x ρ = some (i,p,n)) (h3 : Wy n d = some st) : dat x ρ = some .any:=by
  have ht : n.toD = .any:=by
    cases n <;> first | rfl | cases h3
  cases x with
  | loc j =>
    simp only [Y8] at h
    split at h
    · rename_i t e
      cases h
      simp only [dat,e,ht]
    · cases h
  | pth j q w =>
    simp only [Y8] at h
    split at h
    · rename_i t e
      obtain ⟨n0,e1,e2⟩:=G7 h
      cases e2
      simp only [dat,e,e1,Fv,ht]
      simp
    · cases h
  | _=>cases h
theorem Aa {x y : A} {ρ : J0} {Q Q' : AK} (h : aIx x y ρ Q) (h' : Hs x y ρ Q') : False:=by
  obtain ⟨i,p,n,d,st,z,h1,h2,h3,_⟩:=h'
  obtain ⟨d0,i0,z0,g1,g2,g3,_⟩:=h
  rw [JFu h1 h3] at g1
  cases g1
  cases i0 <;> cases g3
theorem JL7 : C2 Hs:=fun {ι} _ x y ρ Q Q' h k=>by
  obtain ⟨j,_⟩:=i0 (ι:=ι)
  obtain ⟨i,p,n,d,st,z,h1,h2,h3,h4,_⟩:=h j
  have h' : ∀ j,outI x i p n st z ρ (Q j):=fun j=>by
    obtain ⟨i',p',n',d',st',z',g1,g2,g3,g4,q⟩:=h j
    rw [h1] at g1; cases g1
    rw [h2] at g2; cases g2
    rw [h3] at g3; cases g3
    rw [h4] at g4; cases g4
    exact q
  refine ⟨i,p,n,d,st,z,h1,h2,h3,h4,?_⟩
  have own : (∀ j,∃ t,ρ[i]? = some (some t) ∧ ∀ w,Q j (.pth i (p ++ [st]) w) (ρ.set i (some (t.upd p (Ud x (V2 n st (.cel w z))))))) → ∃ t,ρ[i]? = some (some t) ∧ ∀ w,Q' (.pth i (p ++ [st]) w) (ρ.set i (some (t.upd p (Ud x (V2 n st (.cel w z)))))):=fun q =>
    Xw (P:=fun t=>ρ[i]? = some (some t)) (fun a b e1 e2=>by rw [e1] at e2; cases e2; rfl) q fun t q2 w=>k _ _ fun j=>q2 j w
  cases z with
  | v d=>exact k _ _ h'
  | cel w z0=>exact k _ _ h'
  | pth _ _ _=>exact k _ _ h'
  | loc _=>exact (h' j).elim
  | _=>exact own h'
theorem Bi : C2 Vi:=fun {ι} _ x y ρ Q Q' h k=>by
  obtain ⟨j,_⟩:=i0 (ι:=ι)
  rcases h j with h0 | h0
  · exact .inl (Yf (fun i=>(h i).elim id fun q=>(Aa h0 q).elim) k)
  · exact .inr (JL7 (fun i=>(h i).elim (fun q=>(Aa q h0).elim) id) k)
end
section
variable {X : Cx} {P : Pm} {a b : Expr} {pos : Pos} {aa ab : AE}
theorem Xt (hu : X.A.units + 64 < cLine) (ha : QE X P a aa) (hb : QE X P b ab) (hs : PlainIx b:=by intro _ _; rfl) : QE X P (.Subscript a b pos) (aOp Vi aa ab) :=
  let ⟨_,p,s⟩:=ha.ex; let ⟨_,p2,s2⟩:=hb.ex; ⟨_,pe_ix (IxR.or ix_seq (JVw hu)) p p2 hs,G8 s s2 JLb⟩
/-- a name that holds a reference -/
def aAl (i : Nat) : AE:=fun _ ρ Q=>∃ j p w,ρ[i]? = some (some (.pth j p w)) ∧ Q (.pth j p w) ρ
theorem JL6 {K : Fg} {i : Nat} : Yw K P (tVar i) (aAl i):=fun c EA _ _ τ S H σ ρ Q R s ⟨j,p,w,e,q⟩ k=>by
  obtain ⟨⟨v,hv⟩,_⟩:=s.env.get e
  obtain ⟨g,ra⟩:=s.slotA e hv
  simp only [RepA] at ra
  obtain ⟨rfl,hw,_⟩:=ra
  exact ⟨v,hv,k _ _ ⟨S,ρ,.pth j p v,s.holdA rfl (by simp only [RepA]; exact ⟨trivial,hw,trivial⟩),q⟩⟩
theorem JUk {j : Nat} : CE (aAl j):=fun {ι} _ EA EA' ρ Q Q' h hx hq=>by
  obtain ⟨i,_⟩:=i0 (ι:=ι)
  obtain ⟨a,p,w,e,_⟩:=h i
  refine ⟨a,p,w,e,hq _ _ fun i=>?_⟩
  obtain ⟨a',p',w',e',q⟩:=h i
  rw [e] at e'; cases e'
  exact q
theorem qal (i : Nat) {x : Str} {pos : Pos} (hN : X.N[i]? = some x:=by rfl) (hv : Vis X.env.scope x:=by first | exact Or.inl rfl | exact Or.inr (Or.inl rfl) | exact Or.inr (Or.inr rfl)) (hd : (x == ("__debug__" : Str)) = false:=by decide)
    (hcd : (x == ("__classdict__" : Str)) = false:=by decide) : QE X P (.Name x pos) (aAl i):=⟨_,pe_var hN hv hd hcd,JL6⟩
end
end Vs
namespace Vs
open PySem PySem.Spec PyProof.Rows L2
variable [Tbs]
def mvQ : A → Bool
  | .v _=>true
  | y=>Zx y
def Bn : A → A
  | .v d=>.v d
  | _=>.v .any
def W5 (x : A) (ρ : J0) (k : A → J0 → Prop) : Prop:=match x with
  | .loc i=>∃ y,ρ[i]? = some (some y) ∧ mvQ y = true ∧ k y (ρ.set i (some (Bn y)))
  | y=>k y ρ
def X7 : List A → J0 → (List A → J0 → Prop) → Prop
  | [],ρ,k=>k [] ρ
  | x :: xs,ρ,k=>W5 x ρ fun y ρ'=>X7 xs ρ' fun ys ρ''=>k (y :: ys) ρ''
section
variable {K : Fg} {c : Ctx} {S H : Hp} {σ : L2.St} {ρ : J0} {τ : List (V × A)} {v : V} {x y : A} {i : Nat}
theorem RepA.lft {K : Fg} {S H : Hp} {y : A} {v : V} {g : List Addr} (h : RepA K S H y v g) (q : mvQ y = true) : RepA K S H (Bn y) v []:=by
  cases y with
  | v d =>
    simp only [RepA] at h
    exact RepA.ofv h.1
  | loc _=>cases q
  | cel _ _=>cases q
  | pth _ _ _=>cases q
  | _ =>
    obtain ⟨a,ha⟩:=h.isRef q
    exact RepA.ofv (by simp only [Rep]; exact ⟨a,ha⟩)
theorem JHn {y : A} : Y4 (Bn y) = false:=by cases y <;> rfl
theorem JHf {k : A → J0 → Prop} (s : Stt K c S H σ ρ ((v,x) :: τ)) (h : W5 x ρ k) : ∃ y ρ',Y4 y = false ∧ Stt K c S H σ ρ' ((v,y) :: τ) ∧ k y ρ':=by
  cases hx : Y4 x with
  | false =>
    refine ⟨x,ρ,hx,s,?_⟩
    cases x <;> first | exact h | cases hx
  | true =>
    cases x with
    | loc i =>
      obtain ⟨y,hy,hq,hk⟩:=h
      have hv : σ[i]? = some (some v):=(s.loc v i (List.mem_cons_self ..)).1
      have s0:=s.drop
      have hyl:=Kv (s0.env.get hy).2
      obtain ⟨fp,h1,h2,h3⟩:=s0.own
      have p : (Ji ρ σ ++ Jg τ).Perm ((v,y) :: (Ji (ρ.set i none) σ ++ Jg τ)):=List.Perm.append_right _ (Wh hy hv)
      obtain ⟨fq,q1,q2⟩:=RepP.perm p h1
      obtain ⟨g,f,a1,a2,a3⟩:=q1
      subst a3
      have p2 : ((v,Bn y) :: (Ji (ρ.set i none) σ ++ Jg τ)).Perm (Ji (ρ.set i (some (Bn y))) σ ++ Jg τ):=List.Perm.append_right _ (Xy (W1 hy) hv).symm
      obtain ⟨fr,c1,c2⟩:=RepP.perm p2 (show RepP K S H ((v,Bn y) :: (Ji (ρ.set i none) σ ++ Jg τ)) ([] ++ f) from ⟨[],f,a1.lft hq,a2,rfl⟩)
      have c2' : f.Perm fr:=c2
      have P1 : (g ++ fr).Perm (g ++ f):=List.Perm.append_left g c2'.symm
      refine ⟨y,_,hyl,Stt.push (g:=g) (h:=fr) hyl a1 c1 (P1.symm.nodup_iff.mp (q2.nodup_iff.mp h2)) (fun a ha=>h3 a (q2.symm.subset (P1.subset ha))) (s0.env.put (fun z e=>by cases e; exact ⟨⟨v,hv⟩,Xr JHn⟩)) (fun v' j m=>?_) s.le s.r s.new s.up s.os s.tb,hk⟩
      obtain ⟨z1,z,z2⟩:=s0.loc v' j m
      by_cases e : i = j
      · subst e; exact ⟨z1,_,by rw [List.getElem?_set_self (W1 hy)]⟩
      · exact ⟨z1,z,by rw [List.getElem?_set_ne e]; exact z2⟩
    | _=>cases hx
end
section
variable {X : Cx} {P : Pm} {K : Fg} {pos : Pos}
/-- [a,b,..] with owned items; (a,b,..) -/
def JX2 (aa : AA) : AE:=fun EA ρ Q=>aa EA ρ fun xs ρ1=>xs.length ≤ 1000 ∧ X7 xs ρ1 fun ys ρ2=>Q (.nl ys) ρ2
def JMc (aa : AA) : AE:=fun EA ρ Q=>aa EA ρ fun xs ρ1=>xs.length ≤ 1000 ∧ X7 xs ρ1 fun ys ρ2=>Q (.nt ys) ρ2
/-- o.append(e),o a flat list at a path -/
def Hh (o : A) (d : D) (ρ : J0) (Q : AK) : Prop:=∃ i p xs t,Y8 o ρ = some (i,p,.lst xs) ∧ xs.length ≤ 100000 ∧ ρ[i]? = some (some t) ∧ Q (.v .non) (ρ.set i (some (t.upd p (Ud o (.lst (xs ++ [d]))))))
def Kl (ao ae : AE) : AE:=fun EA ρ Q=>ao EA ρ fun o ρ1=>(∃ xs,dat o ρ1 = some (.lst xs)) ∧ ae EA ρ1 fun x ρ2=>Yd x ρ2 fun d ρ3=>Hh o d ρ3 Q
theorem JYi {K : Fg} {S H : Hp} {xs : List D} {p : Addr} : ∀ g,RepA K S H (.lst xs) (.ref p) g → g = [p]:=fun g h=>by
  obtain ⟨a',_,e,_,_,e2⟩:=h.lst_inv
  cases e; exact e2
theorem JBv {o e : Expr} {ao ae : AE} {apos cpos : Pos} (ho' : QE X P o ao) (he : QE X P e ae) (hbase : attributeBase o "append" X.env (eval o X.env) = eval o X.env:=by rfl)
    (hfew : ((backTo cpos (starEach (e :: []) X.env)).all (fun x=>!x.1) && (backToKw cpos (keywordEach [] X.env)).all (fun x=>x.1.isSome)
      && decide ((e :: []).length + ([] : List Keyword).length + (if ([] : List Keyword).isEmpty then 0 else 1) < 30)) = true:=by rfl)
    (hline : (apos.endLine == cpos.line) = true:=by rfl) (hs : starEach [e] X.env = (false,eval e X.env) :: starEach [] X.env:=by rfl) (hplain : (backTo cpos (starEach [] X.env)).any (·.1) = false:=by rfl) :
    QE X P (.Call (.Attribute o "append" apos) [e] [] cpos) (Kl ao ae):=by
  obtain ⟨to,po,so⟩:=ho'.ex
  obtain ⟨te,pe,se⟩:=he.ex
  refine ⟨_,pe_bm PySem.F.plainAttrs_list PySem.F.slot_list_append PySem.F.type_list_append mt_append po (pa_cons pe pa_nil hs) hbase hfew hline hs hplain,fun c EA ho hw τ S H σ ρ Q R st q k=>so c EA ho hw τ S H σ ρ _ _ st q fun vo H1 ⟨S1,ρ1,xo,s1,⟨xs0,h0⟩,q1⟩=>?_⟩
  obtain ⟨y0,g0,r0,e0⟩:=s1.thing (List.mem_cons_self ..) h0
  obtain ⟨p,vs,rfl,h3,h4⟩:=Vy r0 e0 s1.le
  refine ⟨.inl ⟨rfl,vs,h3⟩,se c EA ho hw _ S1 H1 σ ρ1 _ _ s1 q1 fun v H2 ⟨S2,ρ2,x,s2,q2⟩=>?_⟩
  obtain ⟨S3,d,ρ3,sm,s3,i,pa,xs,t,hno,hn,ht,q3⟩:=W3 s2 q2
  have mo : (V.ref p,xo) ∈ (v,A.v d) :: (V.ref p,xo) :: τ:=by simp
  obtain ⟨t',g,f,a1,ra,_⟩:=s3.node mo hno
  obtain ⟨p',ws,e1,hp,rl,_⟩:=ra.lst_inv
  cases e1
  have rd : Rep X.K S3 d v:=s3.data
  refine ⟨p,ws,v,rfl,rfl,hp,by rw [rl.len]; exact Nat.lt_of_le_of_lt hn (by decide),?_⟩
  obtain ⟨t2,ht2,s5⟩:=s3.writeN (o:=.lst (ws ++ [v])) (n':=.lst (xs ++ [d])) mo hno JYi hp rfl (.mk_lst upd_same (rl.app (by simp only [RepL]; exact ⟨v,[],rfl,rd,rfl⟩)))
  rw [ht] at ht2
  cases ht2
  exact k _ _ ⟨S3,_,.v .non,s5.drop.drop.hold (Z0 rfl),q3⟩
/-- o.insert(i,e) -/
def Mx (o iv : A) (d : D) (ρ : J0) (Q : AK) : Prop:=∃ i p xs k t,Y8 o ρ = some (i,p,.lst xs) ∧ dat iv ρ = some (.int k) ∧ 0 ≤ k ∧ k < 2 ^ 63 ∧ xs.length ≤ 100000 ∧ ρ[i]? = some (some t) ∧ Q (.v .non) (ρ.set i (some (t.upd p (Ud o (.lst (xs.take k.toNat ++ [d] ++ xs.drop k.toNat))))))
def JXw (ao ai ae : AE) : AE:=fun EA ρ Q=>ao EA ρ fun o ρ1=>(∃ xs,dat o ρ1 = some (.lst xs)) ∧ ai EA ρ1 fun iv ρ2=>ae EA ρ2 fun x ρ3=>Yd x ρ3 fun d ρ4=>Mx o iv d ρ4 Q
/-- o[i] += e,o a flat dict at a path -/
def Mr (o iv : A) (ρ : J0) (k : Key → List (Key × D) → Int → Prop) : Prop:=∃ d kk kvs x,dat o ρ = some (.dic kvs) ∧ dat iv ρ = some d ∧ keyD d = some kk ∧ valD kvs kk = some (.int x) ∧ k kk kvs x
def Lr (o : A) (kk : Key) (x : Int) (y : A) (ρ : J0) (nx : J0 → Prop) : Prop:=∃ j i p kvs t,dat y ρ = some (.int j) ∧ Y8 o ρ = some (i,p,.dic kvs) ∧ kvs.length ≤ 100000 ∧ ρ[i]? = some (some t) ∧ nx (ρ.set i (some (t.upd p (Ud o (.dic (putD kvs kk (.int (x + j))))))))
def JLt (ao ai ae : AE) : AS:=fun DA ρ=>ao DA.ex ρ fun o ρ1=>ai DA.ex ρ1 fun iv ρ2=>Mr o iv ρ2 fun kk _ x=>ae DA.ex ρ2 fun y ρ3=>Lr o kk x y ρ3 DA.nx
end
end Vs
namespace Vs
open PySem PySem.Spec PyProof.Rows L2
variable [Tbs]
section
variable {K : Fg} {S H H' : Hp}
theorem RepAL.len : ∀ {xs : List A} {vs : List V} {g : List Addr},RepAL K S H xs vs g → vs.length = xs.length
  | [],vs,g,h=>by simp only [RepAL] at h; rw [h.1]; rfl
  | x :: xs,vs,g,h=>by
    simp only [RepAL] at h
    obtain ⟨_,r,_,_,rfl,_,h2,_⟩:=h
    simp [RepAL.len h2]
theorem RepAL.put {y : A} {v : V} {gy : List Addr} (hy : RepA K S H y v gy) : ∀ {xs : List A} {vs : List V} {fp : List Addr} {i : Nat},RepAL K S H xs vs fp → i < xs.length → ∃ fp' r,RepAL K S H (xs.set i y) (vs.set i v) fp' ∧ fp'.Perm (gy ++ r) ∧ r.Sublist fp
  | [],vs,fp,i,h,hi=>by simp at hi
  | x :: xs,vs,fp,0,h,hi=>by
    simp only [RepAL] at h
    obtain ⟨u,r,g,h',rfl,h1,h2,rfl⟩:=h
    refine ⟨gy ++ h',h',?_,.refl _,List.sublist_append_right _ _⟩
    simp only [List.set_cons_zero,RepAL]
    exact ⟨v,r,gy,h',rfl,hy,h2,rfl⟩
  | x :: xs,vs,fp,i + 1,h,hi=>by
    simp only [RepAL] at h
    obtain ⟨u,r,g,h',rfl,h1,h2,rfl⟩:=h
    obtain ⟨fp',r',a1,a2,a3⟩:=RepAL.put hy (i:=i) h2 (by simpa using hi)
    refine ⟨g ++ fp',g ++ r',?_,(List.Perm.append_left g a2).trans (by
      rw [← List.append_assoc,← List.append_assoc]
      exact List.Perm.append_right _ List.perm_append_comm),List.Sublist.append (.refl _) a3⟩
    simp only [List.set_cons_succ,RepAL]
    exact ⟨u,r.set i v,g,fp',rfl,h1,a1,rfl⟩
theorem RepAK.fst : ∀ {xs : List (Key × A)} {vs : List (Key × V)} {g : List Addr},RepAK K S H xs vs g → vs.map (·.1) = xs.map (·.1)
  | [],vs,g,h=>by simp only [RepAK] at h; rw [h.1]; rfl
  | (k,x) :: xs,vs,g,h=>by
    simp only [RepAK] at h
    obtain ⟨_,r,_,_,rfl,_,h2,_⟩:=h
    simp [RepAK.fst h2]
theorem RepAK.app {k : Key} {y : A} {v : V} {gy : List Addr} (hy : RepA K S H y v gy) : ∀ {xs : List (Key × A)} {vs : List (Key × V)} {fp : List Addr},RepAK K S H xs vs fp → RepAK K S H (xs ++ [(k,y)]) (vs ++ [(k,v)]) (fp ++ gy)
  | [],vs,fp,h=>by
    simp only [RepAK] at h
    obtain ⟨rfl,rfl⟩:=h
    simp only [List.nil_append,RepAK]
    exact ⟨v,[],gy,[],rfl,hy,⟨rfl,rfl⟩,by simp⟩
  | (k',x) :: xs,vs,fp,h=>by
    simp only [RepAK] at h
    obtain ⟨u,r,g,h',rfl,h1,h2,rfl⟩:=h
    simp only [List.cons_append,RepAK]
    exact ⟨u,r ++ [(k,v)],g,h' ++ gy,rfl,h1,RepAK.app hy h2,by rw [List.append_assoc]⟩
theorem JL5 {α : Type} {ws : List (Key × α)} {k : Key} {v : α} (h : k ∉ ws.map (·.1)) : ws.map (fun kv=>if kv.1 = k then (kv.1,v) else kv) = ws:=by
  induction ws with
  | nil=>rfl
  | cons w ws ih =>
    obtain ⟨k',u⟩:=w
    have h1 : k' ≠ k:=fun e=>h (by simp [e])
    simp only [List.map_cons,if_neg h1]
    rw [ih fun m=>h (by simp at m ⊢; exact .inr m)]
theorem RepAK.put {k : Key} {y : A} {v : V} {gy : List Addr} (hy : RepA K S H y v gy) : ∀ {xs : List (Key × A)} {vs : List (Key × V)} {fp : List Addr} {x0 : A},RepAK K S H xs vs fp → Uo xs k = some x0 → (xs.map (·.1)).Nodup →
    ∃ fp' r,RepAK K S H (Zq xs k y) (vs.map fun kv=>if kv.1 = k then (kv.1,v) else kv) fp' ∧ fp'.Perm (gy ++ r) ∧ r.Sublist fp
  | [],vs,fp,x0,h,hi,_=>by simp [Uo] at hi
  | (k',x) :: xs,vs,fp,x0,h,hi,hn=>by
    have hf:=RepAK.fst h
    simp only [RepAK] at h
    obtain ⟨u,r,g,h',rfl,h1,h2,rfl⟩:=h
    simp only [Uo] at hi
    simp only [List.map_cons,List.nodup_cons] at hn
    by_cases q : k' = k
    · subst q
      refine ⟨gy ++ h',h',?_,.refl _,List.sublist_append_right _ _⟩
      have hs : k' ∉ r.map (·.1):=by
        rw [RepAK.fst h2]
        exact hn.1
      simp only [Zq,↓reduceIte,List.map_cons,JL5 hs,RepAK]
      exact ⟨v,r,gy,h',rfl,hy,h2,rfl⟩
    · rw [if_neg q] at hi
      obtain ⟨fp',r',a1,a2,a3⟩:=RepAK.put hy h2 hi hn.2
      refine ⟨g ++ fp',g ++ r',?_,(List.Perm.append_left g a2).trans (by
        rw [← List.append_assoc,← List.append_assoc]
        exact List.Perm.append_right _ List.perm_append_comm),List.Sublist.append (.refl _) a3⟩
      simp only [Zq,if_neg q,List.map_cons,RepAK]
      exact ⟨u,_,g,fp',rfl,h1,a1,rfl⟩
/-- a dict of data as one whose items may be owned -/
def Fh (kvs : List (Key × D)) : List (Key × A):=kvs.map fun q=>(q.1,.v q.2)
theorem RepK.lift : ∀ {kvs : List (Key × D)} {ws : List (Key × V)},RepK K S kvs ws → RepAK K S H (Fh kvs) ws []
  | [],ws,h=>by
    simp only [RepK] at h
    simp only [Fh,List.map_nil,RepAK]
    exact ⟨h,trivial⟩
  | (k,d) :: kvs,ws,h=>by
    simp only [RepK] at h
    obtain ⟨v,r,rfl,h1,h2⟩:=h
    have ih : RepAK K S H (Fh kvs) r []:=RepK.lift h2
    show RepAK K S H ((k,A.v d) :: Fh kvs) ((k,v) :: r) []
    simp only [RepAK]
    exact ⟨v,r,[],[],rfl,RepA.ofv h1,ih,rfl⟩
end
def Lf (kvs : List (Key × A)) (k : Key) (y : A) : Option A:=match Uo kvs k with
  | none=>some (.nd (kvs ++ [(k,y)]))
  | some _=>if (kvs.map (·.1)).Nodup then some (.nd (Zq kvs k y)) else none
/-- what stands behind n[d] = y -/
def putN (n : A) (d : D) (y : A) : Option A:=match n with
  | .nl xs=>(match d with
    | .int k=>(ixN xs.length k).map fun j=>.nl (xs.set j y)
    | _=>none)
  | .nd kvs=>(keyD d).bind fun k=>Lf kvs k y
  | .dic kvs=>(keyD d).bind fun k=>Lf (Fh kvs) k y
  | _=>none
def Od : A → Nat
  | .nd kvs=>kvs.length
  | .dic kvs=>kvs.length
  | _=>0
section
variable {K : Fg} {c : Ctx} {S H : Hp} {σ : L2.St} {ρ : J0} {τ : List (V × A)} {v ve vi : V} {x y n n' : A} {i : Nat} {p : List Stp} {d : D}
/-- .. in the heap -/
theorem T5 {fp gx : List Addr} {kvs : List (Key × A)} {ws : List (Key × V)} {kk : Key} (hk : RepAK K S H kvs ws fp) (hy : RepA K S H y ve gx) (h : Lf kvs kk y = some n') : ∃ xs fp' r,n' = .nd xs ∧ RepAK K S H xs (putK ws kk ve) fp' ∧ fp'.Perm (gx ++ r) ∧ r.Sublist fp:=by
  have hf:=RepAK.fst hk
  unfold Lf at h
  cases e : Uo kvs kk with
  | none =>
    rw [e] at h
    cases h
    have nk : ∀ {kvs : List (Key × A)},Uo kvs kk = none → kk ∉ kvs.map (·.1):=by
      intro kvs
      induction kvs with
      | nil=>intro _ m; simp at m
      | cons q kvs ih =>
        obtain ⟨k',z⟩:=q
        intro h m
        simp only [Uo] at h
        by_cases e : k' = kk
        · rw [if_pos e] at h; cases h
        · rw [if_neg e] at h
          rcases List.mem_cons.mp (by simpa using m : kk ∈ k' :: kvs.map (·.1)) with q | q
          · exact e q.symm
          · exact ih h q
    have nw : (ws.any fun kv=>decide (kv.1 = kk)) = false:=by
      rw [List.any_eq_false]
      intro q hq
      have : kk ∉ ws.map (·.1):=by rw [hf]; exact nk e
      have hne : q.1 ≠ kk:=fun z=>this (by rw [← z]; exact List.mem_map.mpr ⟨q,hq,rfl⟩)
      simpa using hne
    refine ⟨_,fp ++ gx,fp,rfl,?_,List.perm_append_comm,.refl _⟩
    unfold putK
    rw [nw]
    simpa using RepAK.app hy hk
  | some x0 =>
    rw [e] at h
    dsimp only at h
    split at h
    · rename_i hn
      cases h
      obtain ⟨fp',r,a1,a2,a3⟩:=RepAK.put hy hk e hn
      have nw : (ws.any fun kv=>decide (kv.1 = kk)) = true:=by
        have mk : ∀ {kvs : List (Key × A)},Uo kvs kk = some x0 → kk ∈ kvs.map (·.1):=by
          intro kvs
          induction kvs with
          | nil=>intro h; simp [Uo] at h
          | cons q kvs ih =>
            obtain ⟨k',z⟩:=q
            intro h
            simp only [Uo] at h
            by_cases e : k' = kk
            · simp [e]
            · rw [if_neg e] at h
              have:=ih h
              simp at this ⊢
              exact .inr this
        have : kk ∈ ws.map (·.1):=by rw [hf]; exact mk e
        obtain ⟨q,hq,hk⟩:=List.mem_map.mp this
        rw [List.any_eq_true]
        exact ⟨q,hq,by simpa using hk⟩
      refine ⟨_,fp',r,rfl,?_,a2,a3⟩
      unfold putK
      rw [if_pos nw]
      exact a1
    · cases h
theorem JBi {R : Hp → Prop} (s : Stt K c S H σ ρ ((ve,y) :: τ)) (hy : Y4 y = false) (m : (v,x) ∈ τ) (h : Y8 x ρ = some (i,p,n)) (hi : Rep K H d vi) (hp : putN n d y = some n') (hz : Od n ≤ 100000)
    (k : ∀ H' t,ρ[i]? = some (some t) → Stt K c S H' σ (ρ.set i (some (t.upd p (Ud x n')))) τ → R H') : rSetL v vi ve H R ∨ rSetD v vi ve H R:=by
  obtain ⟨t,gx,g,f,a1,a2,a3,a4,a5,a6⟩:=s.nodeWith hy m h
  have nd1:=(List.nodup_append.mp a4)
  have nd2:=(List.nodup_append.mp nd1.2.1)
  have go : ∀ (a : Addr) (o u : HO) (r fp' : List Addr),v = .ref a → H a = some u → spc u = false → (∃ g0,g = a :: g0 ∧ r.Sublist g0) → fp'.Perm (gx ++ r) → RepA K S (upd H a o) n' v (a :: fp') → ∃ H',H' = upd H a o ∧ R H':=by
    rintro a o u r fp' rfl ha hu ⟨g0,rfl,hr⟩ hpm hn
    have inn : ∀ b,b ∈ a :: fp' → b = a ∨ b ∈ gx ∨ b ∈ g0:=fun b hb=>by
      rcases List.mem_cons.mp hb with q | q
      · exact .inl q
      · rcases List.mem_append.mp (hpm.subset q) with q | q
        · exact .inr (.inl q)
        · exact .inr (.inr (hr.subset q))
    have aIn : a ∈ gx ++ (a :: g0 ++ f):=by simp
    have na : a ∉ f:=fun z=>nd2.2.2 a (by simp) a z rfl
    have ax : a ∉ gx:=fun z=>nd1.2.2 a z a (by simp) rfl
    have a0 : a ∉ g0:=(List.nodup_cons.mp nd2.1).1
    have Sa : S a = none:=(a5 a aIn).1
    have Ra : c.R a = none:=(a5 a aIn).2
    refine ⟨_,rfl,k _ t a1 (a6 (upd H a o) n' (a :: fp') (fun b hb=>upd_ne (fun z=>na (z ▸ hb))) hn ?_ ?_ (s.le.up Sa) (fun b o' e=>by rw [upd_ne (ne_of_none e Ra)]; exact s.r b o' e) (s.tb.put ha hu))⟩
    · have ndp : (gx ++ r).Nodup:=List.nodup_append.mpr ⟨nd1.1,List.Sublist.nodup hr (List.nodup_cons.mp nd2.1).2,fun b hb b' hb' e=>nd1.2.2 b hb b' (by simp [hr.subset hb']) e⟩
      refine List.nodup_append.mpr ⟨List.nodup_cons.mpr ⟨fun z=>?_,hpm.symm.nodup_iff.mp ndp⟩,nd2.2.1,fun b hb b' hb' e=>?_⟩
      · rcases List.mem_append.mp (hpm.subset z) with q | q
        · exact ax q
        · exact a0 (hr.subset q)
      · subst e
        rcases inn b hb with q | q | q
        · subst q; exact na hb'
        · exact nd1.2.2 b q b (by simp [hb']) rfl
        · exact nd2.2.2 b (by simp [q]) b hb' rfl
    · intro b hb
      rcases List.mem_append.mp hb with q | q
      · rcases inn b q with q | q | q
        · subst q; exact ⟨Sa,Ra⟩
        · exact a5 b (by simp [q])
        · exact a5 b (by simp [q])
      · exact a5 b (by simp [q])
  cases n with
  | nl xs =>
    cases d with
    | int j =>
      simp only [Rep] at hi
      subst hi
      simp only [putN] at hp
      cases e : ixN xs.length j with
      | none=>rw [e] at hp; cases hp
      | some jj =>
        rw [e] at hp
        have e1:=(Option.some.inj hp).symm
        subst e1
        simp only [RepA] at a3
        obtain ⟨a,vs,g0,rfl,b1,b2,rfl⟩:=a3
        have lt : jj < xs.length:=by
          unfold ixN at e
          split at e
          · split at e
            · cases e; omega
            · cases e
          · split at e
            · cases e; omega
            · cases e
        have kp : ∀ b ∈ gx ++ g0,upd H a (.lst (vs.set jj ve)) b = H b:=fun b hb=>upd_ne fun z=>by
          subst z
          rcases List.mem_append.mp hb with q | q
          · exact nd1.2.2 b q b (by simp) rfl
          · exact (List.nodup_cons.mp nd2.1).1 q
        have y1 : RepA K S (upd H a (.lst (vs.set jj ve))) y ve gx:=a2.keep (Same.refl S) y ve gx fun b hb=>kp b (List.mem_append_left _ hb)
        have l1:=RepAL.keep (Same.refl S) xs vs g0 (fun b hb=>kp b (List.mem_append_right _ hb)) b2
        obtain ⟨fp',r,c1,c2,c3⟩:=RepAL.put y1 l1 lt
        obtain ⟨H',rfl,hR⟩:=go a (.lst (vs.set jj ve)) _ r fp' rfl b1 rfl ⟨g0,rfl,c3⟩ c2 (by
          simp only [RepA]
          exact ⟨a,_,fp',rfl,upd_same,c1,rfl⟩)
        exact .inl ⟨a,vs,j,jj,rfl,rfl,b1,by rw [b2.len]; exact e,hR⟩
    | _=>cases hp
  | nd kvs =>
    simp only [putN] at hp
    cases e : keyD d with
    | none=>rw [e] at hp; cases hp
    | some kk =>
      rw [e] at hp
      have ek:=X3 e hi
      subst ek
      simp only [RepA] at a3
      obtain ⟨a,ws,g0,rfl,b1,b2,rfl⟩:=a3
      have kp : ∀ b ∈ gx ++ g0,upd H a (.dK (putK ws kk ve)) b = H b:=fun b hb=>upd_ne fun z=>by
        subst z
        rcases List.mem_append.mp hb with q | q
        · exact nd1.2.2 b q b (by simp) rfl
        · exact (List.nodup_cons.mp nd2.1).1 q
      have y1 : RepA K S (upd H a (.dK (putK ws kk ve))) y ve gx:=a2.keep (Same.refl S) y ve gx fun b hb=>kp b (List.mem_append_left _ hb)
      have l1:=RepAK.keep (Same.refl S) kvs ws g0 (fun b hb=>kp b (List.mem_append_right _ hb)) b2
      obtain ⟨xs,fp',r,rfl,c1,c2,c3⟩:=T5 l1 y1 hp
      obtain ⟨H',rfl,hR⟩:=go a (.dK (putK ws kk ve)) _ r fp' rfl b1 rfl ⟨g0,rfl,c3⟩ c2 (by
        simp only [RepA]
        exact ⟨a,_,fp',rfl,upd_same,c1,rfl⟩)
      have lw : ws.length = kvs.length:=by
        have:=congrArg List.length (RepAK.fst b2)
        simpa using this
      exact .inr ⟨a,_,rfl,.inl ⟨ws,kk,b1,rfl,by rw [lw]; exact Nat.lt_of_le_of_lt hz (by decide),rfl⟩,hR⟩
  | dic kvs =>
    simp only [putN] at hp
    cases e : keyD d with
    | none=>rw [e] at hp; cases hp
    | some kk =>
      rw [e] at hp
      have ek:=X3 e hi
      subst ek
      obtain ⟨a,ws,rfl,b1,b2,rfl⟩:=a3.dic_inv
      have kp : ∀ b ∈ gx,upd H a (.dK (putK ws kk ve)) b = H b:=fun b hb=>upd_ne fun z=>by
        subst z
        exact nd1.2.2 b hb b (by simp) rfl
      have y1 : RepA K S (upd H a (.dK (putK ws kk ve))) y ve gx:=a2.keep (Same.refl S) y ve gx kp
      have l1 : RepAK K S (upd H a (.dK (putK ws kk ve))) (Fh kvs) ws []:=b2.lift
      obtain ⟨xs,fp',r,rfl,c1,c2,c3⟩:=T5 l1 y1 hp
      obtain ⟨H',rfl,hR⟩:=go a (.dK (putK ws kk ve)) _ r fp' rfl b1 rfl ⟨[],rfl,c3⟩ c2 (by
        simp only [RepA]
        exact ⟨a,_,fp',rfl,upd_same,c1,rfl⟩)
      exact .inr ⟨a,_,rfl,.inl ⟨ws,kk,b1,rfl,by rw [b2.len]; exact Nat.lt_of_le_of_lt hz (by decide),rfl⟩,hR⟩
  | _=>cases hp
end
section
variable {X : Cx} {P : Pm} {K : Fg} {pos : Pos}
def Fz (o iv y : A) (ρ : J0) (nx : J0 → Prop) : Prop:=∃ i p n d n' t,Y8 o ρ = some (i,p,n) ∧ dat iv ρ = some d ∧ putN n d y = some n' ∧ Od n ≤ 100000 ∧ ρ[i]? = some (some t) ∧ nx (ρ.set i (some (t.upd p (Ud o n'))))
/-- o[i] = e,e kept as it is -/
def M6 (av ao ai : AE) : AS:=fun DA ρ=>av DA.ex ρ fun x ρ1=>W5 x ρ1 fun y ρ2=>ao DA.ex ρ2 fun o ρ3=>ai DA.ex ρ3 fun iv ρ4=>Fz o iv y ρ4 DA.nx
theorem JX1 {o i e : Expr} {av ao ai : AE} {pos' : Pos} (hu : X.A.units + 64 < cLine) (hv : QE X P e av) (ho' : QE X P o ao) (hi : QE X P i ai)
    (ha : ∀ v,assign (.Subscript o i pos') X.env v = (do
      let ov ← holding [v] (eval o X.env)
      let iv ← holding [v,ov] (eval i X.env)
      standAt pos'
      holding [v,ov,iv] (setItem ov iv v)
      release [v,ov,iv] []):=by intro _; rfl)
    (hs : swapsWithSole [.Subscript o i pos'] e pos.line X.env = pure false:=by rfl) (hw : swappedStores [.Subscript o i pos'] e X.env = pure none:=by rfl)
    (h1 : (assignEach [.Subscript o i pos'] X.env).map (·.2) = [assign (.Subscript o i pos') X.env]:=by rfl) : QS X P (.Assign [.Subscript o i pos'] e pos) (M6 av ao ai):=by
  obtain ⟨tv,pv,sv⟩:=hv.ex
  obtain ⟨to,po,so⟩:=ho'.ex
  obtain ⟨ti,pi,si⟩:=hi.ex
  refine ⟨_,ps_asg pv (pg_sub po pi (PSet.or set_list (set_dict (by omega))) ha) hs hw h1,fun c D DA ho hw l S H σ ρ st q=>sv c DA.ex ho hw [] S H σ ρ _ _ st q fun v H1 ⟨S1,ρ1,x,s1,q1⟩=>?_⟩
  obtain ⟨y,ρ2,hy,s2,q2⟩:=JHf s1 q1
  refine so c DA.ex ho hw _ S1 H1 σ ρ2 _ _ s2 q2 fun vo H2 ⟨S3,ρ3,xo,s3,q3⟩=>si c DA.ex ho hw _ S3 H2 σ ρ3 _ _ s3 q3 fun vi H3 ⟨S4,ρ4,xi,s4,i,p,n,d,n',t,e1,e2,e3,e4,e5,q4⟩=>?_
  have rk:=s4.dat (List.mem_cons_self ..) e2
  have s5 : Stt X.K c S4 H3 σ ρ4 ((v,y) :: (vi,xi) :: (vo,xo) :: []):=s4.swap (by
    have p1 : [(vi,xi),(vo,xo),(v,y)].Perm ((v,y) :: ([(vi,xi),(vo,xo)] ++ [])):=by
      have:=List.perm_middle (l₁:=[(vi,xi),(vo,xo)]) (a:=(v,y)) (l₂:=[])
      simpa using this
    simpa using p1)
  exact JBi s5 hy (by simp) e1 rk e3 e4 fun H' t' ht' s6=>by
    rw [e5] at ht'
    cases ht'
    exact l.nx S4 H' σ _ s6.drop.drop q4
end
end Vs
namespace Vs
open PySem PySem.Spec PyProof.Rows L2
variable [Tbs]
mutual
/-- the datum that an owned thing is,to the ground -/
def Yy : A → Option D
  | .v d=>some d
  | .lst xs=>some (.lst xs)
  | .dic kvs=>some (.dic kvs)
  | .obj C fs=>(Bm fs).map (.obj C)
  | .nl xs=>(Zy xs).map .lst
  | .nt xs=>(Zy xs).map .tup
  | .nd kvs=>(B4 kvs).map .dic
  | .cel _ x=>Yy x
  | .loc _=>none
  | .pth _ _ _=>none
def Zy : List A → Option (List D)
  | []=>some []
  | x :: r=>(Yy x).bind fun d=>(Zy r).map fun ds=>d :: ds
def B4 : List (Key × A) → Option (List (Key × D))
  | []=>some []
  | (k,x) :: r=>(Yy x).bind fun d=>(B4 r).map fun ds=>(k,d) :: ds
def Bm : List (Str × A) → Option (List (Str × D))
  | []=>some []
  | (k,x) :: r=>(Yy x).bind fun d=>(Bm r).map fun ds=>(k,d) :: ds
end
section
variable {K : Fg} {S H : Hp}
mutual
theorem RepA.full {T : Hp} (hs : Le S T) : ∀ (x : A) (v : V) (fp : List Addr) (d : D),Yy x = some d → (∀ a ∈ fp,∀ o,H a = some o → T a = some o) → RepA K S H x v fp → Rep K T d v
  | .v d0,v,fp,d,e,_,h=>by
    simp only [Yy] at e
    cases e
    simp only [RepA] at h
    exact Rep.le hs _ v h.1
  | .lst xs,v,fp,d,e,hk,h=>by
    simp only [Yy] at e
    cases e
    exact RepA.plain hs (.lst xs) v fp hk h
  | .dic xs,v,fp,d,e,hk,h=>by
    simp only [Yy] at e
    cases e
    exact RepA.plain hs (.dic xs) v fp hk h
  | .obj C fs,v,fp,d,e,hk,h=>by
    simp only [Yy] at e
    cases q : Bm fs with
    | none=>rw [q] at e; cases e
    | some ds =>
      rw [q] at e
      cases e
      simp only [RepA] at h
      obtain ⟨a,dx,vs,g,e,h1,h2,h3⟩:=h
      simp only [Rep]
      exact ⟨a,dx,vs,e,hk a (by simp [h3]) _ h1,RepAF.full hs fs vs g ds q (fun b hb=>hk b (by simp [h3,hb])) h2⟩
  | .nl xs,v,fp,d,e,hk,h=>by
    simp only [Yy] at e
    cases q : Zy xs with
    | none=>rw [q] at e; cases e
    | some ds =>
      rw [q] at e
      cases e
      simp only [RepA] at h
      obtain ⟨a,vs,g,e,h1,h2,h3⟩:=h
      simp only [Rep]
      exact ⟨a,vs,e,SqL.of (hk a (by simp [h3]) _ h1),RepAL.full hs xs vs g ds q (fun b hb=>hk b (by simp [h3,hb])) h2⟩
  | .nt xs,v,fp,d,e,hk,h=>by
    simp only [Yy] at e
    cases q : Zy xs with
    | none=>rw [q] at e; cases e
    | some ds =>
      rw [q] at e
      cases e
      simp only [RepA] at h
      obtain ⟨a,vs,g,e,h1,h2,h3⟩:=h
      simp only [Rep]
      exact ⟨a,vs,e,SqT.of (hk a (by simp [h3]) _ h1),RepAL.full hs xs vs g ds q (fun b hb=>hk b (by simp [h3,hb])) h2⟩
  | .nd xs,v,fp,d,e,hk,h=>by
    simp only [Yy] at e
    cases q : B4 xs with
    | none=>rw [q] at e; cases e
    | some ds =>
      rw [q] at e
      cases e
      simp only [RepA] at h
      obtain ⟨a,vs,g,e,h1,h2,h3⟩:=h
      simp only [Rep]
      exact ⟨a,vs,e,.inl (hk a (by simp [h3]) _ h1),RepAK.full hs xs vs g ds q (fun b hb=>hk b (by simp [h3,hb])) h2⟩
  | .cel w x,v,fp,d,e,hk,h=>by
    simp only [Yy] at e
    simp only [RepA] at h
    exact RepA.full hs x v fp d e hk h.2.2
  | .loc i,v,fp,d,e,hk,h=>by
    simp only [Yy] at e
    cases e
  | .pth i p w,v,fp,d,e,hk,h=>by
    simp only [Yy] at e
    cases e
theorem RepAF.full {T : Hp} (hs : Le S T) : ∀ (xs : List (Str × A)) (vs : List (Str × V)) (fp : List Addr) (ds : List (Str × D)),Bm xs = some ds → (∀ a ∈ fp,∀ o,H a = some o → T a = some o) → RepAF K S H xs vs fp → RepF K T ds vs
  | [],vs,fp,ds,e,_,h=>by
    simp only [Bm] at e
    cases e
    simp only [RepAF] at h
    simpa only [RepF] using h.1
  | (k,x) :: xs,vs,fp,ds,e,hk,h=>by
    simp only [Bm] at e
    cases q : Yy x with
    | none=>rw [q] at e; cases e
    | some d =>
      rw [q] at e
      cases q2 : Bm xs with
      | none=>rw [q2] at e; cases e
      | some r0 =>
        rw [q2] at e
        cases e
        simp only [RepAF] at h
        obtain ⟨v,r,g,g',e,h1,h2,h3⟩:=h
        simp only [RepF]
        exact ⟨v,r,e,RepA.full hs x v g d q (fun b hb=>hk b (by simp [h3,hb])) h1,RepAF.full hs xs r g' r0 q2 (fun b hb=>hk b (by simp [h3,hb])) h2⟩
theorem RepAL.full {T : Hp} (hs : Le S T) : ∀ (xs : List A) (vs : List V) (fp : List Addr) (ds : List D),Zy xs = some ds → (∀ a ∈ fp,∀ o,H a = some o → T a = some o) → RepAL K S H xs vs fp → RepL K T ds vs
  | [],vs,fp,ds,e,_,h=>by
    simp only [Zy] at e
    cases e
    simp only [RepAL] at h
    simpa only [RepL] using h.1
  | x :: xs,vs,fp,ds,e,hk,h=>by
    simp only [Zy] at e
    cases q : Yy x with
    | none=>rw [q] at e; cases e
    | some d =>
      rw [q] at e
      cases q2 : Zy xs with
      | none=>rw [q2] at e; cases e
      | some r0 =>
        rw [q2] at e
        cases e
        simp only [RepAL] at h
        obtain ⟨v,r,g,g',e,h1,h2,h3⟩:=h
        simp only [RepL]
        exact ⟨v,r,e,RepA.full hs x v g d q (fun b hb=>hk b (by simp [h3,hb])) h1,RepAL.full hs xs r g' r0 q2 (fun b hb=>hk b (by simp [h3,hb])) h2⟩
theorem RepAK.full {T : Hp} (hs : Le S T) : ∀ (xs : List (Key × A)) (vs : List (Key × V)) (fp : List Addr) (ds : List (Key × D)),B4 xs = some ds → (∀ a ∈ fp,∀ o,H a = some o → T a = some o) → RepAK K S H xs vs fp → RepK K T ds vs
  | [],vs,fp,ds,e,_,h=>by
    simp only [B4] at e
    cases e
    simp only [RepAK] at h
    simpa only [RepK] using h.1
  | (k,x) :: xs,vs,fp,ds,e,hk,h=>by
    simp only [B4] at e
    cases q : Yy x with
    | none=>rw [q] at e; cases e
    | some d =>
      rw [q] at e
      cases q2 : B4 xs with
      | none=>rw [q2] at e; cases e
      | some r0 =>
        rw [q2] at e
        cases e
        simp only [RepAK] at h
        obtain ⟨v,r,g,g',e,h1,h2,h3⟩:=h
        simp only [RepK]
        exact ⟨v,r,e,RepA.full hs x v g d q (fun b hb=>hk b (by simp [h3,hb])) h1,RepAK.full hs xs r g' r0 q2 (fun b hb=>hk b (by simp [h3,hb])) h2⟩
end
end
/-- .. ahead of a statement -/
def JM9 (i : Nat) (a : AS) : AS:=fun DA ρ=>∃ t d,ρ[i]? = some (some t) ∧ Yy t = some d ∧ a DA (ρ.set i (some (.v d)))
def Mo : List A → J0 → (List A → J0 → Prop) → Prop
  | [],ρ,k=>k [] ρ
  | .pth i p w :: xs,ρ,k=>∃ n t,Y8 (.pth i p w) ρ = some (i,p,n) ∧ ρ[i]? = some (some t) ∧ Zx n = true ∧ Mo xs (ρ.set i (some (t.upd p (.pth i p w)))) fun ys ρ'=>k (n :: ys) ρ'
  | x :: xs,ρ,k=>Mo xs ρ fun ys ρ'=>k (x :: ys) ρ'
def Hq : List A → List A → J0 → (J0 → Prop) → Prop
  | .pth i p w :: xs,z :: zs,ρ,k=>∃ t,ρ[i]? = some (some t) ∧ t.at p = some (.pth i p w) ∧ Hq xs zs (ρ.set i (some (t.upd p (.cel w z)))) k
  | _ :: xs,_ :: zs,ρ,k=>Hq xs zs ρ k
  | _,_,ρ,k=>k ρ
section
variable {K : Fg} {c : Ctx} {S H : Hp} {σ : L2.St} {ρ : J0} {τ : List (V × A)} {v : V} {x y n : A} {i : Nat} {p : List Stp} {d : D}
/-- a call with things at paths -/
def JV5 (sp : ASp) (xs : List A) : AE:=fun EA ρ Q=>Mo xs ρ fun ys ρ1=>∃ zs ρ2,pass ys ρ1 = some (zs,ρ2) ∧ sp.pre zs ∧ (∀ r zs',sp.post zs r zs' → zs'.length = zs.length → Hq xs zs' (give ys zs' ρ2) fun ρ3=>Q r ρ3) ∧ ∀ C fs zs',sp.exc zs C fs zs' → zs'.length = zs.length → Hq xs zs' (give ys zs' ρ2) fun ρ3=>EA C fs ρ3
end
def JGp (sp : ASp) (dd : List D) (aa : AA) : AE:=fun EA ρ Q=>aa EA ρ fun xs ρ1=>JV5 sp (xs ++ dd.map A.v) EA ρ1 Q
end Vs
namespace Vs
open PySem PySem.Spec PyProof.Rows L2
variable [Tbs]
mutual
def U4 : A → A
  | .cel _ x=>U4 x
  | .nl xs=>.nl (Xn xs)
  | .nt xs=>.nt (Xn xs)
  | .nd kvs=>.nd (Z2 kvs)
  | .obj C fs=>.obj C (Bp fs)
  | .v d=>.v d
  | .lst xs=>.lst xs
  | .dic kvs=>.dic kvs
  | .loc i=>.loc i
  | .pth i p w=>.pth i p w
def Xn : List A → List A
  | []=>[]
  | x :: r=>U4 x :: Xn r
def Z2 : List (Key × A) → List (Key × A)
  | []=>[]
  | (k,x) :: r=>(k,U4 x) :: Z2 r
def Bp : List (Str × A) → List (Str × A)
  | []=>[]
  | (k,x) :: r=>(k,U4 x) :: Bp r
end
section
variable {K : Fg} {S H : Hp}
mutual
theorem RepA.unt : ∀ (x : A) (v : V) (fp : List Addr),RepA K S H x v fp → RepA K S H (U4 x) v fp
  | .cel w x,v,fp,h=>by
    simp only [RepA] at h
    simp only [U4]
    exact RepA.unt x v fp h.2.2
  | .nl xs,v,fp,h=>by
    simp only [U4,RepA] at h ⊢
    obtain ⟨a,vs,g,e,h1,h2,h3⟩:=h
    exact ⟨a,vs,g,e,h1,RepAL.unt xs vs g h2,h3⟩
  | .nt xs,v,fp,h=>by
    simp only [U4,RepA] at h ⊢
    obtain ⟨a,vs,g,e,h1,h2,h3⟩:=h
    exact ⟨a,vs,g,e,h1,RepAL.unt xs vs g h2,h3⟩
  | .nd xs,v,fp,h=>by
    simp only [U4,RepA] at h ⊢
    obtain ⟨a,vs,g,e,h1,h2,h3⟩:=h
    exact ⟨a,vs,g,e,h1,RepAK.unt xs vs g h2,h3⟩
  | .obj C fs,v,fp,h=>by
    simp only [U4,RepA] at h ⊢
    obtain ⟨a,dx,vs,g,e,h1,h2,h3⟩:=h
    exact ⟨a,dx,vs,g,e,h1,RepAF.unt fs vs g h2,h3⟩
  | .v d,v,fp,h=>by simpa only [U4] using h
  | .lst d,v,fp,h=>by simpa only [U4] using h
  | .dic d,v,fp,h=>by simpa only [U4] using h
  | .loc d,v,fp,h=>by simpa only [U4] using h
  | .pth i p w,v,fp,h=>by simpa only [U4] using h
theorem RepAL.unt : ∀ (xs : List A) (vs : List V) (fp : List Addr),RepAL K S H xs vs fp → RepAL K S H (Xn xs) vs fp
  | [],vs,fp,h=>by simpa only [Xn] using h
  | x :: xs,vs,fp,h=>by
    simp only [Xn,RepAL] at h ⊢
    obtain ⟨v,r,g,g',e,h1,h2,h3⟩:=h
    exact ⟨v,r,g,g',e,RepA.unt x v g h1,RepAL.unt xs r g' h2,h3⟩
theorem RepAK.unt : ∀ (xs : List (Key × A)) (vs : List (Key × V)) (fp : List Addr),RepAK K S H xs vs fp → RepAK K S H (Z2 xs) vs fp
  | [],vs,fp,h=>by simpa only [Z2] using h
  | (k,x) :: xs,vs,fp,h=>by
    simp only [Z2,RepAK] at h ⊢
    obtain ⟨v,r,g,g',e,h1,h2,h3⟩:=h
    exact ⟨v,r,g,g',e,RepA.unt x v g h1,RepAK.unt xs r g' h2,h3⟩
theorem RepAF.unt : ∀ (xs : List (Str × A)) (vs : List (Str × V)) (fp : List Addr),RepAF K S H xs vs fp → RepAF K S H (Bp xs) vs fp
  | [],vs,fp,h=>by simpa only [Bp] using h
  | (k,x) :: xs,vs,fp,h=>by
    simp only [Bp,RepAF] at h ⊢
    obtain ⟨v,r,g,g',e,h1,h2,h3⟩:=h
    exact ⟨v,r,g,g',e,RepA.unt x v g h1,RepAF.unt xs r g' h2,h3⟩
end
end
/-- slots whose things are no longer told of -/
def unts : List Nat → J0 → J0
  | [],ρ=>ρ
  | i :: is,ρ=>unts is (match ρ[i]? with
    | some (some t)=>ρ.set i (some (U4 t))
    | _=>ρ)
section
variable {K : Fg} {c : Ctx} {S H : Hp} {σ : L2.St} {ρ : J0} {τ : List (V × A)} {v : V} {x y n : A} {i : Nat} {d : D}
theorem Stt.unt1 {t : A} (s : Stt K c S H σ ρ τ) (h : ρ[i]? = some (some t)) : Stt K c S H σ (ρ.set i (some (U4 t))) τ:=by
  obtain ⟨⟨v,hv⟩,hy⟩:=s.env.get h
  obtain ⟨g0,ra⟩:=s.slotA h hv
  exact s.slotTo (y':=U4 t) h hv (fun g' f' b1 b2 nd b3=>⟨g',b1.unt t v g',nd,b3,fun _ _=>rfl,Same.refl S,s.le,s.r,s.new,s.tb⟩) (ra.unt t v g0).noLoc
theorem Stt.unts : ∀ (is : List Nat) {ρ : J0},Stt K c S H σ ρ τ → Stt K c S H σ (Vs.unts is ρ) τ
  | [],ρ,s=>s
  | i :: is,ρ,s=>by
    unfold Vs.unts
    split
    · exact Stt.unts is (s.unt1 (by assumption))
    · exact Stt.unts is s
end
section
variable {X : Cx} {P : Pm} {pos : Pos} {e : Expr} {aa : AE}
def Vv (is : List Nat) (a : AS) : AS:=fun DA ρ=>a DA (unts is ρ)
theorem Wg (is : List Nat) {st : Stmt} {a : AS} (h : QS X P st a) : QS X P st (Vv is a) :=
  let ⟨t,p,s⟩:=h.ex; ⟨t,p,fun c D DA ho hw l S H σ ρ st q=>s c D DA ho hw l S H σ _ (st.unts is) q⟩
/-- an owned thing made data to the ground -/
def JBa (ae : AE) : AE:=fun EA ρ Q=>ae EA ρ fun x ρ1=>∃ d,Yy x = some d ∧ Q (.v d) ρ1
/-- a walk of a flat list at a path -/
def JXf (ae : AE) : AI:=fun EA ρ Q=>ae EA ρ fun x ρ1=>∃ i p w xs,x = .pth i p w ∧ dat x ρ1 = some (.lst xs) ∧ Q xs (fun ρ=>dat (.pth i p w) ρ = some (.lst xs)) ρ1
/-- len of what may be nested -/
def Ep : A → Option Nat
  | .nl xs=>some xs.length
  | .nt xs=>some xs.length
  | .nd xs=>some xs.length
  | _=>none
def JBq : ARs:=fun xs ρ Q=>∃ x i p n m,xs = [x] ∧ Y8 x ρ = some (i,p,n) ∧ Ep n = some m ∧ Q (.v (.int m)) ρ
def JGx : ARs:=fun xs ρ Q=>Uk xs ρ Q ∨ JBq xs ρ Q
theorem JF9 {x n : A} {ρ : J0} {i m : Nat} {p : List Stp} (h : Y8 x ρ = some (i,p,n)) (h3 : Ep n = some m) : dat x ρ = some .any:=by
  have ht : n.toD = .any:=by
    cases n <;> first | rfl | cases h3
  cases x with
  | loc j =>
    simp only [Y8] at h
    split at h
    · rename_i t e
      cases h
      simp only [dat,e,ht]
    · cases h
  | pth j q w =>
    simp only [Y8] at h
    split at h
    · rename_i t e
      obtain ⟨n0,e1,e2⟩:=G7 h
      cases e2
      simp only [dat,e,e1,Fv,ht]
      simp
    · cases h
  | _=>cases h
/-- isinstance of what may be nested -/
def tyA : A → Option Value
  | .nl _=>some (.type "list")
  | .nt _=>some (.type "tuple")
  | .nd _=>some (.type "dict")
  | _=>none
def Qw (K : Fg) (us : List Value) : AR1:=fun x ρ Q=>∃ i p n t b,Y8 x ρ = some (i,p,n) ∧ tyA n = some t ∧ PySem.W.kitAny K t us = some b ∧ Q (.v (.bl b)) ρ
def Kq (K : Fg) (us : List Value) : AR1:=fun x ρ Q=>Uw K us x ρ Q ∨ Qw K us x ρ Q
theorem JHd {e c : Expr} {u : Value} {ae : AE} {p : Pos} (hg : Gl X "isinstance") (hm : X.mg "isinstance" = none) (he : QE X P e ae) (hc : QC X c u) (hs : starEach [e,c] X.env = (false,eval e X.env) :: starEach [c] X.env:=by rfl) (hs2 : starEach [c] X.env = (false,eval c X.env) :: starEach [] X.env:=by rfl)
    (hpl : (backTo pos (starEach [c] X.env)).any (·.1) = false:=by rfl) : QE X P (.Call (.Name "isinstance" p) [e,c] [] pos) (aUn (Kq X.K [u]) ae):=by
  obtain ⟨t,pe,s⟩:=he.ex
  obtain ⟨v,pc,k⟩:=hc.ex
  refine ⟨_,pe_callB call_isi hg hm PyProof.Rows.boot_isinstance (pa_cons pe (pa_cons pc pa_nil hs2) hs) (by decide) (by decide) hs hpl,fun c EA ho hw τ S H σ ρ Q R st q kk=>s c EA ho hw τ S H σ ρ _ _ st q fun vx H1 ⟨S1,ρ1,x,s1,q1⟩=>?_⟩
  rcases q1 with ⟨d,b,h1,⟨ty,h2,h3,h4⟩,q1⟩ | ⟨i,p,n,ty,b,h1,h2,h4,q1⟩
  · exact ⟨vx,v,ty,u,b,rfl,k,Ow h3 h2 (s1.dat (List.mem_cons_self ..) h1),Mv h4,kk _ _ (KE.sc s1.drop rfl q1)⟩
  · obtain ⟨t,g,f,a1,a2,_⟩:=s1.node (List.mem_cons_self ..) h1
    have tx : TyX X.K H1 vx ty:=by
      cases n with
      | nl xs =>
        cases h2
        simp only [RepA] at a2
        obtain ⟨a,vs,g0,rfl,b1,_,_⟩:=a2
        exact .base (.lst b1)
      | nt xs =>
        cases h2
        simp only [RepA] at a2
        obtain ⟨a,vs,g0,rfl,b1,_,_⟩:=a2
        exact .base (.tup b1)
      | nd xs =>
        cases h2
        simp only [RepA] at a2
        obtain ⟨a,vs,g0,rfl,b1,_,_⟩:=a2
        exact .base (.dK b1)
      | _=>cases h2
    exact ⟨vx,v,ty,u,b,rfl,k,tx,Mv h4,kk _ _ (KE.sc s1.drop rfl q1)⟩
theorem JFt {x n : A} {ρ : J0} {i : Nat} {p : List Stp} {t : Value} (h : Y8 x ρ = some (i,p,n)) (h3 : tyA n = some t) : dat x ρ = some .any:=by
  cases n <;> first | exact JF9 h rfl | cases h3
theorem JXc {K : Fg} {us : List Value} : C1 (Kq K us):=fun {ι} _ x ρ Q Q' h k=>by
  obtain ⟨j,_⟩:=i0 (ι:=ι)
  have apart : ∀ {Q1 Q2 : AK},Uw K us x ρ Q1 → Qw K us x ρ Q2 → False:=fun h1 h2=>by
    obtain ⟨d,b,e1,⟨t,e2,_⟩,_⟩:=h1
    obtain ⟨i,p,n',t',b',e4,e5,_⟩:=h2
    rw [JFt e4 e5] at e1; cases e1; cases e2
  rcases h j with h0 | h0
  · exact .inl (Vr (fun i=>(h i).elim id fun q=>(apart h0 q).elim) k)
  · refine .inr ?_
    have h0':=h0
    obtain ⟨i,p,n,t,b,e1,e2,e3,_⟩:=h0
    refine ⟨i,p,n,t,b,e1,e2,e3,k _ _ fun l=>?_⟩
    rcases h l with q | ⟨i',p',n',t',b',f1,f2,f3,q⟩
    · exact (apart q h0').elim
    · rw [e1] at f1; cases f1
      rw [e2] at f2; cases f2
      rw [e3] at f3; cases f3
      exact q
end
section
variable {ι : Type} [Nonempty ι]
theorem JZh {x : A} {ρ : J0} {Q : ι → A → J0 → Prop} {Q' : A → J0 → Prop} (h : ∀ i,W5 x ρ (Q i)) (k : ∀ d ρ,(∀ i,Q i d ρ) → Q' d ρ) : W5 x ρ Q':=by
  cases x with
  | loc j =>
    obtain ⟨i,_⟩:=i0 (ι:=ι)
    obtain ⟨y,hy,hm,_⟩:=h i
    refine ⟨y,hy,hm,k _ _ fun i=>?_⟩
    obtain ⟨z,hz,_,q⟩:=h i
    rw [hy] at hz
    cases hz
    exact q
  | _=>exact k _ _ h
end
section
variable {aa ab ac ao ae ai av : AE} {al : AA} {sp : ASp} {a : AS}
theorem JHr (ha : CE ao) (hb : CE ae) : CE (Kl ao ae):=fun {ι} _ EA EA' ρ Q Q' h hx hq=>ha h hx fun o ρ1 h1=>V1 h1 fun h2=>hb h2 hx fun x ρ2 h3=>Wi h3 fun d ρ3 h4=>by
  obtain ⟨l,_⟩:=i0 (ι:=ι)
  obtain ⟨i,p,xs,t,e1,e2,e3,_⟩:=h4 l
  refine ⟨i,p,xs,t,e1,e2,e3,hq _ _ fun l=>?_⟩
  obtain ⟨i',p',xs',t',f1,_,f3,q⟩:=h4 l
  rw [e1] at f1; cases f1
  rw [e3] at f3; cases f3
  exact q
theorem JGy (hv : CE av) (ho : CE ao) (hi : CE ai) : CS (M6 av ao ai):=fun {ι} _ DA D' ρ h c=>hv h c.ex fun x ρ1 h1=>JZh h1 fun y ρ2 h2=>ho h2 c.ex fun o ρ3 h3=>hi h3 c.ex fun iv ρ4 h4=>by
  obtain ⟨l,_⟩:=i0 (ι:=ι)
  obtain ⟨i,p,n,d,n',t,e1,e2,e3,e4,e5,_⟩:=h4 l
  refine ⟨i,p,n,d,n',t,e1,e2,e3,e4,e5,c.nx _ fun l=>?_⟩
  obtain ⟨i',p',m,d',m',t',f1,f2,f3,_,f5,q⟩:=h4 l
  rw [e1] at f1; cases f1
  rw [e2] at f2; cases f2
  rw [e3] at f3; cases f3
  rw [e5] at f5; cases f5
  exact q
theorem Wl {is : List Nat} (h : CS a) : CS (Vv is a):=fun h1 c=>h h1 c
end
end Vs
namespace Vs
open PySem PySem.Spec PyProof.Rows L2
variable [Tbs]
section
variable {EA : AX} {ρ : J0} {Q : AK} {DA : AEnds} {QI : List D → (J0 → Prop) → J0 → Prop} {x y iv o n n' z t : A} {d e : D} {K : Fg} {j i : Nat} {p : List Stp} {w : V} {st : Stp} {ao ai ae av : AE} {al : AA} {sp : ASp} {a : AS}
theorem Z9 (h : ρ[j]? = some (some t)) : Y8 (.loc j) ρ = some (j,[],t):=by simp only [Y8,h]
theorem Bw (h : ρ[i]? = some (some t)) (h2 : t.at p = some (.cel w n)) : Y8 (.pth i p w) ρ = some (i,p,n):=by
  simp only [Y8,h,h2,L0]
  simp
theorem JU6 (h : ρ[i]? = some (some t)) (h2 : t.at p = some (.cel w n)) : dat (.pth i p w) ρ = some n.toD:=by
  simp only [dat,h,h2,Fv]
  simp
theorem Jp {xs : List D} (h : ρ[i]? = some (some t)) (h2 : t.at p = some (.cel w (.lst xs))) : dat (.pth i p w) ρ = some (.lst xs):=JU6 h h2
theorem Jt {xs : List (Key × D)} (h : ρ[i]? = some (some t)) (h2 : t.at p = some (.cel w (.dic xs))) : dat (.pth i p w) ρ = some (.dic xs):=JU6 h h2
theorem Sk (h : ρ[j]? = some (some (.pth i p w))) (k : Q (.pth i p w) ρ) : aAl j EA ρ Q:=⟨i,p,w,h,k⟩
theorem Q7 (h1 : dat x ρ = some d) (h2 : dat y ρ = some e) {zz : D} (h3 : itD d e = some zz) (k : Q (.v zz) ρ) : Vi x y ρ Q:=.inl ⟨d,e,zz,h1,h2,h3,k⟩
theorem P6 (h1 : Y8 x ρ = some (i,p,n)) (h2 : dat y ρ = some d) (h3 : Wy n d = some st) (h4 : itN n st = some z) (k : outI x i p n st z ρ Q) : Vi x y ρ Q:=.inr ⟨i,p,n,d,st,z,h1,h2,h3,h4,k⟩
theorem P7 {zz : D} (h1 : ρ[j]? = some (some t)) (h2 : dat y ρ = some d) (h3 : Wy t d = some st) (h4 : itN t st = some (.v zz)) (k : Q (.v zz) ρ) : Vi (.loc j) y ρ Q:=P6 (Z9 h1) h2 h3 h4 k
theorem Oo (h1 : ρ[j]? = some (some t)) (h2 : dat y ρ = some d) (h3 : Wy t d = some st) (h4 : itN t st = some (.cel w z)) (k : Q (.pth j [st] w) ρ) : Vi (.loc j) y ρ Q:=P6 (Z9 h1) h2 h3 h4 k
theorem Hk (h1 : ρ[j]? = some (some t)) (h2 : dat y ρ = some d) (h3 : Wy t d = some st) (h4 : itN t st = some z) (h5 : Zx z = true) (k : ∀ w,Q (.pth j [st] w) (ρ.set j (some (V2 t st (.cel w z))))) : Vi (.loc j) y ρ Q:=by
  refine P6 (Z9 h1) h2 h3 h4 ?_
  cases z <;> first | exact ⟨t,h1,k⟩ | cases h5
theorem Cf (k : ao EA ρ fun o ρ1=>isL o ρ1 (ae EA ρ1 fun x ρ2=>Yd x ρ2 fun d ρ3=>Hh o d ρ3 Q)) : Kl ao ae EA ρ Q:=k
theorem Gp {xs : List D} (h : ρ[i]? = some (some t)) (h2 : t.at p = some (.cel w (.lst xs))) (h3 : xs.length ≤ 100000) (k : Q (.v .non) (ρ.set i (some (t.upd p (.cel w (.lst (xs ++ [d]))))))) : Hh (.pth i p w) d ρ Q:=⟨i,p,xs,t,Bw h h2,h3,h,k⟩
theorem JW3 (k : ao EA ρ fun o ρ1=>isL o ρ1 (ai EA ρ1 fun iv ρ2=>ae EA ρ2 fun x ρ3=>Yd x ρ3 fun d ρ4=>Mx o iv d ρ4 Q)) : JXw ao ai ae EA ρ Q:=k
theorem Cc {xs : List D} {k0 : Int} (h : ρ[i]? = some (some t)) (h2 : t.at p = some (.cel w (.lst xs))) (hi : dat iv ρ = some (.int k0)) (h3 : 0 ≤ k0 ∧ k0 < 2 ^ 63 ∧ xs.length ≤ 100000) (k : Q (.v .non) (ρ.set i (some (t.upd p (.cel w (.lst (xs.take k0.toNat ++ [d] ++ xs.drop k0.toNat))))))) : Mx (.pth i p w) iv d ρ Q:=⟨i,p,xs,k0,t,Bw h h2,hi,h3.1,h3.2.1,h3.2.2,h,k⟩
theorem JYm (k : av DA.ex ρ fun x ρ1=>W5 x ρ1 fun y ρ2=>ao DA.ex ρ2 fun o ρ3=>ai DA.ex ρ3 fun iv ρ4=>Fz o iv y ρ4 DA.nx) : M6 av ao ai DA ρ:=k
theorem M4 {nx : J0 → Prop} (h1 : ρ[j]? = some (some t)) (h2 : dat iv ρ = some d) (h3 : putN t d y = some n') (h4 : Od t ≤ 100000) (k : nx (ρ.set j (some n'))) : Fz (.loc j) iv y ρ nx:=⟨j,[],t,d,n',t,Z9 h1,h2,h3,h4,h1,k⟩
theorem Ci {k : A → J0 → Prop} (q : k (.v d) ρ) : W5 (.v d) ρ k:=q
theorem JY1 {xs : List D} {k : A → J0 → Prop} (q : k (.lst xs) ρ) : W5 (.lst xs) ρ k:=q
theorem JV2 {xs : List (Key × D)} {k : A → J0 → Prop} (q : k (.dic xs) ρ) : W5 (.dic xs) ρ k:=q
theorem JW1 {k : A → J0 → Prop} (h : ρ[j]? = some (some y)) (h2 : mvQ y = true) (q : k y (ρ.set j (some (Bn y)))) : W5 (.loc j) ρ k:=⟨y,h,h2,q⟩
theorem R4 {k : List A → J0 → Prop} (q : k [] ρ) : X7 [] ρ k:=q
theorem Rn {xs : List A} {k : List A → J0 → Prop} (q : W5 x ρ fun y ρ'=>X7 xs ρ' fun ys ρ''=>k (y :: ys) ρ'') : X7 (x :: xs) ρ k:=q
theorem JUa (k : al EA ρ fun xs ρ1=>xs.length ≤ 1000 ∧ X7 xs ρ1 fun ys ρ2=>Q (.nl ys) ρ2) : JX2 al EA ρ Q:=k
theorem Ef (k : al EA ρ fun xs ρ1=>xs.length ≤ 1000 ∧ X7 xs ρ1 fun ys ρ2=>Q (.nt ys) ρ2) : JMc al EA ρ Q:=k
theorem Ey (k : ao DA.ex ρ fun o ρ1=>ai DA.ex ρ1 fun iv ρ2=>Mr o iv ρ2 fun kk _ x=>ae DA.ex ρ2 fun y ρ3=>Lr o kk x y ρ3 DA.nx) : JLt ao ai ae DA ρ:=k
theorem JUo {kk : Key} {kvs : List (Key × D)} {x : Int} {k : Key → List (Key × D) → Int → Prop} (h1 : dat o ρ = some (.dic kvs)) (h2 : dat iv ρ = some d) (h3 : keyD d = some kk) (h4 : valD kvs kk = some (.int x)) (q : k kk kvs x) : Mr o iv ρ k:=⟨d,kk,kvs,x,h1,h2,h3,h4,q⟩
theorem Mm {kk : Key} {kvs : List (Key × D)} {x m : Int} {nx : J0 → Prop} (h1 : dat y ρ = some (.int m)) (h : ρ[i]? = some (some t)) (h2 : t.at p = some (.cel w (.dic kvs))) (h3 : kvs.length ≤ 100000) (q : nx (ρ.set i (some (t.upd p (.cel w (.dic (putD kvs kk (.int (x + m)))))))) ) : Lr (.pth i p w) kk x y ρ nx:=⟨m,i,p,kvs,t,h1,Bw h h2,h3,h,q⟩
theorem JJ7 (h : ρ[i]? = some (some t)) (h2 : Yy t = some d) (k : a DA (ρ.set i (some (.v d)))) : JM9 i a DA ρ:=⟨t,d,h,h2,k⟩
theorem Cq (k : ae EA ρ fun x ρ1=>∃ d,Yy x = some d ∧ Q (.v d) ρ1) : JBa ae EA ρ Q:=k
theorem Qk (k : ae EA ρ fun x ρ1=>∃ i p w xs,x = .pth i p w ∧ dat x ρ1 = some (.lst xs) ∧ QI xs (fun ρ=>dat (.pth i p w) ρ = some (.lst xs)) ρ1) : JXf ae EA ρ QI:=k
theorem Dz {dd : D} {m : Nat} (h1 : dat x ρ = some dd) (h2 : Uh dd = some m) (k : Q (.v (.int m)) ρ) : JGx [x] ρ Q:=.inl ⟨x,dd,m,rfl,h1,h2,k⟩
theorem Kx {us : List Value} {b : Bool} (h1 : dat x ρ = some d) (h2 : Wt K d us b) (k : Q (.v (.bl b)) ρ) : Kq K us x ρ Q:=.inl ⟨d,b,h1,h2,k⟩
theorem JV3 {dd : List D} (k : al EA ρ fun xs ρ1=>JV5 sp (xs ++ dd.map A.v) EA ρ1 Q) : JGp sp dd al EA ρ Q:=k
end
end Vs
set_option maxHeartbeats 3200000
namespace Vs
open PySem PySem.Spec PyProof.Rows L2 PpSet
end Vs
set_option maxHeartbeats 1000000
namespace Vs
open PySem PySem.Spec PyProof.Rows L2 PpSet
variable [Tbs]
def okU (ds : List D) : Prop:=(∃ l : List Str,ds = l.map D.str ∧ l.length < 64) ∨ ∃ l : List Int,ds = l.map D.int ∧ l.length < 64
def toU (ds ys : List D) : Prop:=(∃ l zs : List Str,ds = l.map D.str ∧ ys = zs.map D.str ∧ zs.Nodup ∧ (∀ k,k ∈ zs ↔ k ∈ l) ∧ sortedS zs = true) ∨ ∃ l zs : List Int,ds = l.map D.int ∧ ys = zs.map D.int ∧ zs.Pairwise (· < ·) ∧ ∀ k,k ∈ zs ↔ k ∈ l
def C4 (x : A) (ρ : J0) (Q : AK) : Prop:=∃ ds,dat x ρ = some (.lst ds) ∧ okU ds ∧ ∀ ys,toU ds ys → Q (.lst ys) ρ
/-- sorted(set(e)) -/
def JZe (ae : AE) : AE:=fun EA ρ Q=>ae EA ρ fun x ρ1=>C4 x ρ1 Q
theorem P3 {K : Fg} {S : Hp} : ∀ {l : List Str} {vs : List V},RepL K S (l.map D.str) vs → vs = l.map V.str
  | [],vs,h=>by simpa only [List.map_nil,RepL] using h
  | y :: l,vs,h=>by
    simp only [List.map_cons,RepL,Rep] at h
    obtain ⟨v,r,rfl,rfl,h2⟩:=h
    rw [P3 h2,List.map_cons]
section
variable {EA : AX} {ρ : J0} {Q : AK} {x : A} {ae : AE}
theorem Tq (k : ae EA ρ fun x ρ1=>C4 x ρ1 Q) : JZe ae EA ρ Q:=k
end
end Vs
namespace Vs
open PySem PySem.Spec PyProof.Rows L2
variable [Tbs]
def F6 (is : List Nat) (a : AS) : AS:=fun DA ρ=>a { DA with nx:=fun ρ=>DA.nx (unts is ρ),ct:=fun ρ=>DA.ct (unts is ρ) } ρ
section
variable {X : Cx} {P : Pm}
theorem Nd (is : List Nat) {st : List Stmt} {a : AS} (h : QSs X P st a) : QSs X P st (F6 is a) :=
  let ⟨t,p,s⟩:=h.ex; ⟨t,p,fun c D DA ho hw l S H σ ρ st q=>s c D { DA with nx:=fun ρ=>DA.nx (unts is ρ),ct:=fun ρ=>DA.ct (unts is ρ) } ho hw ⟨fun S H σ ρ st q=>l.nx S H σ _ (st.unts is) q,l.rt,l.bk,fun S H σ ρ st q=>l.ct S H σ _ (st.unts is) q⟩ S H σ ρ st q⟩
end
theorem Nw {is : List Nat} {a : AS} (h : CS a) : CS (F6 is a):=fun h1 c=>h h1 ⟨fun ρ z=>c.nx _ z,c.rt,c.bk,fun ρ z=>c.ct _ z,c.ex⟩
theorem Ay {is : List Nat} {a : AS} {DA : AEnds} {ρ : J0} (k : a { DA with nx:=fun ρ=>DA.nx (unts is ρ),ct:=fun ρ=>DA.ct (unts is ρ) } ρ) : F6 is a DA ρ:=k
theorem Rm {is : List Nat} {a : AS} {DA : AEnds} {ρ ρ' : J0} (h : unts is ρ = ρ') (k : a DA ρ') : Vv is a DA ρ:=by
  unfold Vv
  rw [h]
  exact k
end Vs
namespace Vs
open PySem PySem.Spec PyProof.Rows L2
variable [Tbs]
section
variable {EA : AX} {ρ : J0} {Q : AK} {DA : AEnds} {x y iv o n n' z t : A} {d e : D} {K : Fg} {j i m : Nat} {xs : List A} {w : V} {sp : ASp}
theorem JWl {k0 : Int} (h1 : ρ[j]? = some (some (.nl xs))) (h2 : dat y ρ = some (.int k0)) (h3 : ixN xs.length k0 = some m) (h4 : xs[m]? = some z) (h5 : Zx z = true) (k : ∀ w,Q (.pth j [.n m] w) (ρ.set j (some (.nl (xs.set m (.cel w z)))))) : Vi (.loc j) y ρ Q:=by
  refine Hk (st:=.n m) h1 h2 ?_ h4 h5 k
  simp only [Wy,h3,Option.map]
theorem JYr {k0 : Int} (h1 : ρ[j]? = some (some (.nt xs))) (h2 : dat y ρ = some (.int k0)) (h3 : ixN xs.length k0 = some m) (h4 : xs[m]? = some z) (h5 : Zx z = true) (k : ∀ w,Q (.pth j [.n m] w) (ρ.set j (some (.nt (xs.set m (.cel w z)))))) : Vi (.loc j) y ρ Q:=by
  refine Hk (st:=.n m) h1 h2 ?_ h4 h5 k
  simp only [Wy,h3,Option.map]
theorem Kr (h2 : xs[m]? = some z) : (A.nl xs).at [.n m] = some z:=by
  show (xs[m]?).bind _ = _
  rw [h2]
  rfl
theorem Dr (h2 : xs[m]? = some z) (y : A) : (A.nl xs).upd [.n m] y = .nl (xs.set m y):=by
  show (match xs[m]? with
    | some x=>stN (A.nl xs) (.n m) (A.upd x [] y)
    | none=>_) = _
  rw [h2]
  rfl
theorem Q3 (h2 : xs[m]? = some z) : (A.nt xs).at [.n m] = some z:=by
  show (xs[m]?).bind _ = _
  rw [h2]
  rfl
theorem JLl (h2 : xs[m]? = some z) (y : A) : (A.nt xs).upd [.n m] y = .nt (xs.set m y):=by
  show (match xs[m]? with
    | some x=>stN (A.nt xs) (.n m) (A.upd x [] y)
    | none=>_) = _
  rw [h2]
  rfl
theorem E8 {ds : List D} (h : ρ[i]? = some (some (.nl xs))) (h2 : xs[m]? = some (.cel w (.lst ds))) (h3 : ds.length ≤ 100000) (k : Q (.v .non) (ρ.set i (some (.nl (xs.set m (.cel w (.lst (ds ++ [d])))))))) : Hh (.pth i [.n m] w) d ρ Q :=
  Gp h (Kr h2) h3 (by rw [Dr h2]; exact k)
theorem Eo {ds : List D} (h : ρ[i]? = some (some (.nt xs))) (h2 : xs[m]? = some (.cel w (.lst ds))) (h3 : ds.length ≤ 100000) (k : Q (.v .non) (ρ.set i (some (.nt (xs.set m (.cel w (.lst (ds ++ [d])))))))) : Hh (.pth i [.n m] w) d ρ Q :=
  Gp h (Q3 h2) h3 (by rw [JLl h2]; exact k)
theorem A0 {kk : Key} {kvs : List (Key × D)} {x k0 : Int} {nx : J0 → Prop} (h1 : dat y ρ = some (.int k0)) (h : ρ[i]? = some (some (.nl xs))) (h2 : xs[m]? = some (.cel w (.dic kvs))) (h3 : kvs.length ≤ 100000) (q : nx (ρ.set i (some (.nl (xs.set m (.cel w (.dic (putD kvs kk (.int (x + k0))))))))) ) : Lr (.pth i [.n m] w) kk x y ρ nx :=
  Mm h1 h (Kr h2) h3 (by rw [Dr h2]; exact q)
theorem Y0 {ds : List D} (h : ρ[i]? = some (some (.nl xs))) (h2 : xs[m]? = some (.cel w (.lst ds))) : dat (.pth i [.n m] w) ρ = some (.lst ds):=Jp h (Kr h2)
theorem Jz {ds : List (Key × D)} (h : ρ[i]? = some (some (.nl xs))) (h2 : xs[m]? = some (.cel w (.dic ds))) : dat (.pth i [.n m] w) ρ = some (.dic ds):=Jt h (Kr h2)
theorem Jw {ds : List D} (h : ρ[i]? = some (some (.nt xs))) (h2 : xs[m]? = some (.cel w (.lst ds))) : dat (.pth i [.n m] w) ρ = some (.lst ds):=Jp h (Q3 h2)
theorem Qo {k0 : Int} {nx : J0 → Prop} (h1 : ρ[j]? = some (some (.nl xs))) (h2 : dat iv ρ = some (.int k0)) (h3 : ixN xs.length k0 = some m) (k : nx (ρ.set j (some (.nl (xs.set m y))))) : Fz (.loc j) iv y ρ nx:=by
  refine M4 (n':=.nl (xs.set m y)) h1 h2 ?_ (Nat.zero_le _) k
  simp only [putN,h3,Option.map]
theorem O7 {p : List Stp} {nx : J0 → Prop} (k : nx (ρ.set j (some (.pth i p w)))) : Z6 (.pth i p w) ρ j nx:=k
end
end Vs
namespace Vs
open PySem PySem.Spec PyProof.Rows L2
variable [Tbs]
section
variable {K : Fg} {ρ : J0} {x : A} {Q : AK}
/-- ord(text of one sign) -/
def M3 : ARs:=fun xs ρ Q=>∃ (x : A) (z : Str),xs = [x] ∧ dat x ρ = some (.str z) ∧ z.length = 1 ∧ Q (.v (.int (z.cps.getD 0 0 : Nat))) ρ
theorem JLd : Wm K (fun xs H Q=>∃ x,xs = [.str x] ∧ x.length = 1 ∧ Q (.int (x.cps.getD 0 0 : Nat)) H) M3:=by
  intro c τ S H σ ρ vs xs Q R hl s q k
  obtain ⟨x,z,rfl,h1,h2,q⟩:=q
  obtain ⟨v,rfl,s⟩:=one_arg hl s
  have r:=s.dat (List.mem_cons_self ..) h1
  simp only [Rep] at r
  exact ⟨z,by rw [r],h2,k _ _ (KE.sc s.drop rfl q)⟩
theorem JVb {z : Str} (h1 : dat x ρ = some (.str z)) (h2 : z.length = 1) (k : Q (.v (.int (z.cps.getD 0 0 : Nat))) ρ) : M3 [x] ρ Q:=⟨x,z,rfl,h1,h2,k⟩
theorem JHh : Cs M3:=fun {ι} _ x ρ Q Q' h k=>by
  obtain ⟨i,_⟩:=i0 (ι:=ι)
  obtain ⟨a,z,rfl,h1,h2,_⟩:=h i
  refine ⟨a,z,rfl,h1,h2,k _ _ fun i=>?_⟩
  obtain ⟨b,w,g0,g1,_,q⟩:=h i
  cases g0
  rw [h1] at g1
  cases g1
  exact q
end
/-- a text's first place in a list of texts -/
def Ko (ao ae : AE) : AE:=fun EA ρ Q=>ao EA ρ fun o ρ1=>(∃ xs,dat o ρ1 = some (.lst xs)) ∧ ae EA ρ1 fun x ρ2=>∃ (zs : List Str) (k : Str),dat o ρ2 = some (.lst (zs.map D.str)) ∧ dat x ρ2 = some (.str k) ∧ k ∈ zs ∧ Q (.v (.int (zs.idxOf k : Nat))) ρ2
theorem Mq {k : Str} : ∀ {zs : List Str},k ∈ zs → zs[zs.idxOf k]? = some k ∧ ∀ (m : Nat) z',m < zs.idxOf k → zs[m]? = some z' → z' ≠ k
  | [],h=>nomatch h
  | z :: zs,h=>by
    rw [List.idxOf_cons]
    by_cases e : z = k
    · subst e
      simp
    · have hk : k ∈ zs:=by
        rcases List.mem_cons.mp h with q | q
        · exact absurd q.symm e
        · exact q
      obtain ⟨h1,h2⟩:=Mq hk
      have e2 : (z == k) = false:=by simpa using e
      rw [e2]
      refine ⟨by simpa using h1,fun m z' hm hz=>?_⟩
      cases m with
      | zero =>
        simp only [List.getElem?_cons_zero,Option.some.injEq] at hz
        exact hz ▸ e
      | succ m=>exact h2 m z' (by simpa using hm) (by simpa using hz)
section
variable {X : Cx} {P : Pm}
theorem JLy {o e : Expr} {ao ae : AE} {apos cpos : Pos} (ho' : QE X P o ao) (he : QE X P e ae) (hbase : attributeBase o "index" X.env (eval o X.env) = eval o X.env:=by rfl)
    (hfew : ((backTo cpos (starEach (e :: []) X.env)).all (fun x=>!x.1) && (backToKw cpos (keywordEach [] X.env)).all (fun x=>x.1.isSome)
      && decide ((e :: []).length + ([] : List Keyword).length + (if ([] : List Keyword).isEmpty then 0 else 1) < 30)) = true:=by rfl)
    (hline : (apos.endLine == cpos.line) = true:=by rfl) (hs : starEach [e] X.env = (false,eval e X.env) :: starEach [] X.env:=by rfl) (hplain : (backTo cpos (starEach [] X.env)).any (·.1) = false:=by rfl) :
    QE X P (.Call (.Attribute o "index" apos) [e] [] cpos) (Ko ao ae):=by
  obtain ⟨to,po,so⟩:=ho'.ex
  obtain ⟨te,pe,se⟩:=he.ex
  refine ⟨_,pe_bm PySem.F.plainAttrs_list PySem.F.slot_list_index PySem.F.type_list_index mt_index po (pa_cons pe pa_nil hs) hbase hfew hline hs hplain,fun c EA ho hw τ S H σ ρ Q R st q k=>so c EA ho hw τ S H σ ρ _ _ st q fun vo H1 ⟨S1,ρ1,xo,s1,⟨xs0,h0⟩,q1⟩=>?_⟩
  obtain ⟨y0,g0,r0,e0⟩:=s1.thing (List.mem_cons_self ..) h0
  obtain ⟨p,vs,rfl,h3,h4⟩:=Vy r0 e0 s1.le
  refine ⟨.inl ⟨rfl,vs,h3⟩,se c EA ho hw _ S1 H1 σ ρ1 _ _ s1 q1 fun v H2 ⟨S2,ρ2,x,s2,zs,kk,hz,hk,hm,q2⟩=>?_⟩
  obtain ⟨y1,g1,r1,e1⟩:=s2.thing (List.mem_cons_of_mem _ (List.mem_cons_self ..)) hz
  obtain ⟨p',ws,ep,h5,h6⟩:=Vy r1 e1 s2.le
  cases ep
  have ew:=P3 h6
  subst ew
  have rk:=s2.dat (List.mem_cons_self ..) hk
  simp only [Rep] at rk
  subst rk
  obtain ⟨i1,i2⟩:=Mq hm
  refine ⟨p,zs.map V.str,.str kk,zs.idxOf kk,.str kk,rfl,rfl,h5,rfl,by simp [flatV],by simp [i1],by simp [eqV],fun m z' h7 h8=>?_,k _ _ ⟨S2,_,.v (.int (zs.idxOf kk : Nat)),s2.drop.drop.hold (by simp only [Rep]),q2⟩⟩
  rw [List.getElem?_map] at h8
  cases q : zs[m]? with
  | none=>rw [q] at h8; cases h8
  | some z0 =>
    rw [q] at h8
    cases h8
    have:=i2 m z0 h7 q
    simp [eqV,this]
end
theorem JMt {ao ae : AE} (ha : CE ao) (hb : CE ae) : CE (Ko ao ae):=fun {ι} _ EA EA' ρ Q Q' h hx hq=>ha h hx fun o ρ1 h1=>V1 h1 fun h2=>hb h2 hx fun x ρ2 h3=>by
  obtain ⟨i,_⟩:=i0 (ι:=ι)
  obtain ⟨zs,k,e1,e2,e3,_⟩:=h3 i
  refine ⟨zs,k,e1,e2,e3,hq _ _ fun i=>?_⟩
  obtain ⟨zs',k',f1,f2,_,q⟩:=h3 i
  rw [e2] at f2
  cases f2
  rw [e1] at f1
  have : zs = zs':=(List.map_inj_right (f:=D.str) (fun a b h=>by cases h; rfl)).mp (by simpa using f1)
  subst this
  exact q
theorem Tg {ao ae : AE} {EA : AX} {ρ : J0} {Q : AK} (k : ao EA ρ fun o ρ1=>isL o ρ1 (ae EA ρ1 fun x ρ2=>∃ (zs : List Str) (k : Str),dat o ρ2 = some (.lst (zs.map D.str)) ∧ dat x ρ2 = some (.str k) ∧ k ∈ zs ∧ Q (.v (.int (zs.idxOf k : Nat))) ρ2)) : Ko ao ae EA ρ Q:=k
end Vs
namespace Vs
open PySem PySem.Spec PyProof.Rows L2
variable [Tbs]
def JGz : V → List V → Hp → VK → Prop:=fun x xs H Q=>∃ (l : Addr) (ns : List Str) (k : Str) (j : Nat),x = .ref l ∧ xs = [.str k] ∧ H l = some (.lst (ns.map V.str)) ∧ ns[j]? = some k ∧ (∀ m : Nat,m < j → ns[m]? ≠ some k) ∧ Q .non (upd H l (.lst ((ns.eraseIdx j).map V.str)))
def JMg (k : Str) (v : Value) : Bool:=match v with
  | .str n _=>n.cps.toList == k.cps.toList
  | _=>false
theorem JGv {a b : Str} (h : a.cps.toList = b.cps.toList) : a = b:=by
  cases a; cases b
  simp only at h
  rw [Array.toList_inj.mp h]
theorem Ny {us : List Value} {ns : List Str} (h : Vals (ns.map V.str) us) {j : Nat} {k : Str} (hj : ns[j]? = some k) : ∃ t,us[j]? = some (.str k t):=by
  obtain ⟨u,hu,ru⟩:=h.get (x:=V.str k) (by rw [List.getElem?_map,hj]; rfl)
  obtain ⟨t,rfl⟩:=ru
  exact ⟨t,hu⟩
theorem JKa (ns : List Str) (j : Nat) : (ns.map V.str).eraseIdx j = (ns.eraseIdx j).map V.str:=by
  induction ns generalizing j with
  | nil=>simp
  | cons a r ih=>cases j with
    | zero=>simp
    | succ j=>simp [ih j]
theorem JL9 {X : Cx} : MtM X "list.remove" JGz:=by
  intro pins s σ H x xs v us Q I rx rxs h
  obtain ⟨l,ns,k,j,rfl,rfl,hH,hj,hno,q⟩:=h
  cases rx
  obtain ⟨u,rfl,ru⟩:=rxs.one
  obtain ⟨t,rfl⟩:=ru
  obtain ⟨z,its,n,r,hl,e⟩:=I.lstM hH
  rw [List.length_map] at hl z
  have hjn : j < ns.length:=(List.getElem?_eq_some_iff.mp hj).1
  have hjl : j < its.toArray.size:=by rw [List.size_toArray]; omega
  have all : ∀ y ∈ its,∃ (a : Str) (w : Tok),y = .str a w:=fun y hy=>by
    obtain ⟨i,hi,rfl⟩:=List.mem_iff_getElem.mp hy
    have hin : i < ns.length:=by omega
    obtain ⟨w,hw⟩:=Ny r (List.getElem?_eq_getElem hin)
    obtain ⟨h1,h2⟩:=List.getElem?_eq_some_iff.mp hw
    exact ⟨_,w,by simpa using h2⟩
  refine call_meets PySem.F.slot_list_remove ⟨_,e,rfl⟩ PySem.F.entry_list_remove (PySem.F.args_list_remove_2 _ _)
    (MeetsSeq.list_remove l its.toArray n (.str k t) (JMg k) (fun y hy=>?_) j hjl ?_ ?_ (by rw [List.size_toArray]; omega)) ⟨e,?_⟩
  · obtain ⟨a,w,rfl⟩:=all y (by simpa using hy)
    exact SeqRoads2.EqGives.str a k w t
  · obtain ⟨tj,hjt⟩:=Ny r hj
    obtain ⟨h1,h2⟩:=List.getElem?_eq_some_iff.mp hjt
    have e1 : its.toArray[j] = .str k tj:=by simpa using h2
    rw [e1]
    exact beq_self_eq_true _
  · intro m hm hmj
    have hmn : m < ns.length:=by omega
    obtain ⟨tm,hmt⟩:=Ny r (List.getElem?_eq_getElem hmn)
    obtain ⟨h1,h2⟩:=List.getElem?_eq_some_iff.mp hmt
    have e1 : its.toArray[m] = .str ns[m] tm:=by simpa using h2
    rw [e1]
    refine beq_eq_false_iff_ne.mpr fun e2=>hno m hmj ?_
    rw [List.getElem?_eq_getElem hmn,JGv e2]
  · have rr:=r.eraseIdx j
    rw [JKa] at rr
    refine ⟨.non,_,I.lset (its':=its.eraseIdx j) (t':=s.toks) hH e ?_ rr ?_,rfl,q⟩
    · show its.toArray.eraseIdxIfInBounds j = (its.eraseIdx j).toArray
      rw [List.eraseIdxIfInBounds_toArray]
    · have z2:=List.length_eraseIdx_le ns j
      rw [List.length_map]
      omega
/-- o.remove(k) -/
def Ml (o x : A) (ρ : J0) (Q : AK) : Prop:=∃ (i : Nat) (zs : List Str) (k : Str),o = .loc i ∧ ρ[i]? = some (some (.lst (zs.map D.str))) ∧ dat x ρ = some (.str k) ∧ k ∈ zs ∧ Q (.v .non) (ρ.set i (some (.lst ((zs.eraseIdx (zs.idxOf k)).map D.str))))
def Hy (ao ae : AE) : AE:=fun EA ρ Q=>ao EA ρ fun o ρ1=>(∃ xs,dat o ρ1 = some (.lst xs)) ∧ ae EA ρ1 fun x ρ2=>Ml o x ρ2 Q
/-- o.reverse(),o a list that a name holds,or one at a path -/
def Lk (o : A) (ρ : J0) (Q : AK) : Prop:=∃ i p xs t,Y8 o ρ = some (i,p,.lst xs) ∧ ρ[i]? = some (some t) ∧ Q (.v .non) (ρ.set i (some (t.upd p (Ud o (.lst xs.reverse)))))
def Lc (ao : AE) : AE:=fun EA ρ Q=>ao EA ρ fun o ρ1=>Lk o ρ1 Q
section
variable {X : Cx} {P : Pm}
theorem JMa {o e : Expr} {ao ae : AE} {apos cpos : Pos} (ho' : QE X P o ao) (he : QE X P e ae) (hbase : attributeBase o "remove" X.env (eval o X.env) = eval o X.env:=by rfl)
    (hfew : ((backTo cpos (starEach (e :: []) X.env)).all (fun x=>!x.1) && (backToKw cpos (keywordEach [] X.env)).all (fun x=>x.1.isSome)
      && decide ((e :: []).length + ([] : List Keyword).length + (if ([] : List Keyword).isEmpty then 0 else 1) < 30)) = true:=by rfl)
    (hline : (apos.endLine == cpos.line) = true:=by rfl) (hs : starEach [e] X.env = (false,eval e X.env) :: starEach [] X.env:=by rfl) (hplain : (backTo cpos (starEach [] X.env)).any (·.1) = false:=by rfl) :
    QE X P (.Call (.Attribute o "remove" apos) [e] [] cpos) (Hy ao ae):=by
  obtain ⟨to,po,so⟩:=ho'.ex
  obtain ⟨te,pe,se⟩:=he.ex
  refine ⟨_,pe_bm PySem.F.plainAttrs_list PySem.F.slot_list_remove PySem.F.type_list_remove JL9 po (pa_cons pe pa_nil hs) hbase hfew hline hs hplain,fun c EA ho hw τ S H σ ρ Q R st q k=>so c EA ho hw τ S H σ ρ _ _ st q fun vo H1 ⟨S1,ρ1,xo,s1,⟨xs0,h0⟩,q1⟩=>?_⟩
  obtain ⟨y0,g0,r0,e0⟩:=s1.thing (List.mem_cons_self ..) h0
  obtain ⟨p,vs,rfl,h3,h4⟩:=Vy r0 e0 s1.le
  refine ⟨.inl ⟨rfl,vs,h3⟩,se c EA ho hw _ S1 H1 σ ρ1 _ _ s1 q1 fun v H2 ⟨S2,ρ2,x,s2,j,zs,kk,eo,hj,hk,hm,q2⟩=>?_⟩
  subst eo
  have hvo : σ[j]? = some (some (.ref p)):=(s2.loc _ j (by simp)).1
  obtain ⟨g,ra⟩:=s2.slotA hj hvo
  obtain ⟨p',ws,e1,hp,rl,rfl⟩:=ra.lst_inv
  cases e1
  have ew:=P3 rl
  subst ew
  have rk:=s2.dat (List.mem_cons_self ..) hk
  simp only [Rep] at rk
  subst rk
  obtain ⟨i1,i2⟩:=Mq hm
  refine ⟨p,zs,kk,zs.idxOf kk,rfl,rfl,hp,i1,fun m hmj e=>i2 m kk hmj e rfl,?_⟩
  have rn : RepL X.K S2 ((zs.eraseIdx (zs.idxOf kk)).map D.str) ((zs.eraseIdx (zs.idxOf kk)).map V.str):=My _
  have s5:=s2.write (o:=.lst ((zs.eraseIdx (zs.idxOf kk)).map V.str)) (y':=.lst ((zs.eraseIdx (zs.idxOf kk)).map D.str)) hj hvo (fun g' h=>by obtain ⟨a',_,e,_,_,e2⟩:=h.lst_inv; cases e; exact e2) rfl (.mk_lst upd_same rn)
  exact k _ _ ⟨S2,_,.v .non,s5.drop.drop.hold (by simp only [Rep]),q2⟩
theorem JN0 {o : Expr} {ao : AE} {apos cpos : Pos} (ho' : QE X P o ao) (hbase : attributeBase o "reverse" X.env (eval o X.env) = eval o X.env:=by rfl) (hline : (apos.endLine == cpos.line) = true:=by rfl) :
    QE X P (.Call (.Attribute o "reverse" apos) [] [] cpos) (Lc ao):=by
  obtain ⟨to,po,so⟩:=ho'.ex
  refine ⟨_,pe_bm0 PySem.F.plainAttrs_list PySem.F.slot_list_reverse PySem.F.type_list_reverse mt_reverse po hbase hline,fun c EA ho hw τ S H σ ρ Q R st q k=>so c EA ho hw τ S H σ ρ _ _ st q fun vo H1 ⟨S1,ρ1,xo,s1,i,pa,xs,t,hno,ht,q1⟩=>?_⟩
  have mo : (vo,xo) ∈ (vo,xo) :: τ:=by simp
  obtain ⟨t',g,f,a1,ra,_⟩:=s1.node mo hno
  obtain ⟨p,ws,rfl,hp,rl,_⟩:=ra.lst_inv
  refine ⟨.inl ⟨rfl,ws,.inl (.inl hp)⟩,p,ws,rfl,rfl,hp,?_⟩
  obtain ⟨t2,ht2,s5⟩:=s1.writeN (o:=.lst ws.reverse) (n':=.lst xs.reverse) mo hno JYi hp rfl (.mk_lst upd_same rl.rev)
  rw [ht] at ht2
  cases ht2
  exact k _ _ ⟨S1,_,.v .non,s5.drop.hold (Z0 rfl),q1⟩
end
theorem JBo {ao ae : AE} (ha : CE ao) (hb : CE ae) : CE (Hy ao ae):=fun {ι} _ EA EA' ρ Q Q' h hx hq=>ha h hx fun o ρ1 h1=>V1 h1 fun h2=>hb h2 hx fun x ρ2 h3=>by
  obtain ⟨l,_⟩:=i0 (ι:=ι)
  obtain ⟨i,zs,k,rfl,e1,e2,e3,_⟩:=h3 l
  refine ⟨i,zs,k,rfl,e1,e2,e3,hq _ _ fun l=>?_⟩
  obtain ⟨i',zs',k',f0,f1,f2,_,q⟩:=h3 l
  cases f0
  rw [e2] at f2
  cases f2
  rw [e1] at f1
  have : zs = zs':=(List.map_inj_right (f:=D.str) (fun a b h=>by cases h; rfl)).mp (by simpa using f1)
  subst this
  exact q
theorem JZm {ao : AE} (ha : CE ao) : CE (Lc ao):=fun {ι} _ EA EA' ρ Q Q' h hx hq=>ha h hx fun o ρ1 h1=>by
  obtain ⟨l,_⟩:=i0 (ι:=ι)
  obtain ⟨i,p,xs,t,e1,e2,_⟩:=h1 l
  refine ⟨i,p,xs,t,e1,e2,hq _ _ fun l=>?_⟩
  obtain ⟨i',p',xs',t',f1,f2,q⟩:=h1 l
  rw [e1] at f1; cases f1
  rw [e2] at f2; cases f2
  exact q
section
variable {EA : AX} {ρ : J0} {Q : AK} {i : Nat} {x : A}
theorem To {ao ae : AE} (k : ao EA ρ fun o ρ1=>isL o ρ1 (ae EA ρ1 fun x ρ2=>Ml o x ρ2 Q)) : Hy ao ae EA ρ Q:=k
theorem JBe {zs : List Str} {k0 : Str} (h : ρ[i]? = some (some (.lst (zs.map D.str)))) (h2 : dat x ρ = some (.str k0)) (h3 : k0 ∈ zs) (k : Q (.v .non) (ρ.set i (some (.lst ((zs.eraseIdx (zs.idxOf k0)).map D.str))))) : Ml (.loc i) x ρ Q:=⟨i,zs,k0,rfl,h,h2,h3,k⟩
theorem JWe {ao : AE} (k : ao EA ρ fun o ρ1=>Lk o ρ1 Q) : Lc ao EA ρ Q:=k
theorem JJd {xs : List D} (h : ρ[i]? = some (some (.lst xs))) (k : Q (.v .non) (ρ.set i (some (.lst xs.reverse)))) : Lk (.loc i) ρ Q:=⟨i,[],xs,_,Z9 h,h,k⟩
theorem JHs {xs : List D} {t : A} {p : List Stp} {w : V} (h : ρ[i]? = some (some t)) (h2 : t.at p = some (.cel w (.lst xs))) (k : Q (.v .non) (ρ.set i (some (t.upd p (.cel w (.lst xs.reverse)))))) : Lk (.pth i p w) ρ Q:=⟨i,p,xs,t,Bw h h2,h,k⟩
end
end Vs
namespace Vs
open PySem PySem.Spec PyProof.Rows L2
variable [Tbs]
/-- the values of scalars -/
def scL : List D → Option (List V)
  | []=>some []
  | d :: ds=>match sc d,scL ds with
    | some v,some vs=>some (v :: vs)
    | _,_=>none
theorem JYf {K : Fg} {S : Hp} : ∀ {ds : List D} {vs : List V},scL ds = some vs → RepL K S ds vs
  | [],vs,h=>by
    simp only [scL,Option.some.injEq] at h
    subst h
    simp only [RepL]
  | d :: ds,vs,h=>by
    simp only [scL] at h
    cases h1 : sc d with
    | none=>rw [h1] at h; cases h
    | some v =>
      cases h2 : scL ds with
      | none=>rw [h1,h2] at h; cases h
      | some ws =>
        rw [h1,h2] at h
        simp only [Option.some.injEq] at h
        subst h
        simp only [RepL]
        exact ⟨v,ws,rfl,Z0 h1,JYf h2⟩
/-- the object of a module's tuple -/
structure GTup (K : Fg) (a : Addr) (vs : List V) : Prop where
  ob : ∃ (o : Obj) (its : Array Value) (n : Nat),K.lookup a = some o ∧ o.cls = .type "tuple" ∧ o.data = .seq its n ∧ its.size ≤ sizeLine ∧ Vals vs its.toList
theorem Di {K : Fg} {S : Hp} {a : Addr} {ds : List D} {vs : List V} (h : GTup K a vs) (hs : scL ds = some vs) : Rep K S (.tup ds) (.ref a):=by
  simp only [Rep]
  exact ⟨a,vs,rfl,.inr h.ob,JYf hs⟩
theorem JZo {K : Fg} {P : Pm} {a : Addr} {ds : List D} {vs : List V} (h : GTup K a vs) (hs : scL ds = some vs) : Yw K P (tC (.ref a)) (aC (.tup ds)):=fun c EA _ _ τ S H σ ρ Q R s q k=>k _ _ ⟨S,ρ,.v (.tup ds),s.hold (Di h hs),q⟩
theorem Oa {X : Cx} {P : Pm} {x : Str} {pos : Pos} {ds : List D} {vs : List V} {a : Addr} (hm : X.mg x = some (.ref a)) (h : GTup X.K a vs) (hs : scL ds = some vs) (hg : Gl X x) (hd : (x == ("__debug__" : Str)) = false:=by decide) : QE X P (.Name x pos) (aC (.tup ds)) :=
  ⟨_,pe_glob (v:=.ref a) hg hm rfl hd,JZo h hs⟩
/-- a module's dict of such tuples,its keys texts -/
structure GTab (K : Fg) (w : World) (a : Addr) (tab : List (Str × List D)) : Prop where
  at_ : ∀ k ds,(k,ds) ∈ tab → ∃ b vs,KDct K w a k (.ref b) ∧ GTup K b vs ∧ scL ds = some vs
def Ht (tab : List (Str × List D)) (ae : AE) : AE:=fun EA ρ Q=>ae EA ρ fun x ρ1=>∃ k ds,dat x ρ1 = some (.str k) ∧ tab.lookup k = some ds ∧ Q (.v (.tup ds)) ρ1
theorem mem_of_lookup {k : Str} {ds : List D} : ∀ {tab : List (Str × List D)},tab.lookup k = some ds → (k,ds) ∈ tab
  | [],h=>nomatch h
  | (k',d') :: r,h=>by
    rw [List.lookup_cons] at h
    cases e : k == k' with
    | true =>
      rw [e] at h
      have : k = k':=by simpa using e
      simp only [Option.some.injEq] at h
      rw [this,← h]
      exact List.mem_cons_self ..
    | false =>
      rw [e] at h
      exact List.mem_cons_of_mem _ (mem_of_lookup h)
theorem JM5 {X : Cx} {P : Pm} {x : Str} {e : Expr} {ae : AE} {pos pos2 : Pos} {tab : List (Str × List D)} {a : Addr} (hm : X.mg x = some (.ref a)) (T : GTab X.K X.w a tab) (hg : Gl X x) (he : QE X P e ae) (hs : PlainIx e) (hd : (x == ("__debug__" : Str)) = false:=by decide) : QE X P (.Subscript (.Name x pos2) e pos) (Ht tab ae):=by
  obtain ⟨te,pe,se⟩:=he.ex
  refine ⟨_,pe_ix ix_kdict (pe_glob (v:=.ref a) hg hm rfl hd) pe hs,fun c EA ho hw τ S H σ ρ Q R s q k=>?_⟩
  refine se c EA ho hw τ S H σ ρ _ _ s q fun v H1 ⟨S1,ρ1,y,s1,kk,ds,hk,hl,q1⟩=>?_
  have rk:=s1.dat (List.mem_cons_self ..) hk
  simp only [Rep] at rk
  subst rk
  obtain ⟨b,vs,h1,h2,h3⟩:=T.at_ kk ds (mem_of_lookup hl)
  exact ⟨a,kk,.ref b,rfl,rfl,h1,k _ _ ⟨S1,ρ1,.v (.tup ds),s1.drop.hold (Di h2 h3),q1⟩⟩
theorem JGh {tab : List (Str × List D)} {ae : AE} (ha : CE ae) : CE (Ht tab ae):=fun {ι} _ EA EA' ρ Q Q' h hx hq=>ha h hx fun x ρ1 h1=>by
  obtain ⟨l,_⟩:=i0 (ι:=ι)
  obtain ⟨k,ds,e1,e2,_⟩:=h1 l
  refine ⟨k,ds,e1,e2,hq _ _ fun l=>?_⟩
  obtain ⟨k',ds',f1,f2,q⟩:=h1 l
  rw [e1] at f1; cases f1
  rw [e2] at f2; cases f2
  exact q
theorem JXx {tab : List (Str × List D)} {ae : AE} {EA : AX} {ρ : J0} {Q : AK} (k : ae EA ρ fun x ρ1=>∃ k ds,dat x ρ1 = some (.str k) ∧ tab.lookup k = some ds ∧ Q (.v (.tup ds)) ρ1) : Ht tab ae EA ρ Q:=k
end Vs
namespace Vs
open PySem PySem.Spec PyProof.Rows L2
variable [Tbs]
section
variable {K : Fg} {ρ : J0} {x y : A} {Q : AK}
/-- dict(x),x a dict -/
def K9 : ARs:=fun xs ρ Q=>∃ (x : A) (kvs : List (Key × D)),xs = [x] ∧ dat x ρ = some (.dic kvs) ∧ Q (.dic kvs) ρ
theorem JKm : Wm K (fun xs H Q=>∃ (a : Addr) (kvs : List (Key × V)),xs = [.ref a] ∧ Rd H a (.dK kvs) ∧ ∀ p,H p = none → Q (.ref p) (upd H p (.dK kvs))) K9:=by
  intro c τ S H σ ρ vs xs Q R hl s q k
  obtain ⟨x,kvs,rfl,h1,q⟩:=q
  obtain ⟨v,rfl,s⟩:=one_arg hl s
  obtain ⟨y0,g,r0,e0⟩:=s.thing (List.mem_cons_self ..) h1
  obtain ⟨p,ws,rfl,h3,h4⟩:=Gv r0 e0 s.le
  refine ⟨p,ws,rfl,h3,fun l hn=>k _ _ ⟨S,ρ,.dic kvs,s.drop.alloc hn rfl ?_,q⟩⟩
  exact .mk_dic upd_same h4
theorem Sy {kvs : List (Key × D)} (h1 : dat x ρ = some (.dic kvs)) (k : Q (.dic kvs) ρ) : K9 [x] ρ Q:=⟨x,kvs,rfl,h1,k⟩
theorem JHm : Cs K9:=fun {ι} _ x ρ Q Q' h k=>by
  obtain ⟨i,_⟩:=i0 (ι:=ι)
  obtain ⟨a,z,rfl,h1,_⟩:=h i
  refine ⟨a,z,rfl,h1,k _ _ fun i=>?_⟩
  obtain ⟨b,w,g0,g1,q⟩:=h i
  cases g0
  rw [h1] at g1
  cases g1
  exact q
/-- str(int) -/
def JZv : ARs:=fun xs ρ Q=>∃ (x : A) (i : Int),xs = [x] ∧ dat x ρ = some (.int i) ∧ i.natAbs.log2 < 1920 ∧ Q (.v (.str (toString i))) ρ
theorem Tc {i : Int} (h1 : dat x ρ = some (.int i)) (h2 : i.natAbs.log2 < 1920) (k : Q (.v (.str (toString i))) ρ) : JZv [x] ρ Q:=⟨x,i,rfl,h1,h2,k⟩
/-- text < text -/
def Hx : AR2:=fun x y ρ Q=>∃ a b : Str,dat x ρ = some (.str a) ∧ dat y ρ = some (.str b) ∧ Q (.v (.bl (decide (a.cps.toList < b.cps.toList)))) ρ
theorem JGd : Yj K (fun x y H Q=>∃ i j,x = .str i ∧ y = .str j ∧ Q (.bl (decide (i.cps.toList < j.cps.toList))) H) Hx:=by
  intro c τ S H σ ρ vx vy x y Q R s q k
  obtain ⟨a,b,h1,h2,q⟩:=q
  have r2:=s.dat (List.mem_cons_self ..) h2
  have r1:=s.dat (List.mem_cons_of_mem _ (List.mem_cons_self ..)) h1
  simp only [Rep] at r1 r2
  exact ⟨a,b,r1,r2,k _ _ (KE.sc s.drop.drop rfl q)⟩
theorem JYg {a b : Str} (h1 : dat x ρ = some (.str a)) (h2 : dat y ρ = some (.str b)) (k : Q (.v (.bl (decide (a.cps.toList < b.cps.toList)))) ρ) : Hx x y ρ Q:=⟨a,b,h1,h2,k⟩
theorem JXh : C2 Hx:=fun {ι} _ x y ρ Q Q' h k=>by
  obtain ⟨i,_⟩:=i0 (ι:=ι)
  obtain ⟨a,b,h1,h2,_⟩:=h i
  refine ⟨a,b,h1,h2,k _ _ fun i=>?_⟩
  obtain ⟨a',b',g1,g2,q⟩:=h i
  rw [h1] at g1; cases g1
  rw [h2] at g2; cases g2
  exact q
end
end Vs
namespace Vs
open PySem PySem.Spec PyProof.Rows L2
end Vs
namespace Vs
open PySem L2 PyProof.Rows
end Vs
namespace Vs
open PySem L2 PyProof.Rows
end Vs
namespace Vs
open PySem L2 PyProof.Rows NdefX
variable [Tbs]
/-- a def with a star parameter,called by positional values -/
abbrev JU7 (K : Fg) (n : Nat) (sp : ASp) : Sp:=fun vs H Q E=>∃ ws rest,vs = ws ++ rest ∧ ws.length = n ∧ rest.length ≤ sizeLine ∧ ∀ p,H p = none → lift K sp (ws ++ [V.ref p]) (upd H p (.tup rest)) Q E
abbrev Tab : Type:=List (Addr × ASp)
end Vs
namespace Vs
open PySem PySem.Spec L2 PyProof.Rows
variable [Tbs]
structure SupT (Pr : Program) (w : World) (K : Fg) (mg : Str → Option Value) (base : Heap) (D : Addr) (m : Str) (k : Nat) (tab : Tab) : Prop where
  all : ∀ C sp,tab.lookup C = some sp → ∃ g,PySem.W.ks_superIn K C D m = some (some (.ref g)) ∧ PySem.W.typeIn K (.ref g) = some (.type "function") ∧ PySem.W.fnIn K g = true ∧ PySem.W.mroIn K C (.ref D) = some true ∧ FnR Pr w K mg base (L2.CX Pr w) k g (lift K sp)
structure SupTV (Pr : Program) (w : World) (K : Fg) (mg : Str → Option Value) (base : Heap) (D : Addr) (m : Str) (k : Nat) (tab : Tab) : Prop where
  all : ∀ C sp,tab.lookup C = some sp → ∃ g,PySem.W.ks_superIn K C D m = some (some (.ref g)) ∧ PySem.W.typeIn K (.ref g) = some (.type "function") ∧ PySem.W.fnIn K g = true ∧ PySem.W.mroIn K C (.ref D) = some true ∧ FnR Pr w K mg base (L2.CX Pr w) k g (JU7 K 1 sp)
section
variable {Pr : Program} {w : World} {K : Fg} {mg : Str → Option Value} {base : Heap} {D : Addr} {m : Str} {k : Nat} {tab : Tab}
theorem Fn {α : Type} {C C' : Addr} {a b : α} {l : List (Addr × α)} (h : List.lookup C ((C',a) :: l) = some b) : (C = C' ∧ a = b) ∨ l.lookup C = some b:=by
  rw [List.lookup_cons] at h
  split at h
  · rename_i q
    exact .inl ⟨beq_iff_eq.mp q,Option.some.inj h⟩
  · exact .inr h
theorem SupT.nil : SupT Pr w K mg base D m k []:=⟨fun C sp h=>by simp at h⟩
theorem SupTV.nil : SupTV Pr w K mg base D m k []:=⟨fun C sp h=>by simp at h⟩
theorem SupT.cons {C g : Addr} {sp : ASp} (h : PySem.W.ks_superIn K C D m = some (some (.ref g)) ∧ PySem.W.typeIn K (.ref g) = some (.type "function") ∧ PySem.W.fnIn K g = true ∧ PySem.W.mroIn K C (.ref D) = some true) (F : FnR Pr w K mg base (L2.CX Pr w) k g (lift K sp)) (T : SupT Pr w K mg base D m k tab) :
    SupT Pr w K mg base D m k ((C,sp) :: tab):=⟨fun C' sp' e=>by
  rcases Fn e with ⟨rfl,rfl⟩ | e
  · exact ⟨g,h.1,h.2.1,h.2.2.1,h.2.2.2,F⟩
  · exact T.all C' sp' e⟩
theorem SupTV.cons {C g : Addr} {sp : ASp} (h : PySem.W.ks_superIn K C D m = some (some (.ref g)) ∧ PySem.W.typeIn K (.ref g) = some (.type "function") ∧ PySem.W.fnIn K g = true ∧ PySem.W.mroIn K C (.ref D) = some true) (F : FnR Pr w K mg base (L2.CX Pr w) k g (JU7 K 1 sp)) (T : SupTV Pr w K mg base D m k tab) :
    SupTV Pr w K mg base D m k ((C,sp) :: tab):=⟨fun C' sp' e=>by
  rcases Fn e with ⟨rfl,rfl⟩ | e
  · exact ⟨g,h.1,h.2.1,h.2.2.1,h.2.2.2,F⟩
  · exact T.all C' sp' e⟩
end
structure CalT (Pr : Program) (w : World) (K : Fg) (mg : Str → Option Value) (base : Heap) (m : Str) (k : Nat) (tab : Tab) : Prop where
  all : ∀ C sp,tab.lookup C = some sp → ∃ f fd ps,Cls K C ∧ Meth K C m f ∧ Binds K fd ps [] ∧ Fok Pr w K mg base k f fd ps sp
theorem CalT.nil {Pr : Program} {w : World} {K : Fg} {mg : Str → Option Value} {base : Heap} {m : Str} {k : Nat} : CalT Pr w K mg base m k []:=⟨fun C sp h=>by simp at h⟩
theorem CalT.cons {Pr : Program} {w : World} {K : Fg} {mg : Str → Option Value} {base : Heap} {m : Str} {k j : Nat} {C : Addr} {sp : ASp} {ps : List Str} {tab : Tab} (c : Cls K C) (M : CalM Pr w K mg base C m j ps sp) (T : CalT Pr w K mg base m k tab) (hj : j ≤ k) : CalT Pr w K mg base m k ((C,sp) :: tab):=⟨fun C' sp' e=>by
  rcases Fn e with ⟨rfl,rfl⟩ | e
  · obtain ⟨f,fd,h1,h2,h3⟩:=M.ex
    exact ⟨f,fd,ps,c,h1,h2,h3.mono hj⟩
  · exact T.all C' sp' e⟩
theorem CalT.mono {Pr : Program} {w : World} {K : Fg} {mg : Str → Option Value} {base : Heap} {m : Str} {k j : Nat} {tab : Tab} (T : CalT Pr w K mg base m j tab) (h : j ≤ k) : CalT Pr w K mg base m k tab:=⟨fun C sp e=>by
  obtain ⟨f,fd,ps,h1,h2,h3,h4⟩:=T.all C sp e
  exact ⟨f,fd,ps,h1,h2,h3,h4.mono h⟩⟩
def JBm (tab : Tab) (m : Str) (ao : AE) (aa : AA) : AE:=fun EA ρ Q=>ao EA ρ fun o ρ1=>∃ C fs sp,dat o ρ1 = some (.obj C fs) ∧ fs.lookup m = none ∧ tab.lookup C = some sp ∧ aa EA ρ1 fun xs ρ2=>Yp sp (o :: xs) EA ρ2 Q
structure FldT (K : Fg) (f : Str) (Cs : List Addr) : Prop where
  all : ∀ C ∈ Cs,Cls K C ∧ NoAttr K C f
theorem FldT.nil {K : Fg} {f : Str} : FldT K f []:=⟨fun _ h=>by simp at h⟩
theorem FldT.cons {K : Fg} {f : Str} {C : Addr} {Cs : List Addr} (c : Cls K C) (n : NoAttr K C f) (T : FldT K f Cs) : FldT K f (C :: Cs):=⟨fun D h=>by
  rcases List.mem_cons.mp h with rfl | h
  · exact ⟨c,n⟩
  · exact T.all D h⟩
def JX8 : A → Option Addr
  | .v (.obj C _)=>some C
  | .obj C _=>some C
  | _=>none
def JJt (Cs : List Addr) (f : Str) : AR1:=fun x ρ Q=>∃ y d C,lkA x ρ = some y ∧ JX8 y = some C ∧ C ∈ Cs ∧ Xd y C f = some d ∧ Q (.v d) ρ
def JX7 (Cs : List Addr) (f : Str) (av ao : AE) : AS:=fun DA ρ=>av DA.ex ρ fun x ρ1=>Yd x ρ1 fun d ρ2=>ao DA.ex ρ2 fun o ρ3=>∃ j fs C,o = .loc j ∧ ρ3[j]? = some (some (.obj C fs)) ∧ C ∈ Cs ∧ (∀ p ∈ fs,∃ d,p.2 = .v d) ∧ fs.length ≤ 100 ∧ DA.nx (ρ3.set j (some (.obj C (Z7 f d fs))))
end Vs
namespace Vs
open PySem PySem.Spec L2 PyProof.Rows
variable [Tbs]
section
variable {X : Cx} {P : Pm} {K : Fg} {pos : Pos}
/-- pairs of numbers -/
def Ly (a b c d : Int) : Bool:=decide (a < c) || (decide (a = c) && decide (b < d))
def JFk : AR2:=fun x y ρ Q=>∃ a b c d,dat x ρ = some (.tup [.int a,.int b]) ∧ dat y ρ = some (.tup [.int c,.int d]) ∧ Q (.v (.bl (Ly a b c d))) ρ
def JBc : AR2:=fun x y ρ Q=>∃ a b c d,dat x ρ = some (.tup [.int a,.int b]) ∧ dat y ρ = some (.tup [.int c,.int d]) ∧ Q (.v (.bl (Ly c d a b))) ρ
structure BinT (Pr : Program) (w : World) (K : Fg) (mg : Str → Option Value) (base : Heap) (nm : String) (k : Nat) (tab : Tab) : Prop where
  all : ∀ C sp,tab.lookup C = some sp → PySem.W.selfFirst K C = true ∧ (∃ rc,PySem.W.findIn K (.ref C) (dunderR nm) = some rc ∧ (rc = none ∨ ∃ g : Addr,rc = some (.ref g))) ∧ (∃ fo,PySem.W.findIn K (.type "int") (PySem.dunder nm) = some fo) ∧ (∃ ro,PySem.W.findIn K (.type "int") (dunderR nm) = some ro) ∧
    PySem.W.subIn K (.type "int") (.ref C) = some false ∧ ∃ f fd ps,PySem.W.findIn K (.ref C) (PySem.dunder nm) = some (some (.ref f)) ∧ PySem.W.isFn K (.ref f) = true ∧ Binds K fd ps [] ∧ Fok Pr w K mg base k f fd ps sp
def JM4 (tab : Tab) (aa ab : AE) : AE:=fun EA ρ Q=>aa EA ρ fun x ρ1=>ab EA ρ1 fun y ρ2=>∃ C fs sp n,dat x ρ2 = some (.obj C fs) ∧ dat y ρ2 = some (.int n) ∧ tab.lookup C = some sp ∧ Yp sp [x,y] EA ρ2 Q
def JZu : ARs:=fun xs ρ Q=>∃ x,∃ ns : List Int,xs = [x] ∧ dat x ρ = some (.lst (ns.map D.int)) ∧ Q (.v (.int ns.sum)) ρ
def N7 (d : Int) : List Int → Int
  | []=>d
  | n :: r=>r.foldl max n
def JFg (ae ad : AE) : AE:=fun EA ρ Q=>ae EA ρ fun x ρ1=>ad EA ρ1 fun y ρ2=>∃ (ns : List Int) (k : Int),dat x ρ2 = some (.lst (ns.map D.int)) ∧ dat y ρ2 = some (.int k) ∧ Q (.v (.int (N7 k ns))) ρ2
def JZn (aa ab ac : AE) : AE:=fun EA ρ Q=>aa EA ρ fun x ρ1=>(∃ kvs,dat x ρ1 = some (.dic kvs)) ∧ ab EA ρ1 fun y ρ2=>ac EA ρ2 fun z ρ3=>Yd z ρ3 fun d ρ4=>∃ kvs i k,dat x ρ4 = some (.dic kvs) ∧ dat y ρ4 = some i ∧ keyD i = some k ∧ Q (.v ((valD kvs k).getD d)) ρ4
def JG5 (ao ae : AE) : AE:=fun EA ρ Q=>ao EA ρ fun o ρ1=>(∃ a,dat o ρ1 = some (.str a)) ∧ ae EA ρ1 fun x ρ2=>∃ (a : Str) (ys : List Str),dat o ρ2 = some (.str a) ∧ dat x ρ2 = some (.lst (ys.map D.str)) ∧ (ys.map (·.length)).sum + ys.length * a.length ≤ 16777216 ∧ Q (.v (.str (Txt.join a ys))) ρ2
end
end Vs
namespace Vs
open PySem PySem.Spec L2 PyProof.Rows
end Vs
namespace Vs
open PySem PySem.Spec L2 PyProof.Rows
variable [Tbs]
theorem BinT.nil {Pr : Program} {w : World} {K : Fg} {mg : Str → Option Value} {base : Heap} {nm : String} {k : Nat} : BinT Pr w K mg base nm k []:=⟨fun C sp h=>by simp at h⟩
theorem BinT.cons {Pr : Program} {w : World} {K : Fg} {mg : Str → Option Value} {base : Heap} {nm : String} {k j : Nat} {C f : Addr} {fd : FuncData} {ps : List Str} {sp : ASp} {tab : Tab} (h1 : PySem.W.selfFirst K C = true) (h2 : PySem.W.findIn K (.ref C) (dunderR nm) = some none) (h3 : ∃ fo,PySem.W.findIn K (.type "int") (PySem.dunder nm) = some fo)
    (h4 : ∃ ro,PySem.W.findIn K (.type "int") (dunderR nm) = some ro) (h5 : PySem.W.subIn K (.type "int") (.ref C) = some false) (h6 : PySem.W.findIn K (.ref C) (PySem.dunder nm) = some (some (.ref f))) (h7 : PySem.W.isFn K (.ref f) = true) (hb : Binds K fd ps []) (F : Fok Pr w K mg base j f fd ps sp) (hj : j ≤ k) (T : BinT Pr w K mg base nm k tab) : BinT Pr w K mg base nm k ((C,sp) :: tab):=⟨fun C' sp' e=>by
  rcases Fn e with ⟨rfl,rfl⟩ | e
  · exact ⟨h1,⟨none,h2,.inl rfl⟩,h3,h4,h5,f,fd,ps,h6,h7,hb,F.mono hj⟩
  · exact T.all C' sp' e⟩
end Vs
namespace Vs
open PySem PySem.Spec L2 PyProof.Rows
variable [Tbs]
section
variable {EA : AX} {ρ ρ' : J0} {Q : AK} {DA : AEnds} {tab : Tab} {m f : Str} {ao ae ab ac : AE} {aa : AA} {x y z o : A} {C : Addr} {Cs : List Addr} {sp : ASp}
/-- a method by the class -/
def mtK (tab : Tab) (m : Str) (aa : AA) (EA : AX) (Q : AK) (o : A) (ρ1 : J0) : Prop:=∃ C fs sp,dat o ρ1 = some (.obj C fs) ∧ fs.lookup m = none ∧ tab.lookup C = some sp ∧ aa EA ρ1 fun xs ρ2=>Yp sp (o :: xs) EA ρ2 Q
theorem JU3 (k : ao EA ρ fun o ρ1=>mtK tab m aa EA Q o ρ1) : JBm tab m ao aa EA ρ Q:=k
theorem Sf {fs : List (Str × D)} (h1 : dat o ρ = some (.obj C fs)) (h2 : fs.lookup m = none) (h3 : tab.lookup C = some sp) (k : aa EA ρ fun xs ρ2=>Yp sp (o :: xs) EA ρ2 Q) : mtK tab m aa EA Q o ρ:=⟨C,fs,sp,h1,h2,h3,k⟩
/-- a field of one of several classes: shared,owned -/
theorem JJr {fs : List (Str × D)} {d : D} (h1 : lkA x ρ = some (.v (.obj C fs))) (h2 : C ∈ Cs) (h3 : fs.lookup f = some d) (k : Q (.v d) ρ) : JJt Cs f x ρ Q:=⟨_,d,C,h1,rfl,h2,by simp only [Xd,if_pos,h3],k⟩
theorem JWy {fs : List (Str × A)} {d : D} (h1 : lkA x ρ = some (.obj C fs)) (h2 : C ∈ Cs) (h3 : fs.lookup f = some (.v d)) (k : Q (.v d) ρ) : JJt Cs f x ρ Q:=⟨_,d,C,h1,rfl,h2,by simp only [Xd,if_pos,h3],k⟩
def A4 (Cs : List Addr) (f : Str) (o : A) (d : D) (ρ : J0) (nx : J0 → Prop) : Prop:=∃ j fs C,o = .loc j ∧ ρ[j]? = some (some (.obj C fs)) ∧ C ∈ Cs ∧ (∀ p ∈ fs,∃ d,p.2 = .v d) ∧ fs.length ≤ 100 ∧ nx (ρ.set j (some (.obj C (Z7 f d fs))))
theorem Ab {av : AE} (k : av DA.ex ρ fun x ρ1=>Yd x ρ1 fun d ρ2=>ao DA.ex ρ2 fun o ρ3=>A4 Cs f o d ρ3 DA.nx) : JX7 Cs f av ao DA ρ:=k
theorem Af {j : Nat} {fs : List (Str × A)} {d : D} {nx : J0 → Prop} (h1 : ρ[j]? = some (some (.obj C fs))) (h2 : C ∈ Cs) (h3 : ∀ p ∈ fs,∃ d,p.2 = A.v d) (h4 : fs.length ≤ 100) (k : nx (ρ.set j (some (.obj C (Z7 f d fs))))) : A4 Cs f (.loc j) d ρ nx:=⟨j,fs,C,rfl,h1,h2,h3,h4,k⟩
/-- own + number -/
def bnK (tab : Tab) (EA : AX) (Q : AK) (x y : A) (ρ : J0) : Prop:=∃ C fs sp n,dat x ρ = some (.obj C fs) ∧ dat y ρ = some (.int n) ∧ tab.lookup C = some sp ∧ Yp sp [x,y] EA ρ Q
theorem JJk (k : ae EA ρ fun x ρ1=>ab EA ρ1 fun y ρ2=>bnK tab EA Q x y ρ2) : JM4 tab ae ab EA ρ Q:=k
theorem JUm {fs : List (Str × D)} {n : Int} (h1 : dat x ρ = some (.obj C fs)) (h2 : dat y ρ = some (.int n)) (h3 : tab.lookup C = some sp) (k : Yp sp [x,y] EA ρ Q) : bnK tab EA Q x y ρ:=⟨C,fs,sp,n,h1,h2,h3,k⟩
/-- max with a default,sum,get,join,order -/
def mxK (Q : AK) (x y : A) (ρ : J0) : Prop:=∃ (ns : List Int) (k : Int),dat x ρ = some (.lst (ns.map D.int)) ∧ dat y ρ = some (.int k) ∧ Q (.v (.int (N7 k ns))) ρ
theorem Ru (k : ae EA ρ fun x ρ1=>ab EA ρ1 fun y ρ2=>mxK Q x y ρ2) : JFg ae ab EA ρ Q:=k
theorem JVe {ns : List Int} {n : Int} (h1 : dat x ρ = some (.lst (ns.map D.int))) (h2 : dat y ρ = some (.int n)) (k : Q (.v (.int (N7 n ns))) ρ) : mxK Q x y ρ:=⟨ns,n,h1,h2,k⟩
theorem JV4 {ns : List Int} (h1 : dat x ρ = some (.lst (ns.map D.int))) (k : Q (.v (.int ns.sum)) ρ) : JZu [x] ρ Q:=⟨x,ns,rfl,h1,k⟩
def Qq (x y : A) (d : D) (ρ : J0) (Q : AK) : Prop:=∃ kvs i k,dat x ρ = some (.dic kvs) ∧ dat y ρ = some i ∧ keyD i = some k ∧ Q (.v ((valD kvs k).getD d)) ρ
theorem JJ2 (k : ae EA ρ fun x ρ1=>Mc x ρ1 (ab EA ρ1 fun y ρ2=>ac EA ρ2 fun z ρ3=>Yd z ρ3 fun d ρ4=>Qq x y d ρ4 Q)) : JZn ae ab ac EA ρ Q:=k
theorem JYt {kvs : List (Key × D)} {i d e : D} {ky : Key} (h1 : dat x ρ = some (.dic kvs)) (h2 : dat y ρ = some i) (h3 : keyD i = some ky) (h4 : (valD kvs ky).getD d = e) (k : Q (.v e) ρ) : Qq x y d ρ Q:=⟨kvs,i,ky,h1,h2,h3,by rw [h4]; exact k⟩
def U5 (x : A) (ρ : J0) (p : Prop) : Prop:=(∃ a,dat x ρ = some (.str a)) ∧ p
theorem JYq {a : Str} {p : Prop} (h : dat x ρ = some (.str a)) (k : p) : U5 x ρ p:=⟨⟨a,h⟩,k⟩
def Ag (o x : A) (ρ : J0) (Q : AK) : Prop:=∃ (a : Str) (ys : List Str),dat o ρ = some (.str a) ∧ dat x ρ = some (.lst (ys.map D.str)) ∧ (ys.map (·.length)).sum + ys.length * a.length ≤ 16777216 ∧ Q (.v (.str (Txt.join a ys))) ρ
theorem JUs (k : ao EA ρ fun o ρ1=>U5 o ρ1 (ae EA ρ1 fun x ρ2=>Ag o x ρ2 Q)) : JG5 ao ae EA ρ Q:=k
theorem T4 {a : Str} {ys : List Str} (h1 : dat o ρ = some (.str a)) (h2 : dat x ρ = some (.lst (ys.map D.str))) (h3 : (ys.map (·.length)).sum + ys.length * a.length ≤ 16777216) (k : Q (.v (.str (Txt.join a ys))) ρ) : Ag o x ρ Q:=⟨a,ys,h1,h2,h3,k⟩
theorem Th {a b c d : Int} (h1 : dat x ρ = some (.tup [.int a,.int b])) (h2 : dat y ρ = some (.tup [.int c,.int d])) (k : Q (.v (.bl (Ly a b c d))) ρ) : JFk x y ρ Q:=⟨a,b,c,d,h1,h2,k⟩
theorem So {a b c d : Int} (h1 : dat x ρ = some (.tup [.int a,.int b])) (h2 : dat y ρ = some (.tup [.int c,.int d])) (k : Q (.v (.bl (Ly c d a b))) ρ) : JBc x y ρ Q:=⟨a,b,c,d,h1,h2,k⟩
theorem kitAny_nil {K : Fg} {t : Value} : PySem.W.kitAny K t [] = some false:=by
  simp only [PySem.W.kitAny]
end
end Vs
namespace PySem.W
open PySem.Calls PyProof.Rows
end PySem.W
namespace Vs
open PySem PySem.Spec L2 PyProof.Rows
variable [Tbs]
section
variable {EA : AX} {ρ ρ' : J0} {Q : AK}
def JK3 (tab : Tab) (aa ab : AE) : AE:=fun EA ρ Q=>aa EA ρ fun x ρ1=>ab EA ρ1 fun y ρ2=>∃ C D fs gs sp sp2,dat x ρ2 = some (.obj C fs) ∧ dat y ρ2 = some (.obj D gs) ∧ tab.lookup C = some sp ∧ tab.lookup D = some sp2 ∧ Yp sp [x,y] EA ρ2 Q
end
section
variable {EA : AX} {ρ ρ' : J0} {Q : AK} {tab : Tab} {ae ab : AE} {x y : A} {C C2 : Addr} {sp sp2 : ASp}
def bdK (tab : Tab) (EA : AX) (Q : AK) (x y : A) (ρ : J0) : Prop:=∃ C D fs gs sp sp2,dat x ρ = some (.obj C fs) ∧ dat y ρ = some (.obj D gs) ∧ tab.lookup C = some sp ∧ tab.lookup D = some sp2 ∧ Yp sp [x,y] EA ρ Q
theorem De (k : ae EA ρ fun x ρ1=>ab EA ρ1 fun y ρ2=>bdK tab EA Q x y ρ2) : JK3 tab ae ab EA ρ Q:=k
theorem JUi {fs gs : List (Str × D)} (h1 : dat x ρ = some (.obj C fs)) (h2 : dat y ρ = some (.obj C2 gs)) (h3 : tab.lookup C = some sp) (h4 : tab.lookup C2 = some sp2) (k : Yp sp [x,y] EA ρ Q) : bdK tab EA Q x y ρ:=⟨C,C2,fs,gs,sp,sp2,h1,h2,h3,h4,k⟩
end
section
variable {Pr : Program} {w : World} {K : Fg} {mg : Str → Option Value} {base : Heap} {nm : String} {k j : Nat} {tab : Tab}
structure BinDs (Pr : Program) (w : World) (K : Fg) (mg : Str → Option Value) (base : Heap) (nm : String) (k : Nat) (tab : Tab) : Prop where
  all : ∀ C sp,tab.lookup C = some sp → PySem.W.selfFirst K C = true ∧ PySem.W.findIn K (.ref C) (dunderR nm) = some none ∧ ∃ f fd ps,PySem.W.findIn K (.ref C) (PySem.dunder nm) = some (some (.ref f)) ∧ PySem.W.isFn K (.ref f) = true ∧ Binds K fd ps [] ∧ Fok Pr w K mg base k f fd ps sp
theorem BinDs.nil : BinDs Pr w K mg base nm k []:=⟨fun C sp h=>by simp at h⟩
theorem BinDs.cons {C f : Addr} {fd : FuncData} {ps : List Str} {sp : ASp} (h1 : PySem.W.selfFirst K C = true) (h2 : PySem.W.findIn K (.ref C) (dunderR nm) = some none) (h6 : PySem.W.findIn K (.ref C) (PySem.dunder nm) = some (some (.ref f))) (h7 : PySem.W.isFn K (.ref f) = true) (hb : Binds K fd ps []) (F : Fok Pr w K mg base j f fd ps sp) (hj : j ≤ k) (T : BinDs Pr w K mg base nm k tab) : BinDs Pr w K mg base nm k ((C,sp) :: tab):=⟨fun C' sp' e=>by
  rcases Fn e with ⟨rfl,rfl⟩ | e
  · exact ⟨h1,h2,f,fd,ps,h6,h7,hb,F.mono hj⟩
  · exact T.all C' sp' e⟩
end
end Vs
namespace Vs
open PySem PySem.Spec L2 PyProof.Rows
end Vs
namespace Vs
open PySem PySem.Spec L2 PyProof.Rows
variable [Tbs]
def JZa (ao ae : AE) : AE:=fun EA ρ Q=>ao EA ρ fun o ρ1=>(∃ xs,dat o ρ1 = some (.lst xs)) ∧ ae EA ρ1 fun x ρ2=>∃ j xs ds,o = .loc j ∧ x = .lst ds ∧ ρ2[j]? = some (some (.lst xs)) ∧ xs.length + ds.length ≤ 100000 ∧ Q (.v .non) (ρ2.set j (some (.lst (xs ++ ds))))
section
variable {EA : AX} {ρ ρ' : J0} {Q : AK} {ao ae : AE} {x o : A}
def Q6 (o x : A) (ρ : J0) (Q : AK) : Prop:=∃ j xs ds,o = .loc j ∧ x = .lst ds ∧ ρ[j]? = some (some (.lst xs)) ∧ xs.length + ds.length ≤ 100000 ∧ Q (.v .non) (ρ.set j (some (.lst (xs ++ ds))))
theorem D2 (k : ao EA ρ fun o ρ1=>isL o ρ1 (ae EA ρ1 fun x ρ2=>Q6 o x ρ2 Q)) : JZa ao ae EA ρ Q:=k
theorem Tx {j : Nat} {xs ds : List D} (h1 : ρ[j]? = some (some (.lst xs))) (h2 : xs.length + ds.length ≤ 100000) (k : Q (.v .non) (ρ.set j (some (.lst (xs ++ ds))))) : Q6 (.loc j) (.lst ds) ρ Q:=⟨j,xs,ds,rfl,rfl,h1,h2,k⟩
end
end Vs
namespace Vs
open PySem PySem.Spec L2 PyProof.Rows
end Vs
namespace Vs
open PySem PySem.Spec L2 PyProof.Rows
end Vs
namespace Vs
open PySem PySem.Spec L2 PyProof.Rows
variable [Tbs]
def JLn (ae : AE) : AE:=fun EA ρ Q=>ae EA ρ fun x ρ1=>∃ xs,dat x ρ1 = some (.lst xs) ∧ Q (.v (.tup xs.reverse)) ρ1
section
variable {ae : AE} {x : A} {ρ : J0} {EA : AX} {Q : AK}
def JJu (x : A) (ρ : J0) (Q : AK) : Prop:=∃ xs,dat x ρ = some (.lst xs) ∧ Q (.v (.tup xs.reverse)) ρ
theorem JUp (k : ae EA ρ fun x ρ1=>JJu x ρ1 Q) : JLn ae EA ρ Q:=k
theorem JVp {xs : List D} (h : dat x ρ = some (.lst xs)) (k : Q (.v (.tup xs.reverse)) ρ) : JJu x ρ Q:=⟨xs,h,k⟩
end
end Vs
namespace PySem.W
open PySem.Calls PyProof.Rows
section
variable {prog : Program} {w : World} {A : Around} {E : Value → Shared → Prop} {s : Shared}
/-- the items of a tuple,taken into a new list -/
theorem JLz {t : Addr} {ys : List Value} {R : List Value → Shared → Prop} (ht : s.heap.IsTuple t ys.toArray) (hz : ys.length ≤ sizeLine)
    (k : R ys { s with heap:=(s.heap.push (seqObj "list" #[] 0)).update s.heap.objs.size (Obj.mapSeq (· ++ ys.toArray)) }) : wpAny (model prog w) A (collect (.ref t)) R E s:=by
  obtain ⟨ob,g1,g2,c,g3⟩:=id ht
  unfold collect
  refine wpAny_bind (wpAny_runValue ?_)
  refine codeAny_builtin entry_proto_collect' ?_
  show wpAny _ _ (do again (.builtin "list.__iadd__" ⟨[← newList [],.ref t],[]⟩)) _ _ s
  refine wpAny_bind (wpAny_newList ?_)
  refine wpAny_pure ⟨Code.quiet_builtin _ (by decide +kernel),?_⟩
  refine codeAny_builtin entry_list_iadd' ?_
  show wpAny _ _ (Builtin.List.listExtendWith (.ref s.heap.objs.size) (.ref t) (.ref s.heap.objs.size)) _ _ { s with heap:=s.heap.push (seqObj "list" #[] 0) }
  unfold Builtin.List.listExtendWith
  have g1' : (s.heap.push (seqObj "list" #[] 0)).get? t = some ob:=Heap.get?_push_of_some _ g1
  refine wpAny_bind (wpAny_typeOf (T:="tuple") ⟨ob,g1',g2⟩ ?_)
  have e1 : (Value.type "tuple" == Value.type "tuple") = true:=by rfl
  rw [if_pos (by rw [e1]; simp)]
  refine wpAny_bind (listItems_at g1' g3 ?_)
  refine wpAny_bind ?_
  refine listItems_at (xs:=#[]) (n:=0) (Heap.get?_push_size _ rfl) rfl ?_
  rw [if_neg (by simp)]
  refine wpAny_bind ?_
  refine listUpdate_at (xs:=#[]) (n:=0) (Heap.get?_push_size _ rfl) rfl ?_ (Nat.zero_le _) ?_
  · refine wpAny_pure ?_
    show wpAny (model prog w) A (do
      let o ← load s.heap.objs.size
      match o.data with
      | .seq zs _=>pure zs.toList
      | _=>unsupported "internal:collect") R E { s with heap:=(s.heap.push (seqObj "list" #[] 0)).update s.heap.objs.size (Obj.mapSeq (· ++ ys.toArray)) }
    refine wpAny_bind ?_
    refine wpAny_load (get?_update_seq (Heap.get?_push_size _ rfl) _) ?_
    show wpAny _ _ (pure ((#[] : Array Value) ++ ys.toArray).toList) R E _
    have e2 : ((#[] : Array Value) ++ ys.toArray).toList = ys:=by simp
    rw [e2]
    exact wpAny_pure k
  · show (#[] ++ ys.toArray).size ≤ sizeLine + 1
    simp only [Array.size_append,List.size_toArray,List.length_nil]
    omega
variable {β : Type} {R : Value → β → Prop} {enc : β → PyData} {bs : List β}
theorem srt_tup {t : Addr} {ys : List Value} {P : Value → Shared → Prop} (ht : s.heap.IsTuple t ys.toArray) (e : EachIs R ys bs) (er : EachIs (fun v b=>∃ as,Reads s.heap v (enc b) as) ys bs) (hal : AllAlike (bs.map enc)) (hk : Sortable (bs.map enc)) (hz : bs.length ≤ sizeLine)
    (hu : ∀ b,b ∈ bs → A.units + 2 + (enc b).depth < cLine) (h : ∀ out,out.length = bs.length → EachIs R out (bs.mergeSort (dataLe false enc)) → P (.ref (s.heap.objs.size + 1)) { s with heap:=sortedAll s.heap ys (List.toArray out) }) :
    wpAny (model prog w) A (call (.builtin "sorted") [.ref t]) P E s:=by
  have er' : EachIs (fun v b=>∃ as,Reads (sortingHeap (copyHeap s.heap ys) (s.heap.objs.size + 1) ys) v (enc b) as) ys bs:=er.mono fun _ _ ⟨as,r⟩=>⟨as,PyProof.Rows.Reads.keeps (fun _ _=>sorting_copy_old) r⟩
  have hy : ys.length ≤ sizeLine:=by rw [e.length]; exact hz
  refine call_function_entry_kw kind_sorted plain_sorted entry_sorted (args_sorted1 _) ?_
  unfold Builtin.«sorted»
  refine wpAny_bind (m:=checkCount "sorted" 1 1 _) ?_
  refine wpAny_pure (wpAny_bind (JLz ht hy ?_))
  refine wpAny_bind (wpAny_newList ?_ hy)
  have sz : ((s.heap.push (seqObj "list" #[] 0)).update s.heap.objs.size (Obj.mapSeq (· ++ ys.toArray))).objs.size = s.heap.objs.size + 1:=by rw [Heap.size_update,size_push']
  show wpAny _ _ _ _ _ { s with heap:=copyHeap s.heap ys }
  rw [sz]
  refine wpAny_bind (wpAny_holding ?_)
  refine wpAny_call_entry_kw slot_list_sort ⟨_,copyHeap_at s.heap ys,rfl⟩ entry_list_sort ?bd (args_list_sort _)
  case bd =>
    show wpAny (model prog w) A.in1.in1 (Builtin.«list.sort» ⟨[.ref (s.heap.objs.size + 1)],[]⟩) _ _ _
    have S:=SortsAt.data (prog:=prog) (w:=w) (A:=A.in1.in1) (s:={ s with heap:=sortingHeap (copyHeap s.heap ys) (s.heap.objs.size + 1) ys }) (each_map (R:=fun v d=>∃ as,Reads (sortingHeap (copyHeap s.heap ys) (s.heap.objs.size + 1) ys) v d as) enc er') hal hk (bound_map hu)
    refine wpAny_mono (list_sort_vals (s:={ s with heap:=copyHeap s.heap ys }) (copyHeap_at s.heap ys) S hy (P:=fun f s'=>f = .done (.ret .none) ∧ P (.ref (s.heap.objs.size + 1)) s') ⟨rfl,h _ (by rw [sortVals_length false rfl]; exact e.length) (sortVals_data false e er' hal)⟩) (fun f s' hf=>?_) fun _ _ e=>e
    obtain ⟨rfl,q⟩:=hf
    exact ⟨_,rfl,wpAny_pure ⟨_,rfl,q⟩⟩
end
end PySem.W
namespace Vs
open PySem PySem.Spec L2 PyProof.Rows
variable [Tbs]
def Pg (K : Fg) : List V → Hp → VK → Prop:=fun xs H Q=>∃ (a : Addr) (vs : List V) (ds : List D) (T : D → V → Prop),xs = [.ref a] ∧ SqT K H a vs ∧ Vc T ds vs ∧ (∀ d v,T d v → Rep K H d v) ∧ (∀ d ∈ ds,PlD 20 d) ∧ PySem.W.AllAlike (ds.map pd) ∧ PySem.W.Sortable (ds.map pd) ∧
  ∀ vs' p,Vc T (X8 ds) vs' → H p = none → Q (.ref p) (upd H p (.lst vs'))
section
variable {X : Cx} {P : Pm} {K : Fg} {pos : Pos}
theorem JJc {T : D → V → Prop} : ∀ {ds : List D} {vs : List V} {its : List Value},Vc T ds vs → Vals vs its → PySem.W.EachIs (fun u d=>∃ v,RelV v u ∧ T d v) its ds
  | [],vs,its,h,r=>by
    simp only [Vc] at h
    subst h
    cases r
    exact .nil
  | d :: ds,vs,its,h,r=>by
    simp only [Vc] at h
    obtain ⟨v,rr,rfl,h1,h2⟩:=h
    cases r with
    | cons ra rb=>exact .cons ⟨v,ra,h1⟩ (JJc h2 rb)
theorem A9 {T : D → V → Prop} : ∀ {ds : List D} {out : List Value},PySem.W.EachIs (fun u d=>∃ v,RelV v u ∧ T d v) out ds → ∃ vs',Vals vs' out ∧ Vc T ds vs'
  | [],out,h=>by cases h; exact ⟨[],.nil,by simp only [Vc]⟩
  | d :: ds,out,h=>by
    cases h with
    | cons h1 h2 =>
      obtain ⟨v,ra,rb⟩:=h1
      obtain ⟨vs',z1,z2⟩:=A9 h2
      exact ⟨v :: vs',.cons ra z1,by simp only [Vc]; exact ⟨v,vs',rfl,rb,z2⟩⟩
theorem JN6 (hu : X.A.units + 64 < cLine) : CallR X (.builtin "sorted") (Pg X.K):=by
  intro pins s σ H xs us Q I r h
  obtain ⟨a,vs,ds,T,rfl,hs,ht,hT,hp,hal,hk,q⟩:=h
  obtain ⟨its,rv,hl,hz⟩:=I.tuple hs
  obtain ⟨u,rfl,ru⟩:=vals1 r
  obtain rfl : u = Value.ref a:=ru
  have e2 : ∀ {ds : List D} {its : List Value},(∀ d ∈ ds,PlD 20 d) → PySem.W.EachIs (fun u d=>∃ v,RelV v u ∧ T d v) its ds → PySem.W.EachIs (fun u d=>∃ as,Reads s.heap u (pd d) as) its ds:=by
    intro ds
    induction ds with
    | nil=>intro its _ h; cases h; exact .nil
    | cons d ds ih =>
      intro its hp h
      cases h with
      | cons h1 h2 =>
        obtain ⟨v,ra,rb⟩:=h1
        exact .cons (Dp.reads I _ v _ (Vn 20 d v (hp d (by simp)) (hT d v rb)) ra) (ih (fun x hx=>hp x (by simp [hx])) h2)
  have hE:=JJc ht rv
  have lds : ds.length = its.length:=hE.length.symm
  have lvs:=rv.length
  refine PySem.W.srt_tup (R:=fun u d=>∃ v,RelV v u ∧ T d v) (enc:=pd) hl hE (e2 hp hE) hal hk (by omega) (fun d hd=>?_) fun out hlen ho=>?_
  · have:=(W9 20 d (hp d hd)).2
    omega
  · obtain ⟨vs',z1,z2⟩:=A9 ho
    obtain ⟨ep,he'⟩:=PyProof.Rows.sortedAll_at s.heap its out.toArray
    have hlo:=z1.length
    exact ⟨.ref _,upd H (s.heap.objs.size + 1) (.lst vs'),I.laid (t':=s.toks) (fun _ _=>PyProof.Rows.sortedAll_old) (Nat.le_succ _) ⟨by omega,out,ep,z1,he'⟩,rfl,q _ _ z2 (I.hok.fresh (Nat.le_succ _))⟩
theorem JLq (hu : X.A.units + 64 < cLine) : CallR X (.builtin "sorted") (fun xs H Q=>Kb X.K xs H Q ∨ Pg X.K xs H Q):=CallR.or (Ax hu) (JN6 hu)
def La : ARs:=fun xs ρ Q=>∃ x d,xs = [x] ∧ dat x ρ = some d ∧ match d with
  | .lst ds=>(∀ d ∈ ds,PlD 20 d) ∧ PySem.W.AllAlike (ds.map pd) ∧ PySem.W.Sortable (ds.map pd) ∧ Q (.lst (X8 ds)) ρ
  | .tup ds=>(∀ d ∈ ds,PlD 20 d) ∧ PySem.W.AllAlike (ds.map pd) ∧ PySem.W.Sortable (ds.map pd) ∧ Q (.lst (X8 ds)) ρ
  | _=>False
theorem JKu : Wm K (fun xs H Q=>Kb K xs H Q ∨ Pg K xs H Q) La:=by
  intro c τ S H σ ρ vs xs Q R hl s q k
  obtain ⟨x,d,rfl,h1,q⟩:=q
  obtain ⟨v,rfl,s1⟩:=one_arg hl s
  obtain ⟨y0,g0,r0,e0⟩:=s1.thing (List.mem_cons_self ..) h1
  cases d with
  | lst ds =>
    obtain ⟨p,vs,rfl,h3,h4⟩:=Vy r0 e0 s1.le
    obtain ⟨q1,q2,q3,q4⟩:=q
    refine .inl ⟨p,vs,ds,Rep K S,rfl,h3,eachT_rep.mpr h4,fun d v r=>Rep.le s1.le d v r,q1,q2,q3,fun vs' p' hv hp=>?_⟩
    exact k _ _ ⟨S,ρ,_,s1.drop.newList hp (eachT_rep.mp hv),q4⟩
  | tup ds =>
    obtain ⟨p,vs,rfl,_,h3,h4⟩:=X9 r0 e0 s1.le
    obtain ⟨q1,q2,q3,q4⟩:=q
    refine .inr ⟨p,vs,ds,Rep K S,rfl,h3,eachT_rep.mpr h4,fun d v r=>Rep.le s1.le d v r,q1,q2,q3,fun vs' p' hv hp=>?_⟩
    exact k _ _ ⟨S,ρ,_,s1.drop.newList hp (eachT_rep.mp hv),q4⟩
  | _=>cases q
theorem JXv : Cs La:=fun {ι} _ x ρ Q Q' h k=>by
  obtain ⟨i,_⟩:=i0 (ι:=ι)
  obtain ⟨a,d,rfl,h1,h2⟩:=h i
  refine ⟨a,d,rfl,h1,?_⟩
  cases d with
  | lst ds =>
    refine ⟨h2.1,h2.2.1,h2.2.2.1,k _ _ fun i=>?_⟩
    obtain ⟨b,e,g0,g1,q⟩:=h i
    cases g0
    rw [h1] at g1
    cases g1
    exact q.2.2.2
  | tup ds =>
    refine ⟨h2.1,h2.2.1,h2.2.2.1,k _ _ fun i=>?_⟩
    obtain ⟨b,e,g0,g1,q⟩:=h i
    cases g0
    rw [h1] at g1
    cases g1
    exact q.2.2.2
  | _=>exact h2.elim
end
section
variable {ρ : J0} {Q : AK} {x : A} {ds : List D}
theorem JZ6 (h1 : dat x ρ = some (.tup ds)) (h2 : ∀ d ∈ ds,PlD 20 d) (h3 : PySem.W.AllAlike (ds.map pd)) (h4 : PySem.W.Sortable (ds.map pd)) (k : Q (.lst (X8 ds)) ρ) : La [x] ρ Q:=⟨x,_,rfl,h1,h2,h3,h4,k⟩
end
end Vs
namespace Vs
open PySem PySem.Spec L2 PyProof.Rows
variable [Tbs]
def plainT : List String:=["NoneType","str","int","bool","tuple"]
section
variable {Pr : Program} {w : World} {K : Fg} {mg : Str → Option Value} {base : Heap} {k j : Nat} {tab : Tab}
structure EqTs (Pr : Program) (w : World) (K : Fg) (mg : Str → Option Value) (base : Heap) (k : Nat) (tab : Tab) : Prop where
  all : ∀ C sp,tab.lookup C = some sp → (PySem.W.findIn K (.ref C) "__ne__" = some (some (.builtin "object.__ne__")) ∧ PySem.W.mroIn K C (.type "object") = some true) ∧ (∀ T ∈ plainT,PySem.W.notFirst K C (.type T) = true) ∧ ∃ f fd ps,PySem.W.findIn K (.ref C) "__eq__" = some (some (.ref f)) ∧ PySem.W.isFn K (.ref f) = true ∧ Binds K fd ps [] ∧ Fok Pr w K mg base k f fd ps sp
theorem EqTs.nil : EqTs Pr w K mg base k []:=⟨fun C sp h=>by simp at h⟩
theorem EqTs.cons {C f : Addr} {fd : FuncData} {ps : List Str} {sp : ASp} (h1 : PySem.W.findIn K (.ref C) "__ne__" = some (some (.builtin "object.__ne__")) ∧ PySem.W.mroIn K C (.type "object") = some true) (h2 : (plainT.all fun T=>PySem.W.notFirst K C (.type T)) = true) (h6 : PySem.W.findIn K (.ref C) "__eq__" = some (some (.ref f))) (h7 : PySem.W.isFn K (.ref f) = true) (hb : Binds K fd ps []) (F : Fok Pr w K mg base j f fd ps sp) (hj : j ≤ k) (T : EqTs Pr w K mg base k tab) : EqTs Pr w K mg base k ((C,sp) :: tab):=⟨fun C' sp' e=>by
  rcases Fn e with ⟨rfl,rfl⟩ | e
  · exact ⟨h1,fun T hT=>List.all_eq_true.mp h2 T hT,f,fd,ps,h6,h7,hb,F.mono hj⟩
  · exact T.all C' sp' e⟩
end
end Vs
namespace Vs
open PySem PySem.Spec L2 PyProof.Rows
variable [Tbs]
section
variable {X : Cx} {P : Pm} {pos : Pos}
def JFa (C : Addr) : AS:=fun DA ρ=>DA.ex C [] ρ
end
section
variable {DA : AEnds} {ρ : J0} {C : Addr}
theorem JYv (k : DA.ex C [] ρ) : JFa C DA ρ:=k
end
end Vs
set_option maxHeartbeats 4000000
namespace Vs
open PySem PySem.Spec PyProof.Rows L2
end Vs
namespace Vs
open PySem PySem.Spec PyProof.Rows L2
variable [Tbs]
/-- xs += e,a list of one's own and a new list -/
def JXs (i : Nat) (ae : AE) : AS:=fun DA ρ=>(∃ xs,ρ[i]? = some (some (.lst xs))) ∧ ae DA.ex ρ fun y ρ1=>∃ xs ds,y = .lst ds ∧ ρ1[i]? = some (some (.lst xs)) ∧ xs.length + ds.length ≤ 100000 ∧ DA.nx (ρ1.set i (some (.lst (xs ++ ds))))
section
variable {EA : AX} {ρ ρ' : J0} {Q : AK} {ae : AE} {y : A} {j : Nat} {DA : AEnds}
def JWg (j : Nat) (y : A) (ρ : J0) (nx : J0 → Prop) : Prop:=∃ xs ds,y = .lst ds ∧ ρ[j]? = some (some (.lst xs)) ∧ xs.length + ds.length ≤ 100000 ∧ nx (ρ.set j (some (.lst (xs ++ ds))))
theorem Sv {xs : List D} (h : ρ[j]? = some (some (.lst xs))) (k : ae DA.ex ρ fun y ρ1=>JWg j y ρ1 DA.nx) : JXs j ae DA ρ:=⟨⟨xs,h⟩,k⟩
theorem Et {xs ds : List D} {nx : J0 → Prop} (h1 : ρ[j]? = some (some (.lst xs))) (h2 : xs.length + ds.length ≤ 100000) (k : nx (ρ.set j (some (.lst (xs ++ ds))))) : JWg j (.lst ds) ρ nx:=⟨xs,ds,rfl,h1,h2,k⟩
end
end Vs
set_option maxHeartbeats 1000000
namespace Vs
open PySem PySem.Spec PyProof.Rows L2
variable [Tbs]
def K4 (f : Str) (y : A) : List (Str × A) → List (Str × A)
  | []=>[(f,y)]
  | (g,x) :: r=>if g = f then (g,y) :: r else (g,x) :: K4 f y r
section
variable {K : Fg} {S H : Hp}
theorem RepAF.len : ∀ {xs : List (Str × A)} {vs : List (Str × V)} {g : List Addr},RepAF K S H xs vs g → vs.length = xs.length
  | [],vs,g,h=>by
    simp only [RepAF] at h
    rw [h.1]; rfl
  | (k,x) :: xs,vs,g,h=>by
    simp only [RepAF] at h
    obtain ⟨v,r,g1,g2,rfl,_,h2,_⟩:=h
    simp [h2.len]
end
section
variable {X : Cx} {P : Pm} {K : Fg} {pos : Pos}
/-- o.f = e,e kept as it is -/
def JK0 (C : Addr) (f : Str) (av ao : AE) : AS:=fun DA ρ=>av DA.ex ρ fun x ρ1=>W5 x ρ1 fun y ρ2=>ao DA.ex ρ2 fun o ρ3=>∃ i p fs t,Y8 o ρ3 = some (i,p,.obj C fs) ∧ fs.length ≤ 100 ∧ ρ3[i]? = some (some t) ∧ DA.nx (ρ3.set i (some (t.upd p (Ud o (.obj C (K4 f y fs))))))
def Mw (C : Addr) (f : Str) : AR1:=fun x ρ Q=>∃ i p fs z,Y8 x ρ = some (i,p,.obj C fs) ∧ Zo fs f = some z ∧ outI x i p (.obj C fs) (.f f) z ρ Q
end
end Vs
namespace Vs
open PySem PySem.Spec PyProof.Rows L2
variable [Tbs]
def shD : A → D
  | .v d=>d
  | _=>.any
def shK (kvs : List (Key × A)) : List (Key × D):=kvs.map fun p=>(p.1,shD p.2)
section
variable {K : Fg} {S H : Hp}
def Xi (kvs : List (Key × A)) (k : Key) : List (Key × A):=kvs.filter fun q=>decide (q.1 ≠ k)
theorem RepAK.del {k : Key} : ∀ {kvs : List (Key × A)} {ws : List (Key × V)} {g : List Addr},RepAK K S H kvs ws g → ∃ fp',RepAK K S H (Xi kvs k) (dropK ws k) fp' ∧ fp'.Sublist g
  | [],ws,g,h=>by
    simp only [RepAK] at h
    obtain ⟨rfl,rfl⟩:=h
    refine ⟨[],?_,List.Sublist.refl _⟩
    show RepAK K S H [] [] []
    simp only [RepAK]
    exact ⟨trivial,trivial⟩
  | (k',x) :: r,ws,g,h=>by
    simp only [RepAK] at h
    obtain ⟨v,r',g1,g2,rfl,h1,h2,rfl⟩:=h
    obtain ⟨fp',b1,b2⟩:=RepAK.del (k:=k) h2
    unfold Xi dropK at b1 ⊢
    rw [List.filter_cons,List.filter_cons]
    by_cases e : k' = k
    · rw [if_neg (by simpa using e),if_neg (by simpa using e)]
      exact ⟨fp',b1,b2.trans (List.sublist_append_right ..)⟩
    · rw [if_pos (by simpa using e),if_pos (by simpa using e)]
      refine ⟨g1 ++ fp',?_,List.Sublist.append (List.Sublist.refl _) b2⟩
      simp only [RepAK]
      exact ⟨v,_,g1,fp',rfl,h1,b1,rfl⟩
theorem RepAK.look {k : Key} : ∀ {kvs : List (Key × A)} {ws : List (Key × V)} {g : List Addr},RepAK K S H kvs ws g → (valV ws k).isSome = (Uo kvs k).isSome
  | [],ws,g,h=>by
    simp only [RepAK] at h
    obtain ⟨rfl,rfl⟩:=h
    rfl
  | (k',x) :: r,ws,g,h=>by
    simp only [RepAK] at h
    obtain ⟨v,r',g1,g2,rfl,h1,h2,rfl⟩:=h
    have ih:=h2.look (k:=k)
    simp only [Uo]
    by_cases e : k' = k
    · rw [if_pos e,valV_pos e]; rfl
    · rw [if_neg e,valV_neg e,ih]
end
section
variable {X : Cx} {P : Pm} {K : Fg} {pos : Pos}
def JKi (ao ai : AE) : AS:=fun DA ρ=>ao DA.ex ρ fun o ρ1=>ai DA.ex ρ1 fun iv ρ2=>∃ i p kvs d k t,Y8 o ρ2 = some (i,p,.nd kvs) ∧ dat iv ρ2 = some d ∧ keyD d = some k ∧ (Uo kvs k).isSome = true ∧ ρ2[i]? = some (some t) ∧ DA.nx (ρ2.set i (some (t.upd p (Ud o (.nd (Xi kvs k))))))
def Kf : AE:=fun _ ρ Q=>Q (.nd []) ρ
theorem JG6 : QE X P (.Dict [] [] pos) Kf:=⟨_,pe_dnewK,fun c EA ho hw τ S H σ ρ Q R s q k p hp=>k _ _ ⟨S,ρ,.nd [],s.alloc hp rfl (by
  simp only [RepA]
  exact ⟨p,[],[],rfl,upd_same,by simp only [RepAK]; exact ⟨trivial,trivial⟩,rfl⟩),q⟩⟩
theorem JF1 : CE Kf:=fun {ι} _ EA EA' ρ Q Q' h hx hq=>hq _ _ h
end
end Vs
namespace Vs
open PySem PySem.Spec PyProof.Rows L2
variable [Tbs]
section
variable {EA : AX} {ρ : J0} {Q : AK} {DA : AEnds} {K : Fg} {i j : Nat} {p : List Stp} {x y t z n : A} {w w' : V} {C : Addr} {f : Str} {fs : List (Str × A)} {kvs : List (Key × A)} {d : D} {k0 : Key} {st : Stp}
theorem Em (h1 : ρ[j]? = some (some (.obj C fs))) (h2 : Zo fs f = some (.v d)) (k : Q (.v d) ρ) : Mw C f (.loc j) ρ Q:=⟨j,[],fs,_,Z9 h1,h2,k⟩
theorem Sr (h1 : ρ[j]? = some (some (.obj C fs))) (h2 : Zo fs f = some (.cel w z)) (k : Q (.pth j [.f f] w) ρ) : Mw C f (.loc j) ρ Q:=⟨j,[],fs,_,Z9 h1,h2,k⟩
theorem JH4 (hz : Zx z = true) (k : ∃ t,ρ[i]? = some (some t) ∧ ∀ w,Q (.pth i (p ++ [st]) w) (ρ.set i (some (t.upd p (Ud x (V2 n st (.cel w z))))))) : outI x i p n st z ρ Q:=by
  cases z with
  | v _=>cases hz
  | loc _=>cases hz
  | cel _ _=>cases hz
  | pth _ _ _=>cases hz
  | lst _=>exact k
  | dic _=>exact k
  | obj _ _=>exact k
  | nl _=>exact k
  | nd _=>exact k
  | nt _=>exact k
theorem JYa (h1 : ρ[j]? = some (some (.obj C fs))) (h2 : Zo fs f = some z) (h3 : Zx z = true) (k : ∀ w,Q (.pth j [.f f] w) (ρ.set j (some (.obj C (Fw fs f (.cel w z)))))) : Mw C f (.loc j) ρ Q :=
  ⟨j,[],fs,z,Z9 h1,h2,JH4 h3 ⟨_,h1,k⟩⟩
def JUl (C : Addr) (f : Str) (o y : A) (ρ : J0) (nx : J0 → Prop) : Prop:=∃ i p fs t,Y8 o ρ = some (i,p,.obj C fs) ∧ fs.length ≤ 100 ∧ ρ[i]? = some (some t) ∧ nx (ρ.set i (some (t.upd p (Ud o (.obj C (K4 f y fs))))))
theorem T6 {av ao : AE} (k : av DA.ex ρ fun x ρ1=>W5 x ρ1 fun y ρ2=>ao DA.ex ρ2 fun o ρ3=>JUl C f o y ρ3 DA.nx) : JK0 C f av ao DA ρ:=k
theorem Qs {nx : J0 → Prop} (h1 : ρ[j]? = some (some (.obj C fs))) (h2 : fs.length ≤ 100) (k : nx (ρ.set j (some (.obj C (K4 f y fs))))) : JUl C f (.loc j) y ρ nx:=⟨j,[],fs,_,Z9 h1,h2,h1,k⟩
theorem JY2 {k : A → J0 → Prop} (q : k (.obj C fs) ρ) : W5 (.obj C fs) ρ k:=q
theorem Re {k : A → J0 → Prop} (q : k (.nd kvs) ρ) : W5 (.nd kvs) ρ k:=q
theorem JVn (k : Q (.nd []) ρ) : Kf EA ρ Q:=k
def JM0 (o iv : A) (ρ : J0) (nx : J0 → Prop) : Prop:=∃ i p kvs d k t,Y8 o ρ = some (i,p,.nd kvs) ∧ dat iv ρ = some d ∧ keyD d = some k ∧ (Uo kvs k).isSome = true ∧ ρ[i]? = some (some t) ∧ nx (ρ.set i (some (t.upd p (Ud o (.nd (Xi kvs k))))))
theorem A5 {ao ai : AE} (k : ao DA.ex ρ fun o ρ1=>ai DA.ex ρ1 fun iv ρ2=>JM0 o iv ρ2 DA.nx) : JKi ao ai DA ρ:=k
end
end Vs
namespace L2
open PySem PySem.W PySem.Calls PyProof.Rows
end L2
namespace Vs
open PySem PySem.Spec PyProof.Rows L2
end Vs
namespace Vs
open PySem PySem.Spec PyProof.Rows L2
end Vs
namespace Vs
open PySem PySem.Spec PyProof.Rows L2
variable [Tbs]
def JWf (o : A) (ρ : J0) (Q : AK) : Prop:=∃ i p xs z t,Y8 o ρ = some (i,p,.lst xs) ∧ xs[xs.length - 1]? = some z ∧ ρ[i]? = some (some t) ∧ Q (.v z) (ρ.set i (some (t.upd p (Ud o (.lst xs.dropLast)))))
def JXo (ao : AE) : AE:=fun EA ρ Q=>ao EA ρ fun o ρ1=>JWf o ρ1 Q
section
variable {EA : AX} {ρ : J0} {Q : AK}
theorem A1 {ao : AE} (k : ao EA ρ fun o ρ1=>JWf o ρ1 Q) : JXo ao EA ρ Q:=k
end
end Vs
namespace Vs
open PySem PySem.Spec PyProof.Rows L2
variable [Tbs]
section
variable {K : Fg} {c : Ctx} {S H : Hp} {σ : L2.St} {ρ : J0} {τ : List (V × A)} {v : V} {x n : A} {i : Nat} {p : List Stp}
/-- an item is taken out of a dict -/
theorem RepAK.pick {k : Key} {z : A} : ∀ {kvs : List (Key × A)} {ws : List (Key × V)} {g : List Addr},RepAK K S H kvs ws g → Uo kvs k = some z → ∃ vz gz fp' r,valV ws k = some vz ∧ RepA K S H z vz gz ∧ RepAK K S H (Xi kvs k) (dropK ws k) fp' ∧ g.Perm (gz ++ r) ∧ fp'.Sublist r
  | [],ws,g,h,e=>by simp [Uo] at e
  | (k',y) :: r0,ws,g,h,e=>by
    simp only [RepAK] at h
    obtain ⟨v,r',g1,g2,rfl,h1,h2,rfl⟩:=h
    simp only [Uo] at e
    by_cases hk : k' = k
    · rw [if_pos hk] at e
      cases e
      obtain ⟨fp',b1,b2⟩:=RepAK.del (k:=k) h2
      refine ⟨v,g1,fp',g2,valV_pos hk,h1,?_,List.Perm.refl _,b2⟩
      unfold Xi dropK at b1 ⊢
      rw [List.filter_cons,List.filter_cons,if_neg (by simpa using hk),if_neg (by simpa using hk)]
      exact b1
    · rw [if_neg hk] at e
      obtain ⟨vz,gz,fp',r1,c1,c2,c3,c4,c5⟩:=RepAK.pick h2 e
      refine ⟨vz,gz,g1 ++ fp',g1 ++ r1,by rw [valV_neg hk]; exact c1,c2,?_,?_,List.Sublist.append (List.Sublist.refl _) c5⟩
      · unfold Xi dropK at c3 ⊢
        rw [List.filter_cons,List.filter_cons,if_pos (by simpa using hk),if_pos (by simpa using hk)]
        simp only [RepAK]
        exact ⟨v,_,g1,fp',rfl,h1,c3,rfl⟩
      · refine (List.Perm.append_left g1 c4).trans ?_
        rw [← List.append_assoc,← List.append_assoc]
        exact List.Perm.append_right r1 List.perm_append_comm
end
def JUx (o iv : A) (ρ : J0) (Q : AK) : Prop:=∃ i p kvs d k z t,Y8 o ρ = some (i,p,.nd kvs) ∧ dat iv ρ = some d ∧ keyD d = some k ∧ Uo kvs k = some z ∧ Y4 z = false ∧ ρ[i]? = some (some t) ∧ Q z (ρ.set i (some (t.upd p (Ud o (.nd (Xi kvs k))))))
def N8 (o : A) (ρ : J0) : Prop:=∃ i p kvs,Y8 o ρ = some (i,p,.nd kvs)
def JH9 (ao ai : AE) : AE:=fun EA ρ Q=>ao EA ρ fun o ρ1=>N8 o ρ1 ∧ ai EA ρ1 fun iv ρ2=>JUx o iv ρ2 Q
section
variable {EA : AX} {ρ : J0} {Q : AK}
theorem Qt {ao ai : AE} (k : ao EA ρ fun o ρ1=>N8 o ρ1 ∧ ai EA ρ1 fun iv ρ2=>JUx o iv ρ2 Q) : JH9 ao ai EA ρ Q:=k
theorem JWz {j : Nat} {kvs : List (Key × A)} {R : Prop} (h1 : ρ[j]? = some (some (.nd kvs))) (k : R) : N8 (.loc j) ρ ∧ R:=⟨⟨j,[],kvs,Z9 h1⟩,k⟩
end
end Vs
namespace Vs
open PySem PySem.Spec PyProof.Rows L2
variable [Tbs]
section
variable {K : Fg} {X : Cx}
def mx3 (i j k : Int) : Int:=if j > i then (if k > j then k else j) else (if k > i then k else i)
def mn3 (i j k : Int) : Int:=if j < i then (if k < j then k else j) else (if k < i then k else i)
def JLi : ARs:=fun xs ρ Q=>∃ x y z i j k,xs = [x,y,z] ∧ dat x ρ = some (.int i) ∧ dat y ρ = some (.int j) ∧ dat z ρ = some (.int k) ∧ Q (.v (.int (mx3 i j k))) ρ
def JB5 : ARs:=fun xs ρ Q=>∃ x y z i j k,xs = [x,y,z] ∧ dat x ρ = some (.int i) ∧ dat y ρ = some (.int j) ∧ dat z ρ = some (.int k) ∧ Q (.v (.int (mn3 i j k))) ρ
end
section
variable {ρ : J0} {Q : AK} {x y z : A} {i j k : Int}
theorem JJa (h1 : dat x ρ = some (.int i)) (h2 : dat y ρ = some (.int j)) (h3 : dat z ρ = some (.int k)) (q : Q (.v (.int (mx3 i j k))) ρ) : JLi [x,y,z] ρ Q:=⟨x,y,z,i,j,k,rfl,h1,h2,h3,q⟩
theorem As (h1 : dat x ρ = some (.int i)) (h2 : dat y ρ = some (.int j)) (h3 : dat z ρ = some (.int k)) (q : Q (.v (.int (mn3 i j k))) ρ) : JB5 [x,y,z] ρ Q:=⟨x,y,z,i,j,k,rfl,h1,h2,h3,q⟩
end
end Vs
namespace Vs
open PySem PySem.Spec PyProof.Rows L2
variable [Tbs]
def JUh (p : Key × D) : D:=keyOf p.1
section
variable {X : Cx} {P : Pm} {K : Fg} {pos : Pos}
def JFx (i : Nat) (ag : AG) (ab : AS) : AS:=fun DA ρ=>∃ kvs,ρ[i]? = some (some (.v (.dic kvs))) ∧ forA (fun _=>True) ag ab { DA with ex:=noX } (kvs.map JUh) ρ
end
section
variable {b : AS} {ag : AG}
theorem JW7 {DA : AEnds} {ρ : J0} {i : Nat} {abd : AS} {kvs : List (Key × D)} (h : ρ[i]? = some (some (.v (.dic kvs)))) (k : forA (fun _=>True) ag abd { DA with ex:=noX } (kvs.map JUh) ρ) : JFx i ag abd DA ρ:=⟨kvs,h,k⟩
end
end Vs
namespace Vs
open PySem PySem.Spec PyProof.Rows L2
end Vs
namespace PySem
open PySem.W PySem.SeqAt
open AutoSeq1 (wpAny_loadPart')
end PySem
namespace Vs
open PySem PySem.Spec PyProof.Rows L2
end Vs
namespace Vs
open PySem PySem.Spec L2 PyProof.Rows
end Vs
set_option maxHeartbeats 2000000
namespace Vs
open PySem PySem.Spec PyProof.Rows L2 PpSet
end Vs
namespace Vs
open PySem PySem.Spec PyProof.Rows L2 PpSet
end Vs
namespace Vs
open PySem PySem.Spec PyProof.Rows L2 PpSet
end Vs
namespace Vs
open PySem PySem.Spec PyProof.Rows L2 PpSet
end Vs
namespace Vs
open PySem PySem.Spec PyProof.Rows L2 PpSet
end Vs
namespace Vs
open PySem PySem.Spec PyProof.Rows L2 PpSet
end Vs
namespace Vs
open PySem PySem.Spec PyProof.Rows L2
end Vs
set_option maxHeartbeats 1000000
namespace Vs
open PySem PySem.Spec PyProof.Rows L2 PpSet
end Vs
namespace Vs
open PySem PySem.Spec PyProof.Rows L2
end Vs
namespace Vs
open PySem PySem.Spec PyProof.Rows L2
variable [Tbs]
/-- x -= e,numbers -/
def Mh (i : Nat) (x : Int) (y : A) (ρ1 : J0) (nx : J0 → Prop) : Prop:=∃ j,dat y ρ1 = some (.int j) ∧ nx (ρ1.set i (some (.v (.int (x - j)))))
def JBb (i : Nat) (ae : AE) : AS:=fun DA ρ=>∃ x,ρ[i]? = some (some (.v (.int x))) ∧ ae DA.ex ρ fun y ρ1=>Mh i x y ρ1 DA.nx
section
variable {EA : AX} {ρ : J0} {Q : AK} {ae : AE} {aa : AA} {al : AA} {j : Nat} {DA : AEnds} {y : A}
theorem JYj {x : Int} (h : ρ[j]? = some (some (.v (.int x)))) (k : ae DA.ex ρ fun y ρ1=>Mh j x y ρ1 DA.nx) : JBb j ae DA ρ:=⟨x,h,k⟩
theorem JYs {x k : Int} {nx : J0 → Prop} (h : dat y ρ = some (.int k)) (q : nx (ρ.set j (some (.v (.int (x - k)))))) : Mh j x y ρ nx:=⟨k,h,q⟩
end
end Vs
namespace Vs
open PySem PySem.Spec L2 PyProof.Rows
end Vs
namespace Vs
open PySem PySem.Spec PyProof.Rows L2
variable [Tbs]
/-- o.remove(k) -/
def JUj (o x : A) (ρ : J0) (Q : AK) : Prop:=∃ (i : Nat) (zs : List Int) (k : Int),o = .loc i ∧ ρ[i]? = some (some (.lst (zs.map D.int))) ∧ dat x ρ = some (.int k) ∧ k ∈ zs ∧ Q (.v .non) (ρ.set i (some (.lst ((zs.eraseIdx (zs.idxOf k)).map D.int))))
def JN3 (ao ae : AE) : AE:=fun EA ρ Q=>ao EA ρ fun o ρ1=>(∃ xs,dat o ρ1 = some (.lst xs)) ∧ ae EA ρ1 fun x ρ2=>JUj o x ρ2 Q
/-- o.clear(),o a list that a name holds,or one at a path -/
def M8 (o : A) (ρ : J0) (Q : AK) : Prop:=∃ i p xs t,Y8 o ρ = some (i,p,.lst xs) ∧ ρ[i]? = some (some t) ∧ Q (.v .non) (ρ.set i (some (t.upd p (Ud o (.lst [])))))
def JH5 (ao : AE) : AE:=fun EA ρ Q=>ao EA ρ fun o ρ1=>M8 o ρ1 Q
section
variable {EA : AX} {ρ : J0} {Q : AK} {i : Nat} {x : A}
theorem Tj {ao ae : AE} (k : ao EA ρ fun o ρ1=>isL o ρ1 (ae EA ρ1 fun x ρ2=>JUj o x ρ2 Q)) : JN3 ao ae EA ρ Q:=k
theorem A7 {ao : AE} (k : ao EA ρ fun o ρ1=>M8 o ρ1 Q) : JH5 ao EA ρ Q:=k
theorem T8 {xs : List D} (h : ρ[i]? = some (some (.lst xs))) (k : Q (.v .non) (ρ.set i (some (.lst [])))) : M8 (.loc i) ρ Q:=⟨i,[],xs,_,Z9 h,h,k⟩
end
def JF8 (ao ae : AE) : AE:=fun EA ρ Q=>ao EA ρ fun o ρ1=>(∃ xs,dat o ρ1 = some (.lst xs)) ∧ ae EA ρ1 fun x ρ2=>∃ j i xs ds,o = .loc j ∧ x = .loc i ∧ ρ2[i]? = some (some (.lst ds)) ∧ ρ2[j]? = some (some (.lst xs)) ∧ xs.length + ds.length ≤ 100000 ∧ Q (.v .non) (ρ2.set j (some (.lst (xs ++ ds))))
section
variable {EA : AX} {ρ : J0} {Q : AK}
theorem JVh {ao ae : AE} (k : ao EA ρ fun o ρ1=>isL o ρ1 (ae EA ρ1 fun x ρ2=>∃ j i xs ds,o = .loc j ∧ x = .loc i ∧ ρ2[i]? = some (some (.lst ds)) ∧ ρ2[j]? = some (some (.lst xs)) ∧ xs.length + ds.length ≤ 100000 ∧ Q (.v .non) (ρ2.set j (some (.lst (xs ++ ds)))))) : JF8 ao ae EA ρ Q:=k
end
end Vs
namespace Vs
open PySem PySem.Spec PyProof.Rows L2
end Vs
namespace Vs
open PySem PySem.Spec PyProof.Rows L2
end Vs
namespace Vs
open PySem PySem.Spec PyProof.Rows L2
variable [Tbs]
def Gn : HO → Bool
  | .ext _=>true
  | _=>false
section
variable {K : Fg} {S H : Hp}
mutual
/-- the own cells are no kept facts -/
theorem RepA.nex : ∀ (x : A) (v : V) (fp : List Addr),RepA K S H x v fp → ∀ a ∈ fp,∃ o,H a = some o ∧ Gn o = false
  | .v d,v,fp,h,a,ha=>by
    simp only [RepA] at h
    simp [h.2] at ha
  | .lst xs,v,fp,h,b,hb=>by
    simp only [RepA] at h
    obtain ⟨a,vs,e,h1,h2,h3⟩:=h
    have : b = a:=by simpa [h3] using hb
    exact ⟨_,by rw [this]; exact h1,rfl⟩
  | .dic xs,v,fp,h,b,hb=>by
    simp only [RepA] at h
    obtain ⟨a,vs,e,h1,h2,h3⟩:=h
    have : b = a:=by simpa [h3] using hb
    exact ⟨_,by rw [this]; exact h1,rfl⟩
  | .obj C fs,v,fp,h,b,hb=>by
    simp only [RepA] at h
    obtain ⟨a,dx,vs,g,e,h1,h2,h3⟩:=h
    rw [h3] at hb
    rcases List.mem_cons.mp hb with q | q
    · exact ⟨_,by rw [q]; exact h1,rfl⟩
    · exact RepAF.nex fs vs g h2 b q
  | .loc i,v,fp,h,_,_=>by
    simp only [RepA] at h
  | .nl xs,v,fp,h,b,hb=>by
    simp only [RepA] at h
    obtain ⟨a,vs,g,e,h1,h2,h3⟩:=h
    rw [h3] at hb
    rcases List.mem_cons.mp hb with q | q
    · exact ⟨_,by rw [q]; exact h1,rfl⟩
    · exact RepAL.nex xs vs g h2 b q
  | .nt xs,v,fp,h,b,hb=>by
    simp only [RepA] at h
    obtain ⟨a,vs,g,e,h1,h2,h3⟩:=h
    rw [h3] at hb
    rcases List.mem_cons.mp hb with q | q
    · exact ⟨_,by rw [q]; exact h1,rfl⟩
    · exact RepAL.nex xs vs g h2 b q
  | .nd xs,v,fp,h,b,hb=>by
    simp only [RepA] at h
    obtain ⟨a,vs,g,e,h1,h2,h3⟩:=h
    rw [h3] at hb
    rcases List.mem_cons.mp hb with q | q
    · exact ⟨_,by rw [q]; exact h1,rfl⟩
    · exact RepAK.nex xs vs g h2 b q
  | .cel w x,v,fp,h,a,ha=>by
    simp only [RepA] at h
    exact RepA.nex x v fp h.2.2 a ha
  | .pth _ _ w,v,fp,h,a,ha=>by
    simp only [RepA] at h
    simp [h.2.2] at ha
theorem RepAF.nex : ∀ (xs : List (Str × A)) (vs : List (Str × V)) (fp : List Addr),RepAF K S H xs vs fp → ∀ a ∈ fp,∃ o,H a = some o ∧ Gn o = false
  | [],vs,fp,h,a,ha=>by
    simp only [RepAF] at h
    simp [h.2] at ha
  | (k,x) :: xs,vs,fp,h,a,ha=>by
    simp only [RepAF] at h
    obtain ⟨v,r,g,g',e,h1,h2,h3⟩:=h
    rw [h3] at ha
    rcases List.mem_append.mp ha with q | q
    · exact RepA.nex x v g h1 a q
    · exact RepAF.nex xs r g' h2 a q
theorem RepAL.nex : ∀ (xs : List A) (vs : List V) (fp : List Addr),RepAL K S H xs vs fp → ∀ a ∈ fp,∃ o,H a = some o ∧ Gn o = false
  | [],vs,fp,h,a,ha=>by
    simp only [RepAL] at h
    simp [h.2] at ha
  | x :: xs,vs,fp,h,a,ha=>by
    simp only [RepAL] at h
    obtain ⟨v,r,g,g',e,h1,h2,h3⟩:=h
    rw [h3] at ha
    rcases List.mem_append.mp ha with q | q
    · exact RepA.nex x v g h1 a q
    · exact RepAL.nex xs r g' h2 a q
theorem RepAK.nex : ∀ (xs : List (Key × A)) (vs : List (Key × V)) (fp : List Addr),RepAK K S H xs vs fp → ∀ a ∈ fp,∃ o,H a = some o ∧ Gn o = false
  | [],vs,fp,h,a,ha=>by
    simp only [RepAK] at h
    simp [h.2] at ha
  | (k,x) :: xs,vs,fp,h,a,ha=>by
    simp only [RepAK] at h
    obtain ⟨v,r,g,g',e,h1,h2,h3⟩:=h
    rw [h3] at ha
    rcases List.mem_append.mp ha with q | q
    · exact RepA.nex x v g h1 a q
    · exact RepAK.nex xs r g' h2 a q
end
theorem RepP.nex : ∀ {ps : List (V × A)} {fp : List Addr},RepP K S H ps fp → ∀ a ∈ fp,∃ o,H a = some o ∧ Gn o = false:=by
  intro ps
  induction ps with
  | nil=>intro fp h a ha; cases h; simp at ha
  | cons x ps ih =>
    obtain ⟨v,x⟩:=x
    intro fp h a ha
    obtain ⟨g,h',h1,h2,h3⟩:=h
    subst h3
    rcases List.mem_append.mp ha with q | q
    · exact h1.nex x v g a q
    · exact ih h2 a q
end
def Zk : D → Bool
  | .non=>true
  | .bl _=>true
  | .int _=>true
  | .str _=>true
  | .ty _=>true
  | _=>false
def Gy : A → Bool
  | .v d=>Zk d
  | .lst xs=>xs.all Zk
  | _=>false
section
variable {K : Fg} {c : Ctx} {S S' H H' : Hp} {σ : L2.St} {ρ ρ' : J0} {τ : List (V × A)} {v : V}
theorem Rep.sca {d : D} (hd : Zk d = true) (h : Rep K S d v) : Rep K S' d v:=by
  cases d <;> first | (simp only [Rep] at h ⊢; exact h) | cases hd
theorem RepL.sca : ∀ {xs : List D} {vs : List V},xs.all Zk = true → RepL K S xs vs → RepL K S' xs vs
  | [],vs,_,h=>by simpa only [RepL] using h
  | x :: xs,vs,e,h=>by
    rw [List.all_cons,Bool.and_eq_true] at e
    simp only [RepL] at h ⊢
    obtain ⟨u,r,rfl,h1,h2⟩:=h
    exact ⟨u,r,rfl,h1.sca e.1,h2.sca e.2⟩
theorem RepA.ind {r : A} {g : List Addr} (hr : Gy r = true) (h : RepA K S H r v g) : RepA K S' H r v g:=by
  cases r with
  | v d =>
    simp only [RepA] at h ⊢
    exact ⟨h.1.sca hr,h.2⟩
  | lst xs =>
    simp only [RepA] at h ⊢
    obtain ⟨a,vs,e,h1,h2,h3⟩:=h
    exact ⟨a,vs,e,h1,h2.sca hr,h3⟩
  | _=>cases hr
theorem RepF.sca : ∀ {fs : List (Str × D)} {ws : List (Str × V)},(fs.all fun p=>Zk p.2) = true → RepF K S fs ws → RepF K S' fs ws
  | [],ws,_,h=>by simpa only [RepF] using h
  | (k,x) :: fs,ws,e,h=>by
    rw [List.all_cons,Bool.and_eq_true] at e
    simp only [RepF] at h ⊢
    obtain ⟨u,r,rfl,h1,h2⟩:=h
    exact ⟨u,r,rfl,h1.sca e.1,h2.sca e.2⟩
/-- what an argument is as data -/
noncomputable def Wx (x : A) (ρ : J0) : Option D:=match x with
  | .v d=>some d
  | .loc _=>(Y8 x ρ).bind fun q=>Yy q.2.2
  | .pth _ _ _=>(Y8 x ρ).bind fun q=>Yy q.2.2
  | x=>Yy x
noncomputable def Z3 : List A → J0 → Option (List D)
  | [],_=>some []
  | x :: xs,ρ=>(Wx x ρ).bind fun d=>(Z3 xs ρ).map fun ds=>d :: ds
theorem Q9 : ∀ {xs : List A} {ds : List D},Z3 xs ρ = some ds → ds.length = xs.length
  | [],ds,e=>by cases e; rfl
  | x :: xs,ds,e=>by
    simp only [Z3,Option.bind_eq_some_iff,Option.map_eq_some_iff] at e
    obtain ⟨d,_,ds',e2,rfl⟩:=e
    simp [Q9 e2]
/-- all that is held and owned,as a part of the shared heap -/
theorem Stt.lendRep {x : A} {d : D} {fp : List Addr} (s : Stt K c S H σ ρ τ) (hf : RepP K S H (Ji ρ σ ++ Jg τ) fp) (h3 : ∀ a ∈ fp,S a = none ∧ c.R a = none) (m : (v,x) ∈ τ) (e : Wx x ρ = some d) : Rep K (addF S H fp) d v:=by
  have sm : Same S (addF S H fp):=Xh fun a ha=>(h3 a ha).1
  have full : ∀ {y : A} {u : V} {g : List Addr},RepA K S H y u g → (∀ a ∈ g,a ∈ fp) → Yy y = some d → Rep K (addF S H fp) d u:=fun {y u g} h1 h2 hd=>RepA.full (Le.of_same sm) y u g d hd (fun a ha o e=>by rw [Bk (h2 a ha)]; exact e) h1
  have tmp : Y4 x = false → Yy x = some d → Rep K (addF S H fp) d v:=fun hx hd=>by
    have m2 : (v,x) ∈ Ji ρ σ ++ Jg τ:=List.mem_append_right _ (List.mem_filter.mpr ⟨m,by cases x <;> first | rfl | cases hx⟩)
    obtain ⟨g,a1,a2⟩:=hf.pick m2
    exact full a1 a2 hd
  have slot : ∀ {i : Nat} {t : A} {u : V},ρ[i]? = some (some t) → σ[i]? = some (some u) → ∃ g,RepA K S H t u g ∧ ∀ a ∈ g,a ∈ fp:=fun {i t u} h1 h2=>by
    have m2 : (u,t) ∈ Ji ρ σ ++ Jg τ:=List.mem_append_left _ ((Wh h1 h2).symm.subset (List.mem_cons_self ..))
    exact hf.pick m2
  cases x with
  | loc i =>
    simp only [Wx,Option.bind_eq_some_iff] at e
    obtain ⟨⟨j,p,n⟩,e1,e2⟩:=e
    obtain ⟨z1,y,z2⟩:=s.loc v i m
    simp only [Y8,z2,Option.some.injEq,Prod.mk.injEq] at e1
    obtain ⟨rfl,rfl,rfl⟩:=e1
    obtain ⟨g,a1,a2⟩:=slot z2 z1
    exact full a1 a2 e2
  | pth i p w =>
    simp only [Wx,Option.bind_eq_some_iff] at e
    obtain ⟨⟨j,p',n⟩,e1,e2⟩:=e
    have m2 : (v,A.pth i p w) ∈ Ji ρ σ ++ Jg τ:=List.mem_append_right _ (List.mem_filter.mpr ⟨m,rfl⟩)
    obtain ⟨g0,b1,_⟩:=hf.pick m2
    simp only [RepA] at b1
    obtain ⟨rfl,hw,_⟩:=b1
    cases ht : ρ[i]? with
    | none=>simp [Y8,ht] at e1
    | some o =>
      cases o with
      | none=>simp [Y8,ht] at e1
      | some t =>
        simp only [Y8,ht] at e1
        obtain ⟨n0,q1,q2⟩:=G7 e1
        cases q2
        obtain ⟨⟨u,hu⟩,_⟩:=s.env.get ht
        obtain ⟨g,a1,a2⟩:=slot ht hu
        obtain ⟨v',gq,f1,l1,l2,_⟩:=RepA.lens a1 q1
        simp only [RepA] at l1
        obtain ⟨rfl,_,l3⟩:=l1
        exact full l3 (fun a ha=>a2 a (l2.symm.subset (List.mem_append_left _ ha))) e2
  | v d0 =>
    simp only [Wx,Option.some.injEq] at e
    subst e
    exact tmp rfl rfl
  | _=>exact tmp rfl e
end
end Vs
namespace Vs
open PySem PySem.Spec PyProof.Rows L2
variable [Tbs]
section
variable {K : Fg} {c : Ctx} {S S' H H' : Hp} {σ : L2.St} {ρ ρ' : J0} {τ : List (V × A)} {v : V}
/-- a call that gets all as data,and tells nothing that hangs on it -/
def Ge (sp : ASp) (xs : List A) : AE:=fun EA ρ Q=>∃ ds,Z3 xs ρ = some ds ∧ sp.pre (ds.map A.v) ∧ (∀ r zs,sp.post (ds.map A.v) r zs → zs.length = ds.length → zs = ds.map A.v ∧ Gy r = true ∧ Q r ρ) ∧ ∀ C fs zs,sp.exc (ds.map A.v) C fs zs → zs.length = ds.length → zs = ds.map A.v ∧ (fs.all fun p=>Zk p.2) = true ∧ EA C fs ρ
theorem Mb {S : Hp} : ∀ {vs : List V} {ds : List D},vs.length = ds.length → (∀ p ∈ vs.zip ds,Rep K S p.2 p.1) → RepP K S H (vs.zip (ds.map A.v)) []
  | [],[],_,_=>rfl
  | v :: vs,d :: ds,hl,h=>by
    show RepP K S H ((v,A.v d) :: vs.zip (ds.map A.v)) []
    exact ⟨[],[],RepA.ofv (h (v,d) (List.mem_cons_self ..)),Mb (by simpa using hl) fun p hp=>h p (List.mem_cons_of_mem _ hp),rfl⟩
  | [],_ :: _,hl,_=>by simp at hl
  | _ :: _,[],hl,_=>by simp at hl
theorem JWk : ∀ {xs : List A} {ds : List D} {vs : List V},Z3 xs ρ = some ds → vs.length = xs.length → ∀ p ∈ vs.zip ds,∃ x,(p.1,x) ∈ vs.zip xs ∧ Wx x ρ = some p.2
  | [],ds,vs,e,hl,p,hp=>by
    cases e
    simp at hp
  | x :: xs,ds,[],e,hl,p,hp=>by simp at hl
  | x :: xs,ds,v :: vs,e,hl,p,hp=>by
    simp only [Z3,Option.bind_eq_some_iff,Option.map_eq_some_iff] at e
    obtain ⟨d,e1,ds',e2,rfl⟩:=e
    rw [List.zip_cons_cons] at hp
    rcases List.mem_cons.mp hp with rfl | hp
    · exact ⟨x,by rw [List.zip_cons_cons]; exact List.mem_cons_self ..,e1⟩
    · obtain ⟨y,h1,h2⟩:=JWk e2 (by simpa using hl) p hp
      exact ⟨y,by rw [List.zip_cons_cons]; exact List.mem_cons_of_mem _ h1,h2⟩
theorem JFl {sp : ASp} {xs : List A} {vs : List V} {W : WX} {EA : AX} {Q : AK} (hw : XOk K c W EA) (hl : vs.length = xs.length) (s : Stt K c S H σ ρ (vs.zip xs ++ τ)) (h : Ge sp xs EA ρ Q) :
    lift K sp vs H (KE K c σ τ Q) (fun cls d H'=>W cls d σ H'):=by
  obtain ⟨ds,hd,hpre,hq,hx⟩:=h
  have hdl : vs.length = ds.length:=hl.trans (Q9 hd).symm
  obtain ⟨fp,h1,h2,h3⟩:=s.own
  let S1:=addF S H fp
  have sm : Same S S1:=Xh fun a ha=>(h3 a ha).1
  have hnex:=RepP.nex h1
  have hnsp:=RepP.nsp h1
  let tt:=(Tbs.T K).map (·.1)
  have inT : ∀ a ∈ tt,c.R a = none ∧ S a = none ∧ ∃ ps,H a = some (.tbl ps):=fun a ha=>by
    obtain ⟨p,hp,e⟩:=List.mem_map.mp ha
    obtain ⟨q1,q0,ps,q2,_⟩:=s.tb p hp
    rw [← e]
    exact ⟨q1,q0,ps,q2⟩
  have ntt : ∀ a ∈ fp,a ∉ tt:=fun a ha z=>by
    obtain ⟨o,q1,q2⟩:=hnsp a ha
    obtain ⟨_,_,ps,q3⟩:=inT a z
    rw [q3] at q1; cases q1; cases q2
  have tb1 : Tb K c.R S1 H:=s.tb.addF (fun a ha=>(h3 a ha).1) hnsp
  let c' : Ctx:=⟨U8 H tt,S1,[]⟩
  have hrep : RepP K S1 H (vs.zip (ds.map A.v)) []:=Mb hdl fun p hp=>by
    obtain ⟨x,m,e⟩:=JWk hd hl p hp
    exact s.lendRep h1 h3 (List.mem_append_left _ m) e
  have hlm : vs.length = (ds.map A.v).length:=by rw [List.length_map]; exact hdl
  have nl : ∀ x ∈ ds.map A.v,Y4 x = false:=fun x hx=>by
    obtain ⟨d,_,rfl⟩:=List.mem_map.mp hx
    rfl
  have s0 : Stt K c' S1 H (vs.map some) ((ds.map A.v).map some) []:=by
    refine ⟨⟨[],?_,List.nodup_nil,fun a ha=>by cases ha⟩,Fs hlm nl,fun _ _ m=>by simp at m,Hz s.le,fun a o e=>?_,fun _ _=>rfl,Same.refl S1,(fun p m=>by cases m),fun p hp=>⟨Wb (List.mem_map.mpr ⟨p,hp,rfl⟩),(tb1 p hp).2⟩⟩
    · rw [Zr hlm]
      simpa [Jg] using hrep
    · by_cases q : a ∈ tt
      · rw [show c'.R a = none from Wb q] at e; cases e
      · rw [show c'.R a = H a from U6 q] at e; exact e
  obtain ⟨fq,q1,q2,qf⟩ : ∃ fq,RepP K S H (Ji ρ σ ++ Jg τ) fq ∧ fq.Nodup ∧ ∀ a ∈ fq,a ∈ fp:=by
    have e0 : Jg (vs.zip xs ++ τ) = Jg (vs.zip xs) ++ Jg τ:=List.filter_append ..
    have pm : (Ji ρ σ ++ Jg (vs.zip xs ++ τ)).Perm ((Ji ρ σ ++ Jg τ) ++ Jg (vs.zip xs)):=by
      rw [e0,List.append_assoc]
      exact List.Perm.append_left _ List.perm_append_comm
    obtain ⟨f1,p1,p2⟩:=RepP.perm pm h1
    obtain ⟨fa,fb,w1,w2,w3⟩:=p1.append
    subst w3
    exact ⟨fa,w1,(List.nodup_append.mp (p2.nodup_iff.mp h2)).1,fun a ha=>p2.symm.subset (List.mem_append_left _ ha)⟩
  -- the state behind
  have back : ∀ {H' S' : Hp} {zs : List A} {τ' : List (V × A)},zs = ds.map A.v → (∀ p ∈ τ',Y4 p.2 = false ∧ Gy p.2 = true) → Stt K c' S' H' (vs.map some) (zs.map some) τ' → ∃ S2,Stt K c S2 H' σ ρ (τ' ++ τ):=by
    intro H' S' zs τ' hz hτ s'
    subst hz
    obtain ⟨gp,g1,g2,g3⟩:=s'.own
    rw [Zr hlm] at g1
    obtain ⟨ga,gr,r1,r2,r3⟩:=g1.append
    -- nothing of the arguments is owned
    have gnil : ∀ {vs : List V} {ds : List D} {g : List Addr},RepP K S' H' (vs.zip (ds.map A.v)) g → g = []:=by
      intro vs
      induction vs with
      | nil =>
        intro ds g h
        have h : RepP K S' H' [] g:=by simpa using h
        exact h
      | cons v vs ih =>
        intro ds g h
        cases ds with
        | nil =>
          have h : RepP K S' H' [] g:=by simpa using h
          exact h
        | cons d ds =>
          obtain ⟨g',h',a1,a2,a3⟩:=h
          simp only [RepA] at a1
          rw [a3,a1.2,ih a2]
          rfl
    have ega:=gnil r1
    subst ega
    rw [List.nil_append] at r3
    subst r3
    let S2 : Hp:=U8 S' fp
    have SS : Same S1 S':=s'.up
    have HH : ∀ a,a ∉ tt → ∀ o,H a = some o → H' a = some o:=fun a ha o e=>s'.r a o ((U6 ha).trans e)
    have sm2 : Same S S2:=fun a o e=>by
      have na : a ∉ fp:=fun z=>by rw [(h3 a z).1] at e; cases e
      show U8 S' fp a = _
      rw [U6 na]
      exact SS a o (sm a o e)
    have s1:=Stt.drops s
    have keepq : RepP K S2 H' (Ji ρ σ ++ Jg τ) fq:=q1.keep sm2 fun a ha=>by
      obtain ⟨o,e1,_⟩:=hnsp a (qf a ha)
      rw [e1]
      exact HH a (ntt a (qf a ha)) o e1
    have g3' : ∀ a ∈ gp,a ∉ fp:=fun a ha z=>by
      obtain ⟨o,e1,_⟩:=hnsp a z
      have:=(g3 a ha).2
      rw [show c'.R a = H a from U6 (ntt a z),e1] at this
      cases this
    have rind : ∀ {ps : List (V × A)} {g : List Addr},(∀ p ∈ ps,Gy p.2 = true) → RepP K S' H' ps g → RepP K S2 H' ps g:=by
      intro ps
      induction ps with
      | nil=>intro g _ h; exact h
      | cons p ps ih =>
        obtain ⟨u,y⟩:=p
        intro g hp h
        obtain ⟨g1,g2,a1,a2,a3⟩:=h
        exact ⟨g1,g2,a1.ind (hp _ (List.mem_cons_self ..)),ih (fun p h=>hp p (List.mem_cons_of_mem _ h)) a2,a3⟩
    have hr2 : RepP K S2 H' (Jg τ') gp:=rind (fun p hp=>(hτ p (List.mem_filter.mp hp).1).2) r2
    have big : RepP K S2 H' (Jg τ' ++ (Ji ρ σ ++ Jg τ)) (gp ++ fq):=hr2.join keepq
    have etmp : Jg (τ' ++ τ) = Jg τ' ++ Jg τ:=List.filter_append ..
    have pm : (Jg τ' ++ (Ji ρ σ ++ Jg τ)).Perm (Ji ρ σ ++ Jg (τ' ++ τ)):=by
      rw [etmp,← List.append_assoc,← List.append_assoc]
      exact List.Perm.append_right _ List.perm_append_comm
    obtain ⟨fz,z1,z2⟩:=RepP.perm pm big
    have ndb : (gp ++ fq).Nodup:=List.nodup_append.mpr ⟨by simpa using g2,q2,fun a ha b hb e=>g3' a ha (qf a (e ▸ hb))⟩
    refine ⟨S2,⟨⟨fz,z1,z2.nodup_iff.mp ndb,fun a ha=>?_⟩,s1.env,fun u i m=>?_,fun a o e=>?_,fun a o e=>?_,fun a ha=>?_,fun a o e=>sm2 a o (s.up a o e),s.os,fun p hp=>?_⟩⟩
    · rcases List.mem_append.mp (z2.symm.subset ha) with y | y
      · have ga:=g3 a (by simpa using y)
        refine ⟨?_,?_⟩
        · show U8 S' fp a = none
          rw [U6 (g3' a y)]
          exact ga.1
        · cases z : c.R a with
          | none=>rfl
          | some o =>
            have na : a ∉ tt:=fun w=>by rw [(inT a w).1] at z; cases z
            have:=ga.2
            rw [show c'.R a = H a from U6 na,s.r a o z] at this
            cases this
      · exact ⟨Wb (qf a y),(h3 a (qf a y)).2⟩
    · rcases List.mem_append.mp m with z | z
      · have:=(hτ _ z).1
        cases this
      · exact s1.loc u i z
    · by_cases na : a ∈ fp
      · rw [show S2 a = none from Wb na] at e; cases e
      · rw [show S2 a = S' a from U6 na] at e
        exact s'.le a o e
    · have na : a ∉ tt:=fun w=>by rw [(inT a w).1] at e; cases e
      exact HH a na o (s.r a o e)
    · cases z : c.R a with
      | none=>exact absurd z ha
      | some o =>
        have na : a ∉ tt:=fun w=>by rw [(inT a w).1] at z; cases z
        have nf : a ∉ fp:=fun w=>by rw [(h3 a w).2] at z; cases z
        have e1 : c'.R a ≠ none:=by
          rw [show c'.R a = H a from U6 na,s.r a o z]
          simp
        show U8 S' fp a = _
        rw [U6 nf,s'.new a e1]
        show addF S H fp a = _
        rw [Ww nf]
        exact s.new a ha
    · obtain ⟨t1,t2,ps,t3,t4,t5⟩:=s'.tb p hp
      have nf : p.1 ∉ fp:=fun w=>ntt p.1 w (List.mem_map.mpr ⟨p,hp,rfl⟩)
      refine ⟨(s.tb p hp).1,?_,ps,t3,t4,fun pos cv hc=>?_⟩
      · show U8 S' fp p.1 = none
        rw [U6 nf]
        exact t2
      · obtain ⟨cc,e1,e2⟩:=t5 pos cv hc
        refine ⟨cc,e1,?_⟩
        have nc : cc ∉ fp:=fun w=>by
          obtain ⟨o,q1,q2⟩:=hnex cc w
          have q3:=SS cc o ((Bk w).trans q1)
          rw [e2] at q3
          cases q3
          cases q2
        show U8 S' fp cc = _
        rw [U6 nc]
        exact e2
  refine ⟨c',S1,ds.map A.v,hlm,rfl,s0,Same.refl S1,Same.refl S1,hpre,fun r zs v H' S' hpo hlz hr s'=>?_,fun C fs zs dd H' S' hex hlz s' hdx=>?_⟩
  · obtain ⟨e1,e2,e3⟩:=hq r zs hpo (hlz.symm.trans hdl)
    obtain ⟨S2,z⟩:=back e1 (τ':=[(v,r)]) (fun p m=>by
      have e : p = (v,r):=by simpa using m
      rw [e]; exact ⟨hr,e2⟩) s'
    exact ⟨S2,ρ,r,z,e3⟩
  · obtain ⟨e1,e2,e3⟩:=hx C fs zs hex (hlz.symm.trans hdl)
    obtain ⟨S2,z⟩:=back e1 (τ':=[]) (fun p m=>by cases m) s'
    refine hw S2 H' σ ρ C fs dd (Stt.drops (τ':=[]) (ts:=τ) (by simpa using z)) ?_ e3
    rcases hdx with h | ⟨d,ws,h4,h5,h6⟩
    · exact .inl h
    · exact .inr ⟨d,ws,h4,h5,h6.sca e2⟩
def G1 (sp : ASp) (dd : List D) (aa : AA) : AE:=fun EA ρ Q=>aa EA ρ fun xs ρ1=>Ge sp (xs ++ dd.map A.v) EA ρ1 Q
theorem JKh {K : Fg} {P : Pm} {sp : ASp} {dd : List D} {dvs : List V} {aa : AA} {ta : TA} (hd : Dfl K dd dvs) (h : Zn K P ta aa) : Yw K P (tCallSD (lift K sp) dvs (fun σ cls d H=>P.W cls d σ H) ta) (G1 sp dd aa):=fun c EA ho hw τ S H σ ρ Q R s q kk =>
  h c EA ho hw τ S H σ ρ _ _ s q fun vs H1 ⟨S1,ρ1,xs,hl,s1,q1⟩=>by
    have hdl : dvs.length = (dd.map A.v).length:=by rw [List.length_map]; exact (hd S1).len
    have s2 : Stt K c S1 H1 σ ρ1 ((vs ++ dvs).zip (xs ++ dd.map A.v) ++ τ):=by
      rw [List.zip_append hl,List.append_assoc]
      have z:=Hm (hd S1) s1
      refine z.swap ?_
      rw [← List.append_assoc,← List.append_assoc]
      exact List.Perm.append_right _ List.perm_append_comm
    exact Lw (JFl hw (by simp [hl,hdl]) s2 q1) (fun v H h=>kk v H h) fun _ _ _ h=>h
theorem JG3 {X : Cx} {P : Pm} {k : Nat} {ps : List Str} {sp : ASp} {x : Str} {e : Expr} {es : List Expr} {aa : AA} {p pos : Pos} (F : Cal X.prog X.w X.K X.mg X.base x k ps sp) (hr : Room k X.A) (hg : Gl X x) (hx : ∀ σ,PassesAt (L2.CX X.prog X.w) X σ (fun cls d H=>P.W cls d σ H)) (ha : QA X P (e :: es) aa)
    (hdb : (x == ("__debug__" : Str)) = false:=by decide) (he : starEach (e :: es) X.env = (false,eval e X.env) :: starEach es X.env:=by rfl) (hpl : (backTo pos (starEach es X.env)).any (·.1) = false:=by rfl) :
    QE X P (.Call (.Name x p) (e :: es) [] pos) (G1 sp [] aa):=let ⟨_,_,hm,hk,hb,h4⟩:=F.ex; let ⟨_,pa,sa⟩:=ha.ex; ⟨_,pe_callSD h4 hr hg hm hk hb .nil hx pa hdb he hpl,JKh Hf sa⟩
end
end Vs
namespace Vs
open PySem PySem.Spec PyProof.Rows L2
variable [Tbs]
theorem JKp {sp : ASp} {xs : List A} : CE (Ge sp xs):=fun {ι} _ EA EA' ρ Q Q' h hx hq=>by
  obtain ⟨i,_⟩:=i0 (ι:=ι)
  obtain ⟨ds,e,hp,_,_⟩:=h i
  refine ⟨ds,e,hp,fun r zs p l=>?_,fun C fs zs p l=>?_⟩
  · refine ⟨?_,?_,hq _ _ fun j=>?_⟩
    all_goals first
      | (obtain ⟨ds2,e2,_,q1,_⟩:=h i
         rw [e] at e2
         cases e2
         first | exact (q1 r zs p l).1 | exact (q1 r zs p l).2.1)
      | skip
    obtain ⟨ds2,e2,_,q1,_⟩:=h j
    rw [e] at e2
    cases e2
    exact (q1 r zs p l).2.2
  · refine ⟨?_,?_,hx _ _ _ fun j=>?_⟩
    all_goals first
      | (obtain ⟨ds2,e2,_,_,q1⟩:=h i
         rw [e] at e2
         cases e2
         first | exact (q1 C fs zs p l).1 | exact (q1 C fs zs p l).2.1)
      | skip
    obtain ⟨ds2,e2,_,_,q1⟩:=h j
    rw [e] at e2
    cases e2
    exact (q1 C fs zs p l).2.2
section
variable {sp : ASp} {C : Addr} {m : Str} {dd : List D} {ao : AE} {al : AA}
theorem JFh (hl : CA al) : CE (G1 sp dd al):=fun h hx hq=>hl h hx fun xs ρ1 h1=>JKp h1 hx hq
end
section
variable {EA : AX} {ρ : J0} {Q : AK} {S : ASp} {sp : ASp} {C : Addr} {m : Str} {dd : List D} {ao : AE} {al : AA} {xs : List A} {ds : List D}
theorem JLm (k : al EA ρ fun xs ρ1=>Ge sp (xs ++ dd.map A.v) EA ρ1 Q) : G1 sp dd al EA ρ Q:=k
/-- a contract used so -/
theorem JBt {Pq : A → Prop} (h : Val S (ds.map A.v) Pq) (hd : Z3 xs ρ = some ds) (hi : ∀ r,Pq r → Gy r = true) (k : ∀ r,Pq r → Q r ρ) : Ge S xs EA ρ Q :=
  ⟨ds,hd,h.pre,fun r zs p l=>by
    obtain ⟨h1,h2⟩:=h.po r zs p
    exact ⟨h1,hi r h2,k r h2⟩,fun C fs zs p l=>(h.ex C fs zs p).elim⟩
theorem JMd {d : D} : Wx (.v d) ρ = some d:=rfl
theorem JKb {i : Nat} {p : List Stp} {w : V} {t n : A} {d : D} (h : ρ[i]? = some (some t)) (h1 : t.at p = some (.cel w n)) (h2 : Yy n = some d) : Wx (.pth i p w) ρ = some d:=by
  simp only [Wx,Bw h h1,Option.bind_some,h2]
theorem JH6 : Z3 [] ρ = some []:=rfl
theorem JVm {x : A} {xs : List A} {d : D} {ds : List D} (h1 : Wx x ρ = some d) (h2 : Z3 xs ρ = some ds) : Z3 (x :: xs) ρ = some (d :: ds):=by
  simp only [Z3,h1,Option.bind_some,h2,Option.map_some]
end
end Vs
namespace Vs
open PySem PySem.Spec PyProof.Rows L2
variable [Tbs]
mutual
/-- no list,nothing unknown -/
def nlD : D → Bool
  | .lst _=>false
  | .any=>false
  | .tup xs=>X5 xs
  | .dic kvs=>F0 kvs
  | .obj _ fs=>K6 fs
  | _=>true
def X5 : List D → Bool
  | []=>true
  | x :: xs=>nlD x && X5 xs
def F0 : List (Key × D) → Bool
  | []=>true
  | (_,x) :: xs=>nlD x && F0 xs
def K6 : List (Str × D) → Bool
  | []=>true
  | (_,x) :: xs=>nlD x && K6 xs
end
mutual
def nlA : A → Bool
  | .v d=>nlD d
  | .dic kvs=>F0 kvs
  | .lst xs=>X5 xs
  | .obj _ fs=>Gj fs
  | _=>false
def Gj : List (Str × A) → Bool
  | []=>true
  | (_,x) :: xs=>nlA x && Gj xs
end
/-- T is S without some cells that hold lists -/
def Wol (S T : Hp) : Prop:=∀ a o,S a = some o → (∀ xs,o ≠ .lst xs) → T a = some o
section
variable {K : Fg} {S T H : Hp}
theorem Rd.wol {a : Addr} {u : HO} (w : Wol S T) (hu : ∀ xs,u ≠ .lst xs) (h : Rd S a u) : Rd T a u:=by
  rcases h with h | ⟨ob,h⟩
  · exact .inl (w a u h hu)
  · exact .inr ⟨ob,w a _ h (fun _ e=>nomatch e)⟩
mutual
theorem Rep.wol (w : Wol S T) : ∀ (d : D) (v : V),nlD d = true → Rep K S d v → Rep K T d v
  | .non,v,_,h=>by simpa only [Rep] using h
  | .bl b,v,_,h=>by simpa only [Rep] using h
  | .int b,v,_,h=>by simpa only [Rep] using h
  | .str b,v,_,h=>by simpa only [Rep] using h
  | .ty b,v,_,h=>by simpa only [Rep] using h
  | .lst xs,v,e,h=>by cases e
  | .any,v,e,h=>by cases e
  | .tup xs,v,e,h=>by
    simp only [nlD] at e
    simp only [Rep] at h ⊢
    obtain ⟨a,vs,rfl,h1,h2⟩:=h
    refine ⟨a,vs,rfl,?_,RepL.wol w xs vs e h2⟩
    rcases h1 with h1 | h1
    · exact .inl (Rd.wol w (fun _ e=>nomatch e) h1)
    · exact .inr h1
  | .dic xs,v,e,h=>by
    simp only [nlD] at e
    simp only [Rep] at h ⊢
    obtain ⟨a,vs,rfl,h1,h2⟩:=h
    exact ⟨a,vs,rfl,Rd.wol w (fun _ e=>nomatch e) h1,RepK.wol w xs vs e h2⟩
  | .obj C fs,v,e,h=>by
    simp only [nlD] at e
    simp only [Rep] at h ⊢
    obtain ⟨a,dx,ws,rfl,h1,h2⟩:=h
    exact ⟨a,dx,ws,rfl,w a _ h1 (fun _ e=>nomatch e),RepF.wol w fs ws e h2⟩
theorem RepL.wol (w : Wol S T) : ∀ (xs : List D) (vs : List V),X5 xs = true → RepL K S xs vs → RepL K T xs vs
  | [],vs,_,h=>by simpa only [RepL] using h
  | x :: xs,vs,e,h=>by
    simp only [X5,Bool.and_eq_true] at e
    simp only [RepL] at h ⊢
    obtain ⟨u,r,rfl,h1,h2⟩:=h
    exact ⟨u,r,rfl,Rep.wol w x u e.1 h1,RepL.wol w xs r e.2 h2⟩
theorem RepK.wol (w : Wol S T) : ∀ (xs : List (Key × D)) (vs : List (Key × V)),F0 xs = true → RepK K S xs vs → RepK K T xs vs
  | [],vs,_,h=>by simpa only [RepK] using h
  | (k,x) :: xs,vs,e,h=>by
    simp only [F0,Bool.and_eq_true] at e
    simp only [RepK] at h ⊢
    obtain ⟨u,r,rfl,h1,h2⟩:=h
    exact ⟨u,r,rfl,Rep.wol w x u e.1 h1,RepK.wol w xs r e.2 h2⟩
theorem RepF.wol (w : Wol S T) : ∀ (xs : List (Str × D)) (vs : List (Str × V)),K6 xs = true → RepF K S xs vs → RepF K T xs vs
  | [],vs,_,h=>by simpa only [RepF] using h
  | (k,x) :: xs,vs,e,h=>by
    simp only [K6,Bool.and_eq_true] at e
    simp only [RepF] at h ⊢
    obtain ⟨u,r,rfl,h1,h2⟩:=h
    exact ⟨u,r,rfl,Rep.wol w x u e.1 h1,RepF.wol w xs r e.2 h2⟩
end
mutual
theorem RepA.wol (w : Wol S T) : ∀ (x : A) (v : V) (g : List Addr),nlA x = true → RepA K S H x v g → RepA K T H x v g
  | .v d,v,g,e,h=>by
    simp only [nlA] at e
    simp only [RepA] at h ⊢
    exact ⟨Rep.wol w d v e h.1,h.2⟩
  | .dic xs,v,g,e,h=>by
    simp only [nlA] at e
    simp only [RepA] at h ⊢
    obtain ⟨a,vs,e1,h1,h2,h3⟩:=h
    exact ⟨a,vs,e1,h1,RepK.wol w xs vs e h2,h3⟩
  | .lst xs,v,g,e,h=>by
    simp only [nlA] at e
    simp only [RepA] at h ⊢
    obtain ⟨a,vs,e1,h1,h2,h3⟩:=h
    exact ⟨a,vs,e1,h1,RepL.wol w xs vs e h2,h3⟩
  | .obj C fs,v,g,e,h=>by
    simp only [nlA] at e
    simp only [RepA] at h ⊢
    obtain ⟨a,dx,ws,g',e1,h1,h2,h3⟩:=h
    exact ⟨a,dx,ws,g',e1,h1,RepAF.wol w fs ws g' e h2,h3⟩
  | .loc _,_,_,e,_=>by cases e
  | .nl _,_,_,e,_=>by cases e
  | .nd _,_,_,e,_=>by cases e
  | .nt _,_,_,e,_=>by cases e
  | .cel _ _,_,_,e,_=>by cases e
  | .pth _ _ _,_,_,e,_=>by cases e
theorem RepAF.wol (w : Wol S T) : ∀ (xs : List (Str × A)) (vs : List (Str × V)) (g : List Addr),Gj xs = true → RepAF K S H xs vs g → RepAF K T H xs vs g
  | [],vs,g,_,h=>by simpa only [RepAF] using h
  | (k,x) :: xs,vs,g,e,h=>by
    simp only [Gj,Bool.and_eq_true] at e
    simp only [RepAF] at h ⊢
    obtain ⟨v,r,g1,g2,e1,h1,h2,h3⟩:=h
    exact ⟨v,r,g1,g2,e1,RepA.wol w x v g1 e.1 h1,RepAF.wol w xs r g2 e.2 h2,h3⟩
end
end
def Xv : A → Bool
  | .v _=>true
  | .lst _=>true
  | _=>false
/-- what an argument is as data,where it is data or an own list -/
noncomputable def Wp (x : A) (ρ : J0) : Option D:=match x with
  | .v d=>some d
  | .lst xs=>some (.lst xs)
  | .loc _=>(Y8 x ρ).bind fun q=>if Xv q.2.2 then Yy q.2.2 else none
  | .pth _ _ _=>(Y8 x ρ).bind fun q=>if Xv q.2.2 then Yy q.2.2 else none
  | _=>none
noncomputable def Ws : List A → J0 → Option (List D)
  | [],_=>some []
  | x :: xs,ρ=>(Wp x ρ).bind fun d=>(Ws xs ρ).map fun ds=>d :: ds
section
variable {K : Fg} {c : Ctx} {S S' H H' : Hp} {σ : L2.St} {ρ ρ' : J0} {τ : List (V × A)} {v : V}
theorem JWi : ∀ {xs : List A} {ds : List D},Ws xs ρ = some ds → ds.length = xs.length
  | [],ds,e=>by cases e; rfl
  | x :: xs,ds,e=>by
    simp only [Ws,Option.bind_eq_some_iff,Option.map_eq_some_iff] at e
    obtain ⟨d,_,ds',e2,rfl⟩:=e
    simp [JWi e2]
theorem JJ9 : ∀ {xs : List A} {ds : List D} {vs : List V},Ws xs ρ = some ds → vs.length = xs.length → ∀ p ∈ vs.zip ds,∃ x,(p.1,x) ∈ vs.zip xs ∧ Wp x ρ = some p.2
  | [],ds,vs,e,hl,p,hp=>by
    cases e
    simp at hp
  | x :: xs,ds,[],e,hl,p,hp=>by simp at hl
  | x :: xs,ds,v :: vs,e,hl,p,hp=>by
    simp only [Ws,Option.bind_eq_some_iff,Option.map_eq_some_iff] at e
    obtain ⟨d,e1,ds',e2,rfl⟩:=e
    rw [List.zip_cons_cons] at hp
    rcases List.mem_cons.mp hp with rfl | hp
    · exact ⟨x,by rw [List.zip_cons_cons]; exact List.mem_cons_self ..,e1⟩
    · obtain ⟨y,h1,h2⟩:=JJ9 e2 (by simpa using hl) p hp
      exact ⟨y,by rw [List.zip_cons_cons]; exact List.mem_cons_of_mem _ h1,h2⟩
/-- the own cells that hold lists -/
noncomputable def Br (H : Hp) (fp : List Addr) : List Addr:=fp.filter fun a=>match H a with
  | some (.lst _)=>true
  | _=>false
theorem mem_lstF {fp : List Addr} {a : Addr} : a ∈ Br H fp ↔ a ∈ fp ∧ ∃ vs,H a = some (.lst vs):=by
  unfold Br
  rw [List.mem_filter]
  constructor
  · rintro ⟨h1,h2⟩
    refine ⟨h1,?_⟩
    cases e : H a with
    | none=>simp [e] at h2
    | some o =>
      cases o <;> first | exact ⟨_,rfl⟩ | simp [e] at h2
  · rintro ⟨h1,vs,h2⟩
    exact ⟨h1,by rw [h2]⟩
theorem Stt.lenlRep {x : A} {d : D} {fp : List Addr} (s : Stt K c S H σ ρ τ) (hf : RepP K S H (Ji ρ σ ++ Jg τ) fp) (h3 : ∀ a ∈ fp,S a = none ∧ c.R a = none) (m : (v,x) ∈ τ) (e : Wp x ρ = some d) : Rep K (addF S H (Br H fp)) d v:=by
  have sm : Same S (addF S H (Br H fp)):=Xh fun a ha=>(h3 a (mem_lstF.mp ha).1).1
  have full : ∀ {y : A} {u : V} {g : List Addr},RepA K S H y u g → (∀ a ∈ g,a ∈ fp) → Xv y = true → Yy y = some d → Rep K (addF S H (Br H fp)) d u:=fun {y u g} h1 h2 hn hd=>RepA.full (Le.of_same sm) y u g d hd (fun a ha o e=>by
    rw [Bk (mem_lstF.mpr ⟨h2 a ha,?_⟩)]
    · exact e
    · cases y <;> try cases hn
      · simp only [RepA] at h1
        rw [h1.2] at ha
        cases ha
      · simp only [RepA] at h1
        obtain ⟨b,vs,_,z1,_,z2⟩:=h1
        have : a = b:=by simpa [z2] using ha
        exact ⟨vs,by rw [this]; exact z1⟩) h1
  have tmp : Y4 x = false → Xv x = true → Yy x = some d → Rep K (addF S H (Br H fp)) d v:=fun hx hn hd=>by
    have m2 : (v,x) ∈ Ji ρ σ ++ Jg τ:=List.mem_append_right _ (List.mem_filter.mpr ⟨m,by cases x <;> first | rfl | cases hx⟩)
    obtain ⟨g,a1,a2⟩:=hf.pick m2
    exact full a1 a2 hn hd
  have slot : ∀ {i : Nat} {t : A} {u : V},ρ[i]? = some (some t) → σ[i]? = some (some u) → ∃ g,RepA K S H t u g ∧ ∀ a ∈ g,a ∈ fp:=fun {i t u} h1 h2=>by
    have m2 : (u,t) ∈ Ji ρ σ ++ Jg τ:=List.mem_append_left _ ((Wh h1 h2).symm.subset (List.mem_cons_self ..))
    exact hf.pick m2
  cases x with
  | loc i =>
    simp only [Wp,Option.bind_eq_some_iff] at e
    obtain ⟨⟨j,p,n⟩,e1,e2⟩:=e
    obtain ⟨z1,y,z2⟩:=s.loc v i m
    simp only [Y8,z2,Option.some.injEq,Prod.mk.injEq] at e1
    obtain ⟨rfl,rfl,rfl⟩:=e1
    by_cases hn : Xv y = true
    · simp only [hn,if_true] at e2
      obtain ⟨g,a1,a2⟩:=slot z2 z1
      exact full a1 a2 hn e2
    · simp only [hn] at e2
      cases e2
  | pth i p w =>
    simp only [Wp,Option.bind_eq_some_iff] at e
    obtain ⟨⟨j,p',n⟩,e1,e2⟩:=e
    have m2 : (v,A.pth i p w) ∈ Ji ρ σ ++ Jg τ:=List.mem_append_right _ (List.mem_filter.mpr ⟨m,rfl⟩)
    obtain ⟨g0,b1,_⟩:=hf.pick m2
    simp only [RepA] at b1
    obtain ⟨rfl,hw,_⟩:=b1
    by_cases hn : Xv n = true
    · simp only [hn,if_true] at e2
      cases ht : ρ[i]? with
      | none=>simp [Y8,ht] at e1
      | some o =>
        cases o with
        | none=>simp [Y8,ht] at e1
        | some t =>
          simp only [Y8,ht] at e1
          obtain ⟨n0,q1,q2⟩:=G7 e1
          cases q2
          obtain ⟨⟨u,hu⟩,_⟩:=s.env.get ht
          obtain ⟨g,a1,a2⟩:=slot ht hu
          obtain ⟨v',gq,f1,l1,l2,_⟩:=RepA.lens a1 q1
          simp only [RepA] at l1
          obtain ⟨rfl,_,l3⟩:=l1
          exact full l3 (fun a ha=>a2 a (l2.symm.subset (List.mem_append_left _ ha))) hn e2
    · simp only [hn] at e2
      cases e2
  | v d0 =>
    simp only [Wp,Option.some.injEq] at e
    subst e
    exact tmp rfl rfl rfl
  | lst xs =>
    simp only [Wp,Option.some.injEq] at e
    subst e
    exact tmp rfl rfl rfl
  | _=>cases e
/-- C(..) with all arguments lent as data -/
def mkL (C : Addr) (sp : ASp) (xs : List A) : AE:=fun EA ρ Q=>∃ ds,Ws xs ρ = some ds ∧ sp.pre (.obj C [] :: ds.map A.v) ∧ (∀ r y zs,sp.post (.obj C [] :: ds.map A.v) r (y :: zs) → zs.length = ds.length → r = .v .non ∧ zs = ds.map A.v ∧ nlA y = true ∧ Q y ρ) ∧ ∀ Ce fs y zs,sp.exc (.obj C [] :: ds.map A.v) Ce fs (y :: zs) → zs.length = ds.length → zs = ds.map A.v ∧ (fs.all fun p=>Zk p.2) = true ∧ nlA y = true ∧ EA Ce fs ρ
theorem JGt {C : Addr} {sp : ASp} {xs : List A} {vs : List V} {W : WX} {EA : AX} {Q : AK} {xa : Addr} {R : VK} (hw : XOk K c W EA) (hl : vs.length = xs.length) (s : Stt K c S H σ ρ ((.ref xa,.obj C []) :: (vs.zip xs ++ τ))) (h : mkL C sp xs EA ρ Q) (kk : ∀ v H',KE K c σ τ Q v H' → R v H') :
    lift K sp (.ref xa :: vs) H (fun v H2=>v = .non ∧ R (.ref xa) H2) (fun cls d H'=>W cls d σ H'):=by
  obtain ⟨ds,hd,hpre,hq,hx⟩:=h
  have hdl : vs.length = ds.length:=hl.trans (JWi hd).symm
  obtain ⟨fp,h1,h2,h3⟩:=s.own
  let fl:=Br H fp
  have fls : ∀ a ∈ fl,a ∈ fp:=fun a ha=>(mem_lstF.mp ha).1
  let S1:=addF S H fl
  have sm : Same S S1:=Xh fun a ha=>(h3 a (fls a ha)).1
  have hnex:=RepP.nex h1
  have hnsp:=RepP.nsp h1
  -- the new thing's own cell
  have m0 : (V.ref xa,A.obj C []) ∈ Ji ρ σ ++ Jg ((V.ref xa,A.obj C []) :: (vs.zip xs ++ τ)):=List.mem_append_right _ (List.mem_filter.mpr ⟨List.mem_cons_self ..,rfl⟩)
  obtain ⟨dx,hxa,xin⟩ : ∃ dx,H xa = some (.ins C dx []) ∧ xa ∈ fp:=by
    obtain ⟨g,a1,a2⟩:=h1.pick m0
    simp only [RepA,RepAF] at a1
    obtain ⟨a,dx,ws,g',e1,e2,⟨e3,e4⟩,e5⟩:=a1
    cases e1
    subst e3 e4 e5
    exact ⟨dx,e2,a2 _ (List.mem_cons_self ..)⟩
  have xnl : xa ∉ fl:=fun z=>by
    obtain ⟨_,ws,e⟩:=mem_lstF.mp z
    rw [hxa] at e
    cases e
  let tt:=(Tbs.T K).map (·.1)
  have inT : ∀ a ∈ tt,c.R a = none ∧ S a = none ∧ ∃ ps,H a = some (.tbl ps):=fun a ha=>by
    obtain ⟨p,hp,e⟩:=List.mem_map.mp ha
    obtain ⟨q1,q0,ps,q2,_⟩:=s.tb p hp
    rw [← e]
    exact ⟨q1,q0,ps,q2⟩
  have ntt : ∀ a ∈ fp,a ∉ tt:=fun a ha z=>by
    obtain ⟨o,q1,q2⟩:=hnsp a ha
    obtain ⟨_,_,ps,q3⟩:=inT a z
    rw [q3] at q1; cases q1; cases q2
  have tb1 : Tb K c.R S1 H:=s.tb.addF (fun a ha=>(h3 a (fls a ha)).1) fun a ha=>hnsp a (fls a ha)
  let cc:=xa :: tt
  let c' : Ctx:=⟨U8 H cc,S1,[]⟩
  have hrep : RepP K S1 H (vs.zip (ds.map A.v)) []:=Mb hdl fun p hp=>by
    obtain ⟨x,m,e⟩:=JJ9 hd hl p hp
    exact s.lenlRep h1 h3 (List.mem_cons_of_mem _ (List.mem_append_left _ m)) e
  have hlm : (V.ref xa :: vs).length = (A.obj C [] :: ds.map A.v).length:=by simp [hdl]
  have nl : ∀ x ∈ A.obj C [] :: ds.map A.v,Y4 x = false:=fun x hx=>by
    rcases List.mem_cons.mp hx with rfl | hx
    · rfl
    · obtain ⟨d,_,rfl⟩:=List.mem_map.mp hx
      rfl
  have xS : S xa = none:=(h3 xa xin).1
  have xR : c.R xa = none:=(h3 xa xin).2
  have xS1 : S1 xa = none:=(Ww xnl).trans xS
  have s0 : Stt K c' S1 H ((V.ref xa :: vs).map some) ((A.obj C [] :: ds.map A.v).map some) []:=by
    refine ⟨⟨[xa],?_,by simp,fun a ha=>?_⟩,Fs hlm nl,fun _ _ m=>by simp at m,Hz s.le,fun a o e=>?_,fun _ _=>rfl,Same.refl S1,(fun p m=>by cases m),fun p hp=>⟨Wb (List.mem_cons_of_mem _ (List.mem_map.mpr ⟨p,hp,rfl⟩)),(tb1 p hp).2⟩⟩
    · rw [Zr hlm]
      simp only [Jg,List.filter_nil,List.append_nil]
      rw [List.zip_cons_cons]
      refine ⟨[xa],[],?_,hrep,rfl⟩
      simp only [RepA,RepAF]
      exact ⟨xa,dx,[],[],rfl,hxa,⟨rfl,rfl⟩,rfl⟩
    · have : a = xa:=by simpa using ha
      subst this
      exact ⟨xS1,Wb (List.mem_cons_self ..)⟩
    · by_cases q : a ∈ cc
      · rw [show c'.R a = none from Wb q] at e; cases e
      · rw [show c'.R a = H a from U6 q] at e; exact e
  have hcc : ∀ a ∈ fp,a ≠ xa → a ∉ cc:=fun a ha hn z=>by
    rcases List.mem_cons.mp z with z | z
    · exact hn z
    · exact ntt a ha z
  obtain ⟨fq,q1,q2,qf,qx⟩ : ∃ fq,RepP K S H (Ji ρ σ ++ Jg τ) fq ∧ fq.Nodup ∧ (∀ a ∈ fq,a ∈ fp) ∧ xa ∉ fq:=by
    have e0 : Jg ((V.ref xa,A.obj C []) :: (vs.zip xs ++ τ)) = (V.ref xa,A.obj C []) :: (Jg (vs.zip xs) ++ Jg τ):=by
      show Jg ([(V.ref xa,A.obj C [])] ++ (vs.zip xs ++ τ)) = _
      simp only [Jg,List.filter_append]
      rfl
    have pm : (Ji ρ σ ++ Jg ((V.ref xa,A.obj C []) :: (vs.zip xs ++ τ))).Perm ((V.ref xa,A.obj C []) :: ((Ji ρ σ ++ Jg τ) ++ Jg (vs.zip xs))):=by
      rw [e0]
      refine List.perm_middle.trans (List.Perm.cons _ ?_)
      rw [List.append_assoc]
      exact List.Perm.append_left _ List.perm_append_comm
    obtain ⟨f1,p1,p2⟩:=RepP.perm pm h1
    obtain ⟨g0,f2,w0,w1,w2⟩:=p1
    obtain ⟨fa,fb,w3,w4,w5⟩:=w1.append
    subst w2 w5
    have nd:=p2.nodup_iff.mp h2
    have xg : xa ∈ g0:=by
      simp only [RepA,RepAF] at w0
      obtain ⟨a,dx,ws,g',e1,e2,⟨e3,e4⟩,e5⟩:=w0
      cases e1
      subst e5
      exact List.mem_cons_self ..
    refine ⟨fa,w3,(List.nodup_append.mp (List.nodup_append.mp nd).2.1).1,fun a ha=>p2.symm.subset (List.mem_append_right _ (List.mem_append_left _ ha)),fun z=>(List.nodup_append.mp nd).2.2 _ xg _ (List.mem_append_left _ z) rfl⟩
  -- the state behind
  have back : ∀ {H' S' : Hp} {y : A} {zs : List A},zs = ds.map A.v → nlA y = true → Stt K c' S' H' ((V.ref xa :: vs).map some) ((y :: zs).map some) [] → ∃ S2,Stt K c S2 H' σ ρ ((V.ref xa,y) :: τ):=by
    intro H' S' y zs hz hy s'
    subst hz
    have hyl : Y4 y = false:=by cases y <;> first | rfl | cases hy
    have hlm2 : (V.ref xa :: vs).length = (y :: ds.map A.v).length:=by simp [hdl]
    obtain ⟨gp,g1,g2,g3⟩:=s'.own
    rw [Zr hlm2,List.zip_cons_cons] at g1
    simp only [Jg,List.filter_nil,List.append_nil] at g1
    obtain ⟨gy,ga,r0,r1,r2⟩:=g1
    have gnil : ∀ {vs : List V} {ds : List D} {g : List Addr},RepP K S' H' (vs.zip (ds.map A.v)) g → g = []:=by
      intro vs
      induction vs with
      | nil =>
        intro ds g h
        have h : RepP K S' H' [] g:=by simpa using h
        exact h
      | cons v vs ih =>
        intro ds g h
        cases ds with
        | nil =>
          have h : RepP K S' H' [] g:=by simpa using h
          exact h
        | cons d ds =>
          obtain ⟨g',h',a1,a2,a3⟩:=h
          simp only [RepA] at a1
          rw [a3,a1.2,ih a2]
          rfl
    have ega:=gnil r1
    subst ega
    rw [List.append_nil] at r2
    have r2':=r2.symm
    subst r2'
    let S2 : Hp:=U8 S' fl
    have SS : Same S1 S':=s'.up
    have HH : ∀ a,a ∉ cc → ∀ o,H a = some o → H' a = some o:=fun a ha o e=>s'.r a o ((U6 ha).trans e)
    have sm2 : Same S S2:=fun a o e=>by
      have na : a ∉ fl:=fun z=>by rw [(h3 a (fls a z)).1] at e; cases e
      show U8 S' fl a = _
      rw [U6 na]
      exact SS a o (sm a o e)
    have s1 : Stt K c S H σ ρ τ:=Stt.drops s.drop
    have keepq : RepP K S2 H' (Ji ρ σ ++ Jg τ) fq:=q1.keep sm2 fun a ha=>by
      obtain ⟨o,e1,_⟩:=hnsp a (qf a ha)
      rw [e1]
      exact HH a (hcc a (qf a ha) fun z=>qx (z ▸ ha)) o e1
    have S'n : ∀ a ∈ fp,a ≠ xa → a ∉ fl → S' a = none:=fun a ha hn hf=>by
      obtain ⟨o,e1,_⟩:=hnsp a ha
      have e2 : c'.R a ≠ none:=by
        rw [show c'.R a = H a from U6 (hcc a ha hn),e1]
        simp
      rw [s'.new a e2]
      exact (Ww hf).trans (h3 a ha).1
    have g3' : ∀ a ∈ gy,a ∈ fp → a = xa:=fun a ha z=>Classical.byContradiction fun hn=>by
      obtain ⟨o,e1,_⟩:=hnsp a z
      have:=(g3 a ha).2
      rw [show c'.R a = H a from U6 (hcc a z hn),e1] at this
      cases this
    have wol : Wol S' S2:=fun a o e hno=>by
      have na : a ∉ fl:=fun z=>by
        obtain ⟨_,ws,e2⟩:=mem_lstF.mp z
        have e3 : S1 a = some (.lst ws):=(Bk z).trans e2
        have:=SS a _ e3
        rw [e] at this
        cases this
        exact hno _ rfl
      show U8 S' fl a = _
      rw [U6 na]
      exact e
    have hy2 : RepA K S2 H' y (V.ref xa) gy:=RepA.wol wol y _ gy hy r0
    have big : RepP K S2 H' ((V.ref xa,y) :: (Ji ρ σ ++ Jg τ)) (gy ++ fq):=⟨gy,fq,hy2,keepq,rfl⟩
    have etmp : Jg ((V.ref xa,y) :: τ) = (V.ref xa,y) :: Jg τ:=by
      simp only [Jg]
      rw [List.filter_cons_of_pos]
      cases y <;> first | rfl | cases hyl
    have pm : ((V.ref xa,y) :: (Ji ρ σ ++ Jg τ)).Perm (Ji ρ σ ++ Jg ((V.ref xa,y) :: τ)):=by
      rw [etmp]
      exact List.perm_middle.symm
    obtain ⟨fz,z1,z2⟩:=RepP.perm pm big
    have ndb : (gy ++ fq).Nodup:=List.nodup_append.mpr ⟨g2,q2,fun a ha b hb e=>qx (by
      have:=g3' a ha (qf a (e ▸ hb))
      rw [← this,e]
      exact hb)⟩
    refine ⟨S2,⟨⟨fz,z1,z2.nodup_iff.mp ndb,fun a ha=>?_⟩,s1.env,fun u i m=>?_,fun a o e=>?_,fun a o e=>?_,fun a ha=>?_,fun a o e=>sm2 a o (s.up a o e),s.os,fun p hp=>?_⟩⟩
    · rcases List.mem_append.mp (z2.symm.subset ha) with y | y
      · have ga:=g3 a y
        by_cases hx' : a = xa
        · subst hx'
          refine ⟨?_,xR⟩
          show U8 S' fl a = none
          rw [U6 xnl]
          exact ga.1
        refine ⟨?_,?_⟩
        · show U8 S' fl a = none
          rw [U6 fun z=>hx' (g3' a y (fls a z))]
          exact ga.1
        · cases z : c.R a with
          | none=>rfl
          | some o =>
            have na : a ∉ cc:=fun w=>by
              rcases List.mem_cons.mp w with w | w
              · exact hx' w
              · rw [(inT a w).1] at z; cases z
            have:=ga.2
            rw [show c'.R a = H a from U6 na,s.r a o z] at this
            cases this
      · refine ⟨?_,(h3 a (qf a y)).2⟩
        by_cases hf : a ∈ fl
        · exact Wb hf
        · show U8 S' fl a = none
          rw [U6 hf]
          exact S'n a (qf a y) (fun z=>qx (z ▸ y)) hf
    · rcases List.mem_cons.mp m with z | z
      · cases z
        cases hyl
      · exact s1.loc u i z
    · by_cases na : a ∈ fl
      · rw [show S2 a = none from Wb na] at e; cases e
      · rw [show S2 a = S' a from U6 na] at e
        exact s'.le a o e
    · have na : a ∉ cc:=fun w=>by
        rcases List.mem_cons.mp w with w | w
        · rw [w,xR] at e; cases e
        · rw [(inT a w).1] at e; cases e
      exact HH a na o (s.r a o e)
    · cases z : c.R a with
      | none=>exact absurd z ha
      | some o =>
        have na : a ∉ cc:=fun w=>by
          rcases List.mem_cons.mp w with w | w
          · rw [w,xR] at z; cases z
          · rw [(inT a w).1] at z; cases z
        have nf : a ∉ fl:=fun w=>by rw [(h3 a (fls a w)).2] at z; cases z
        have e1 : c'.R a ≠ none:=by
          rw [show c'.R a = H a from U6 na,s.r a o z]
          simp
        show U8 S' fl a = _
        rw [U6 nf,s'.new a e1]
        show addF S H fl a = _
        rw [Ww nf]
        exact s.new a ha
    · obtain ⟨t1,t2,ps,t3,t4,t5⟩:=s'.tb p hp
      have nf : p.1 ∉ fl:=fun w=>ntt p.1 (fls _ w) (List.mem_map.mpr ⟨p,hp,rfl⟩)
      refine ⟨(s.tb p hp).1,?_,ps,t3,t4,fun pos cv hc=>?_⟩
      · show U8 S' fl p.1 = none
        rw [U6 nf]
        exact t2
      · obtain ⟨co,e1,e2⟩:=t5 pos cv hc
        refine ⟨co,e1,wol co _ e2 (fun _ e=>nomatch e)⟩
  refine ⟨c',S1,A.obj C [] :: ds.map A.v,hlm,rfl,s0,Same.refl S1,Same.refl S1,hpre,fun r zs v H' S' hpo hlz hr s'=>?_,fun Ce fs zs dd H' S' hex hlz s' hdx=>?_⟩
  · cases zs with
    | nil=>simp at hlz
    | cons y zs =>
      obtain ⟨e0,e1,e2,e3⟩:=hq r y zs hpo (by simpa [hdl] using hlz.symm)
      subst e0
      have rv:=s'.data
      simp only [Rep] at rv
      obtain ⟨S2,z⟩:=back e1 e2 s'.drop
      exact ⟨rv,kk _ _ ⟨S2,ρ,y,z,e3⟩⟩
  · cases zs with
    | nil=>simp at hlz
    | cons y zs =>
      obtain ⟨e1,e2,e4,e3⟩:=hx Ce fs y zs hex (by simpa [hdl] using hlz.symm)
      obtain ⟨S2,z⟩:=back e1 e4 s'
      refine hw S2 H' σ ρ Ce fs dd (Stt.drops (τ':=[]) (ts:=τ) (by simpa using z.drop)) ?_ e3
      rcases hdx with h | ⟨d,ws,h4,h5,h6⟩
      · exact .inl h
      · exact .inr ⟨d,ws,h4,h5,h6.sca e2⟩
def B1 (C : Addr) (sp : ASp) (dd : List D) (aa : AA) : AE:=fun EA ρ Q=>aa EA ρ fun xs ρ1=>mkL C sp (xs ++ dd.map A.v) EA ρ1 Q
theorem JG8 {P : Pm} {C : Addr} {sp : ASp} {dd : List D} {dvs : List V} {aa : AA} {ta : TA} (hd : Dfl K dd dvs) (h : Zn K P ta aa) : Yw K P (Qe C (lift K sp) dvs (fun σ cls d H=>P.W cls d σ H) ta) (B1 C sp dd aa):=fun c EA ho hw τ S H σ ρ Q R s q kk =>
  h c EA ho hw τ S H σ ρ _ _ s q fun vs H1 ⟨S1,ρ1,xs,hl,s1,q1⟩ xa dx hx hdx hne=>by
    have hdl : dvs.length = (dd.map A.v).length:=by rw [List.length_map]; exact (hd S1).len
    have hx2 : upd H1 dx (.own xa) xa = none:=by rw [upd_ne (Ne.symm hne)]; exact hx
    have s1' : Stt K c S1 (upd H1 dx (.own xa)) σ ρ1 (vs.zip xs ++ τ):=s1.beside hdx
    have s3 : Stt K c S1 (upd (upd H1 dx (.own xa)) xa (.ins C dx [])) σ ρ1 ((.ref xa,.obj C []) :: (vs.zip xs ++ τ)):=s1'.alloc hx2 rfl (by
      simp only [RepA,RepAF]
      exact ⟨xa,dx,[],[],rfl,upd_same,⟨rfl,rfl⟩,rfl⟩)
    have s2 : Stt K c S1 (upd (upd H1 dx (.own xa)) xa (.ins C dx [])) σ ρ1 ((V.ref xa,A.obj C []) :: ((vs ++ dvs).zip (xs ++ dd.map A.v) ++ τ)):=by
      rw [List.zip_append hl]
      have z:=Hm (hd S1) s3
      refine z.swap ?_
      rw [List.append_assoc]
      refine List.perm_middle.trans (List.Perm.cons _ ?_)
      rw [← List.append_assoc,← List.append_assoc]
      exact List.Perm.append_right _ List.perm_append_comm
    exact JGt hw (by simp [hl,hdl]) s2 q1 kk
theorem Mi {X : Cx} {P : Pm} {x : Str} {C : Addr} {k : Nat} {ps : List Str} {sp : ASp} {e : Expr} {es : List Expr} {aa : AA} {p pos : Pos} (F : CalK X.prog X.w X.K X.mg X.base x C k ps sp) (hr : Room (k + 1) X.A) (hg : Gl X x) (hx : ∀ σ,PassesAt (L2.CX X.prog X.w) X σ (fun cls d H=>P.W cls d σ H)) (ha : QA X P (e :: es) aa)
    (hdb : (x == ("__debug__" : Str)) = false:=by decide) (he : starEach (e :: es) X.env = (false,eval e X.env) :: starEach es X.env:=by rfl) (hpl : (backTo pos (starEach es X.env)).any (·.1) = false:=by rfl) :
    QE X P (.Call (.Name x p) (e :: es) [] pos) (B1 C sp [] aa):=let ⟨_,_,h1,h2,h3,h4⟩:=F.ex; let ⟨_,pa,sa⟩:=ha.ex; ⟨_,JKe h1 h4 hr hg h2 h3 .nil hx pa hdb he hpl,JG8 Hf sa⟩
theorem JB3 {C : Addr} {sp : ASp} {xs : List A} : CE (mkL C sp xs):=fun {ι} _ EA EA' ρ Q Q' h hx hq=>by
  obtain ⟨i,_⟩:=i0 (ι:=ι)
  obtain ⟨ds,e,hp,_,_⟩:=h i
  refine ⟨ds,e,hp,fun r y zs p l=>?_,fun C fs y zs p l=>?_⟩
  · have key : ∀ j,r = .v .non ∧ zs = ds.map A.v ∧ nlA y = true ∧ Q j y ρ:=fun j=>by
      obtain ⟨ds2,e2,_,q1,_⟩:=h j
      rw [e] at e2
      cases e2
      exact q1 r y zs p l
    exact ⟨(key i).1,(key i).2.1,(key i).2.2.1,hq _ _ fun j=>(key j).2.2.2⟩
  · have key : ∀ j,zs = ds.map A.v ∧ (fs.all fun p=>Zk p.2) = true ∧ nlA y = true ∧ EA j C fs ρ:=fun j=>by
      obtain ⟨ds2,e2,_,_,q1⟩:=h j
      rw [e] at e2
      cases e2
      exact q1 C fs y zs p l
    exact ⟨(key i).1,(key i).2.1,(key i).2.2.1,hx _ _ _ fun j=>(key j).2.2.2⟩
theorem Ma {C : Addr} {sp : ASp} {dd : List D} {al : AA} (hl : CA al) : CE (B1 C sp dd al):=fun h hx hq=>hl h hx fun xs ρ1 h1=>JB3 h1 hx hq
end
section
variable {EA : AX} {ρ : J0} {Q : AK} {S : ASp} {sp : ASp} {C : Addr} {dd : List D} {aa : AA} {xs : List A} {ds : List D}
theorem Ec (k : aa EA ρ fun xs ρ1=>mkL C sp (xs ++ dd.map A.v) EA ρ1 Q) : B1 C sp dd aa EA ρ Q:=k
theorem O1 {y : A} (hd : Ws xs ρ = some ds) (h : Mks S C (ds.map A.v) y) (hy : nlA y = true) (hq : Q y ρ) : mkL C S xs EA ρ Q :=
  ⟨ds,hd,h.pre,fun r z o p l=>by
    obtain ⟨h1,h2⟩:=h.po r _ p
    cases h2
    exact ⟨h1,rfl,hy,hq⟩,fun C fs y o p l=>(h.ex C fs _ p).elim⟩
theorem JLp {Ce : Addr} {fs : List (Str × D)} {y : A} (hd : Ws xs ρ = some ds) (h : Sat S (.obj C [] :: ds.map A.v) (fun _ _=>False) (fun C' fs' o=>C' = Ce ∧ fs' = fs ∧ o = y :: ds.map A.v)) (hy : nlA y = true) (hf : (fs.all fun p=>Zk p.2) = true) (hx : EA Ce fs ρ) : mkL C S xs EA ρ Q :=
  ⟨ds,hd,h.pre,fun r z o p l=>(h.po r _ p).elim,fun C fs y o p l=>by
    obtain ⟨rfl,rfl,h2⟩:=h.ex C fs _ p
    cases h2
    exact ⟨rfl,hf,hy,hx⟩⟩
theorem Pj {d : D} : Wp (.v d) ρ = some d:=rfl
theorem Q0 {xs : List D} : Wp (.lst xs) ρ = some (.lst xs):=rfl
theorem JKc {i : Nat} {p : List Stp} {w : V} {t n : A} {d : D} (h : ρ[i]? = some (some t)) (h1 : t.at p = some (.cel w n)) (hn : Xv n = true) (h2 : Yy n = some d) : Wp (.pth i p w) ρ = some d:=by
  simp only [Wp,Bw h h1,Option.bind_some,hn,if_true,h2]
theorem Pl : Ws [] ρ = some []:=rfl
theorem X2 {x : A} {xs : List A} {d : D} {ds : List D} (h1 : Wp x ρ = some d) (h2 : Ws xs ρ = some ds) : Ws (x :: xs) ρ = some (d :: ds):=by
  simp only [Ws,h1,Option.bind_some,h2,Option.map_some]
end
end Vs
namespace Vs
open PySem PySem.Spec PyProof.Rows L2
variable [Tbs]
section
variable {K : Fg} {x y : A} {ρ : J0} {Q : AK}
/-- text > text -/
def Kw : AR2:=fun x y ρ Q=>∃ a b : Str,dat x ρ = some (.str a) ∧ dat y ρ = some (.str b) ∧ Q (.v (.bl (decide (b.cps.toList < a.cps.toList)))) ρ
theorem JXn : Yj K (fun x y H Q=>∃ i j,x = .str i ∧ y = .str j ∧ Q (.bl (decide (j.cps.toList < i.cps.toList))) H) Kw:=by
  intro c τ S H σ ρ vx vy x y Q R s q k
  obtain ⟨a,b,h1,h2,q⟩:=q
  have r2:=s.dat (List.mem_cons_self ..) h2
  have r1:=s.dat (List.mem_cons_of_mem _ (List.mem_cons_self ..)) h1
  simp only [Rep] at r1 r2
  exact ⟨a,b,r1,r2,k _ _ (KE.sc s.drop.drop rfl q)⟩
theorem Sl {a b : Str} (h1 : dat x ρ = some (.str a)) (h2 : dat y ρ = some (.str b)) (k : Q (.v (.bl (decide (b.cps.toList < a.cps.toList)))) ρ) : Kw x y ρ Q:=⟨a,b,h1,h2,k⟩
theorem JH3 : C2 Kw:=fun {ι} _ x y ρ Q Q' h k=>by
  obtain ⟨i,_⟩:=i0 (ι:=ι)
  obtain ⟨a,b,h1,h2,_⟩:=h i
  refine ⟨a,b,h1,h2,k _ _ fun i=>?_⟩
  obtain ⟨a',b',g1,g2,q⟩:=h i
  rw [h1] at g1; cases g1
  rw [h2] at g2; cases g2
  exact q
end
end Vs
namespace Vs
open PySem PySem.Spec PyProof.Rows L2
variable [Tbs]
def Fo : AR2:=fun x y ρ Q=>aEq x y ρ Q ∨ Bo x y ρ Q
section
variable {K : Fg} {X : Cx}
theorem JBf {r r' : R2} (h : Yj K r aEq) (h' : Yj K r' Bo) : Yj K (fun x y H Q=>r x y H Q ∨ r' x y H Q) Fo:=by
  intro c τ S H σ ρ vx vy x y Q R s q k
  rcases q with q | q
  · exact .inl (h c τ S H σ ρ vx vy x y Q R s q k)
  · exact .inr (h' c τ S H σ ρ vx vy x y Q R s q k)
theorem JHc {ρ : J0} {Q : AK} {x y : A} (h : aEq x y ρ Q) : Fo x y ρ Q:=.inl h
theorem JG1 {ρ : J0} {Q : AK} {x y : A} (h : Bo x y ρ Q) : Fo x y ρ Q:=.inr h
theorem JBy : C2 Fo:=fun {ι} _ x y ρ Q Q' h k=>by
  obtain ⟨i,_⟩:=i0 (ι:=ι)
  rcases h i with h1 | h1
  · obtain ⟨d,e,h1,h2,h3,h4,_⟩:=h1
    refine .inl ⟨d,e,h1,h2,h3,h4,k _ _ fun i=>?_⟩
    rcases h i with g | g
    · obtain ⟨d',e',g1,g2,_,_,q⟩:=g
      rw [h1] at g1; cases g1
      rw [h2] at g2; cases g2
      exact q
    · obtain ⟨ks,ls,g1,g2,_⟩:=g
      rw [h1] at g1; cases g1
      simp only [PlD] at h3
  · obtain ⟨ks,ls,h1,h2,h3,h4,h5,_⟩:=h1
    refine .inr ⟨ks,ls,h1,h2,h3,h4,h5,k _ _ fun i=>?_⟩
    rcases h i with g | g
    · obtain ⟨d',e',g1,g2,g3,_,q⟩:=g
      rw [h1] at g1; cases g1
      simp only [PlD] at g3
    · obtain ⟨ks',ls',g1,g2,_,_,_,q⟩:=g
      rw [h1] at g1; cases g1
      rw [h2] at g2; cases g2
      exact q
end
end Vs
set_option maxHeartbeats 0
namespace Law
open PySem PySem.Spec PyProof.Rows L2 Vs
variable [Tbs]
def T_FIELDS : List (Str × List D):=[(("row" : Str),[.str ("id" : Str),.str ("stream" : Str),.str ("key" : Str),.str ("moment" : Str),.str ("amount" : Str),.str ("arrival" : Str)]),(("fix" : Str),[.str ("id" : Str),.str ("moment" : Str),.str ("amount" : Str),.str ("arrival" : Str)]),(("gone" : Str),[.str ("id" : Str),.str ("arrival" : Str)])]
def asZ0k (K : Fg) : AS:=Yc (aUn (Uw K [(.type "list"),(.type "tuple")]) (J7 0))
theorem cjZ0k {K : Fg} : CS (asZ0k K):=(Yk (V7 Vr J8))
def rsZ03n2 (K : Fg) : AS:=Jd [] (Yc (aCB F3 (J2 (aLc (Vj (J7 0)) (Ui 1) (B0) (Xc aLe aLe (aC (.int 32)) (aCB M3 (J2 (J7 1) (J9))) (aC (.int 126))) [1]) (J9))))
theorem cjrsZ03n2 {K : Fg} : CS (rsZ03n2 K):=(Jf (Yk (Yh O9 (J3 (F7 (W8 J8) Uz Lx (P0 Ff Ff J5 (Yh JHh (J3 J8 Jb)) J5)) Jb))))
def asZ03 (K : Fg) : AS:=Jm (Yq (Uv (Uj (Y5 (aUn (Uw K [(.type "str")]) (J7 0)))) (Uj (Y5 (Xc aLe aLe (aC (.int 1)) (aCB Uk (J2 (J7 0) (J9))) (aC (.int 6)))))) (Jd [] (Yc (aC (.bl false)))) (Yt)) (rsZ03n2 K)
theorem cjZ03 {K : Fg} : CS (asZ03 K):=(Jq (U0 (Vm (V6 (Y6 (V7 Vr J8))) (V6 (Y6 (P0 Ff Ff J5 (Yh V4 (J3 J8 Jb)) J5)))) (Jf (Yk J5)) U2) cjrsZ03n2)
def asZ06 (K : Fg) (J1 : Addr) : AS:=Yc (Zm (aUn (Uw K [(.ref J1)]) (J7 1)) (aOp Bo (aUn (Fk J1 ("_shapes" : Str)) (J7 0)) (aUn (Fk J1 ("_shapes" : Str)) (J7 1))))
theorem cjZ06 {K : Fg} {J1 : Addr} : CS (asZ06 K J1):=(Yk (Gw (V7 Vr J8) (Ja JLe (V7 N9 J8) (V7 N9 J8))))
def rsZ08n3 : AS:=Jd [] (Yc (Uc (J2 (J7 2) (J2 (aCB Wz (J2 (aOp aGe (J7 2) (aOp M5 (aC (.int 10)) (aC (.int 18)))) (J9))) (J2 (aOp Xl (aC (.int 1000)) (J7 1)) (J9))))))
theorem cjrsZ08n3 : CS (rsZ08n3):=(Jf (Yk (Um (J3 J8 (J3 (Yh Bg (J3 (Ja JM1 J8 (Ja JZp J5 J5)) Jb)) (J3 (Ja Gh J5 J8) Jb))))))
def rsZ08n2 : AS:=Jm (Jd [] (Yq (Y5 (aOp aLt (J7 1) (aCB Uk (J2 (J7 0) (J9))))) (Jd [2] (Ye 2 (aCB Lm (J2 (aOp aIx (J7 0) (J7 1)) (J9))))) (Yt))) (rsZ08n3)
theorem cjrsZ08n2 : CS (rsZ08n2):=(Jq (Jf (U0 (Y6 (Ja Fc J8 (Yh V4 (J3 J8 Jb)))) (Jf (Yl (Yh JZg (J3 (Ja Yf J8 J8) Jb)))) U2)) cjrsZ08n3)
def asZ08 : AS:=Jm (Ye 2 (aC (.int 0))) (rsZ08n2)
theorem cjZ08 : CS (asZ08):=(Jq (Yl J5) cjrsZ08n2)
def rsZ0en6 : AS:=Jd [] (Yc (aOp X4 (aCB Wz (J2 (aOp Xz (J7 3) (aC (.int 16))) (J9))) (J7 1)))
theorem cjrsZ0en6 : CS (rsZ0en6):=(Jf (Yk (Ja Gu (Yh Bg (J3 (Ja Ho J8 J5) Jb)) J8)))
def rsZ0en5 : AS:=Jm (Jd [] (Ye 3 (aOp X4 (aCB Wz (J2 (aOp Xl (J7 3) (aOp Uu (aOp Xz (J7 3) (aC (.int 2003))) (aC (.int 40692)))) (J9))) (aC (.int 2147483399))))) (rsZ0en6)
theorem cjrsZ0en5 : CS (rsZ0en5):=(Jq (Jf (Yl (Ja Gu (Yh Bg (J3 (Ja Gh J8 (Ja Ve (Ja Ho J8 J5) J5)) Jb)) J5))) cjrsZ0en6)
def rsZ0en4 : AS:=Jm (Jd [] (Ye 3 (aOp X4 (aCB Wz (J2 (aOp Xl (J7 3) (aOp Uu (aOp Xz (J7 3) (aC (.int 1009))) (aC (.int 69621)))) (J9))) (aC (.int 2147483647))))) (rsZ0en5)
theorem cjrsZ0en4 : CS (rsZ0en4):=(Jq (Jf (Yl (Ja Gu (Yh Bg (J3 (Ja Gh J8 (Ja Ve (Ja Ho J8 J5) J5)) Jb)) J5))) cjrsZ0en5)
def rsZ0en3 : AS:=Jm (Jd [2] (Ye 3 (aOp X4 (aCB Wz (J2 (aOp Xl (aOp Uu (aOp Uu (aOp aIx (Jl 0) (aC (.int 0))) (aOp Xl (aC (.int 7919)) (aOp aIx (Jl 0) (aC (.int 2))))) (aC (.int 1))) (aC (.int 48271))) (J9))) (aC (.int 2147483647))))) (rsZ0en4)
theorem cjrsZ0en3 : CS (rsZ0en3):=(Jq (Jf (Yl (Ja Gu (Yh Bg (J3 (Ja Gh (Ja Ve (Ja Ve (Ja Yf Jo J5) (Ja Gh J5 (Ja Yf Jo J5))) J5) J5) Jb)) J5))) cjrsZ0en4)
def rsZ0en2 : AS:=Jm (Jd [] (Yq (Zv (Y5 (aOp aEq (aOp aIx (Jl 0) (aC (.int 1))) (aC (.int 1)))) (Y5 (aOp aGt (aOp aIx (Jl 0) (aC (.int 0))) (aC (.int 0))))) (Jm (Jd [] (Ye 2 (aOp X4 (aCB Wz (J2 (aOp aIx (Jl 0) (aC (.int 0))) (J9))) (J7 1))))
  (Jm (Jd [] (Xf (aOp Xz (aCB Wz (J2 (aOp aIx (Jl 0) (aC (.int 0))) (J9))) (J7 1)) (Jl 0) (aC (.int 0))))
  (Jd [] (Yc (J7 2))))) (Yt))) (rsZ0en3)
theorem cjrsZ0en2 : CS (rsZ0en2):=(Jq (Jf (U0 (Gq (Y6 (Ja Vg (Ja Yf Jo J5) J5)) (Y6 (Ja L8 (Ja Yf Jo J5) J5))) (Jq (Jf (Yl (Ja Gu (Yh Bg (J3 (Ja Yf Jo J5) Jb)) J8))) (Jq (Jf (Hj (Ja Ho (Yh Bg (J3 (Ja Yf Jo J5) Jb)) J8) Jo J5)) (Jf (Yk J8)))) U2)) cjrsZ0en3)
def asZ0e : AS:=Jm (Xf (aOp Uu (aOp aIx (Jl 0) (aC (.int 2))) (aC (.int 1))) (Jl 0) (aC (.int 2))) (rsZ0en2)
theorem cjZ0e : CS (asZ0e):=(Jq (Hj (Ja Ve (Ja Yf Jo J5) J5) Jo J5) cjrsZ0en2)
def rsZ07n3 : AS:=Jd [] (Yc (Uc (J2 (aC (.str ("id" : Str))) (J2 (aC (.str ("arrival" : Str))) (J9)))))
theorem cjrsZ07n3 : CS (rsZ07n3):=(Jf (Yk (Um (J3 J5 (J3 J5 Jb)))))
def rsZ07n2 : AS:=Jm (Jd [] (Yq (Y5 (aOp aEq (J7 0) (aC (.str ("fix" : Str))))) (Jd [] (Yc (Uc (J2 (aC (.str ("id" : Str))) (J2 (aC (.str ("moment" : Str))) (J2 (aC (.str ("amount" : Str))) (J2 (aC (.str ("arrival" : Str))) (J9)))))))) (Yt))) (rsZ07n3)
theorem cjrsZ07n2 : CS (rsZ07n2):=(Jq (Jf (U0 (Y6 (Ja Vg J8 J5)) (Jf (Yk (Um (J3 J5 (J3 J5 (J3 J5 (J3 J5 Jb))))))) U2)) cjrsZ07n3)
def asZ07 : AS:=Jm (Yq (Y5 (aOp aEq (J7 0) (aC (.str ("row" : Str))))) (Jd [] (Yc (Uc (J2 (aC (.str ("id" : Str))) (J2 (aC (.str ("stream" : Str))) (J2 (aC (.str ("key" : Str))) (J2 (aC (.str ("moment" : Str))) (J2 (aC (.str ("amount" : Str))) (J2 (aC (.str ("arrival" : Str))) (J9)))))))))) (Yt)) (rsZ07n2)
theorem cjZ07 : CS (asZ07):=(Jq (U0 (Y6 (Ja Vg J8 J5)) (Jf (Yk (Um (J3 J5 (J3 J5 (J3 J5 (J3 J5 (J3 J5 (J3 J5 Jb))))))))) U2) cjrsZ07n2)
def rsZ0cn2 : AS:=Jd [] (Yc (aOp Uu (J7 0) (aC (.str ("[\\]^_`abcdefghijklmnopqrstuvwxyz{|}~" : Str)))))
theorem cjrsZ0cn2 : CS (rsZ0cn2):=(Jf (Yk (Ja Ve J8 J5)))
def asZ0c : AS:=Jm (Ye 0 (aC (.str (" !\"#$&'()*+,-./0123456789:;<=>?@ABCDEFGHIJKLMNOPQRSTUVWXYZ" : Str)))) (rsZ0cn2)
theorem cjZ0c : CS (asZ0c):=(Jq (Yl J5) cjrsZ0cn2)
def rsZ02n2 (K : Fg) : AS:=Jd [] (Yc (aOp aEq (aCB Uk (J2 (aLc (Vj (J7 0)) (Ui 1) (Uv (Y5 (aOp Hx (J7 1) (aC (.str (" " : Str))))) (Y5 (aOp Kw (J7 1) (aC (.str ("~" : Str)))))) (J7 1) [1]) (J9))) (aC (.int 0))))
theorem cjrsZ02n2 {K : Fg} : CS (rsZ02n2 K):=(Jf (Yk (Ja Vg (Yh V4 (J3 (F7 (W8 J8) Uz (Vm (Y6 (Ja JXh J8 J5)) (Y6 (Ja JH3 J8 J5))) J8) Jb)) J5)))
def asZ02 (K : Fg) : AS:=Jm (Yq (Uv (Uj (Y5 (aUn (Uw K [(.type "str")]) (J7 0)))) (Uv (Y5 (aOp aLt (aCB Uk (J2 (J7 0) (J9))) (aC (.int 1)))) (Y5 (aOp aGt (aCB Uk (J2 (J7 0) (J9))) (aC (.int 6)))))) (Jd [] (Yc (aC (.bl false)))) (Yt)) (rsZ02n2 K)
theorem cjZ02 {K : Fg} : CS (asZ02 K):=(Jq (U0 (Vm (V6 (Y6 (V7 Vr J8))) (Vm (Y6 (Ja Fc (Yh V4 (J3 J8 Jb)) J5)) (Y6 (Ja L8 (Yh V4 (J3 J8 Jb)) J5)))) (Jf (Yk J5)) U2) cjrsZ02n2)
def rsZ0jn3 (K : Fg) (spZ03 : ASp) : AS:=Jd [] (Yc (Zm (aOp aEq (aOp aIx (J7 0) (aC (.int 0))) (aC (.str ("field" : Str)))) (Zm (aUn (Uw K [(.type "str")]) (aOp aIx (J7 0) (aC (.int 1)))) (aOp (aIn false) (aOp aIx (J7 0) (aC (.int 1))) (J7 1)))))
theorem cjrsZ0jn3 {K : Fg} {spZ03 : ASp} : CS (rsZ0jn3 K spZ03):=(Jf (Yk (Gw (Ja Vg (Ja Yf J8 J5) J5) (Gw (V7 Vr (Ja Yf J8 J5)) (Ja Ob (Ja Yf J8 J5) J8)))))
def rsZ0jn2 (K : Fg) (spZ03 : ASp) : AS:=Jm (Jd [] (Yq (Y5 (aOp aEq (aOp aIx (J7 0) (aC (.int 0))) (aC (.str ("mark" : Str))))) (Jd [] (Yc (Ym spZ03 [] (J2 (aOp aIx (J7 0) (aC (.int 1))) (J9))))) (Yt))) (rsZ0jn3 K spZ03)
theorem cjrsZ0jn2 {K : Fg} {spZ03 : ASp} : CS (rsZ0jn2 K spZ03):=(Jq (Jf (U0 (Y6 (Ja Vg (Ja Yf J8 J5) J5)) (Jf (Yk (Yx (J3 (Ja Yf J8 J5) Jb)))) U2)) cjrsZ0jn3)
def asZ0j (K : Fg) (spZ03 : ASp) : AS:=Jm (Yq (Uv (Uj (Y5 (aUn (Uw K [(.type "tuple")]) (J7 0)))) (Uv (Y5 (aOp aNe (aCB Uk (J2 (J7 0) (J9))) (aC (.int 2)))) (Uj (Y5 (aUn (Uw K [(.type "str")]) (aOp aIx (J7 0) (aC (.int 0)))))))) (Jd [] (Yc (aC (.bl false)))) (Yt)) (rsZ0jn2 K spZ03)
theorem cjZ0j {K : Fg} {spZ03 : ASp} : CS (asZ0j K spZ03):=(Jq (U0 (Vm (V6 (Y6 (V7 Vr J8))) (Vm (Y6 (Ja Fy (Yh V4 (J3 J8 Jb)) J5)) (V6 (Y6 (V7 Vr (Ja Yf J8 J5)))))) (Jf (Yk J5)) U2) cjrsZ0jn2)
def bdZ0bn1 (spZ0e : ASp) : AS:=Z4 [3] (Jd [] (Wo (Hg (Jl 2) (Ym spZ0e [] (J2 (Jl 0) (J2 (aOp Uu (aCB Uk (J2 (Jl 2) (J9))) (aC (.int 1))) (J9)))) (J7 3))))
theorem cjbdZ0bn1 {spZ0e : ASp} : CS (bdZ0bn1 spZ0e):=(Xj (Jf (X1 (JYn Jo (Yx (J3 Jo (J3 (Ja Ve (Yh V4 (J3 Jo Jb)) J5) Jb))) J8))))
def rsZ0bn3 (spZ0e : ASp) : AS:=Jd [] (Yc (Jl 2))
theorem cjrsZ0bn3 {spZ0e : ASp} : CS (rsZ0bn3 spZ0e):=(Jf (Yk Jo))
def rsZ0bn2 (spZ0e : ASp) : AS:=Jm (Jd [] (Wq (Vj (J7 1)) (Ui 3) (bdZ0bn1 spZ0e))) (rsZ0bn3 spZ0e)
theorem cjrsZ0bn2 {spZ0e : ASp} : CS (rsZ0bn2 spZ0e):=(Jq (Jf (Zd (W8 J8) Uz cjbdZ0bn1)) cjrsZ0bn3)
def asZ0b (spZ0e : ASp) : AS:=Jm (Ye 2 (Uc (J9))) (rsZ0bn2 spZ0e)
theorem cjZ0b {spZ0e : ASp} : CS (asZ0b spZ0e):=(Jq (Yl (Um Jb)) cjrsZ0bn2)
def bdZ0dn1 (spZ0e : ASp) : AS:=Jd [4] (Ye 3 (Vk (aOp Uu (J7 3) (aOp aIx (J7 1) (Ym spZ0e [] (J2 (Jl 0) (J2 (aCB Uk (J2 (J7 1) (J9))) (J9))))))))
theorem cjbdZ0dn1 {spZ0e : ASp} : CS (bdZ0dn1 spZ0e):=(Jf (Yl (Wc (Ja Ve J8 (Ja Yf J8 (Yx (J3 Jo (J3 (Yh V4 (J3 J8 Jb)) Jb))))))))
def rsZ0dn3 (spZ0e : ASp) : AS:=Jd [] (Yc (J7 3))
theorem cjrsZ0dn3 {spZ0e : ASp} : CS (rsZ0dn3 spZ0e):=(Jf (Yk J8))
def rsZ0dn2 (spZ0e : ASp) : AS:=Jm (Jd [] (Wq (H6 (J2 (aOp Uu (aC (.int 1)) (Ym spZ0e [] (J2 (Jl 0) (J2 (J7 2) (J9))))) (J9))) (Ui 4) (bdZ0dn1 spZ0e))) (rsZ0dn3 spZ0e)
theorem cjrsZ0dn2 {spZ0e : ASp} : CS (rsZ0dn2 spZ0e):=(Jq (Jf (Zd (Ak (J3 (Ja Ve J5 (Yx (J3 Jo (J3 J8 Jb)))) Jb)) Uz cjbdZ0dn1)) cjrsZ0dn3)
def asZ0d (spZ0e : ASp) : AS:=Jm (Ye 3 (aC (.str ("" : Str)))) (rsZ0dn2 spZ0e)
theorem cjZ0d {spZ0e : ASp} : CS (asZ0d spZ0e):=(Jq (Yl J5) cjrsZ0dn2)
def rsZ0hn4 (spZ0e : ASp) : AS:=Jd [] (Yc (aOp aIx (J7 1) (Ym spZ0e [] (J2 (Jl 0) (J2 (aC (.int 22)) (J9))))))
theorem cjrsZ0hn4 {spZ0e : ASp} : CS (rsZ0hn4 spZ0e):=(Jf (Yk (Ja Yf J8 (Yx (J3 Jo (J3 J5 Jb))))))
def rsZ0hn3 (spZ0e : ASp) : AS:=Jm (Jd [] (Ye 1 (Vk (aOp Uu (J7 1) (Uc (J2 (U7 (J2 (aC .non) (J2 (aC (.str ("a" : Str))) (J9)))) (J2 (Hi [(aC (.str ("mark" : Str)),aC (.str ("a" : Str)))]) (J2 (U7 (J2 (aC (.str ("field" : Str))) (J2 (aC (.str ("stream" : Str))) (J9)))) (J2 (U7 (J2 (aC (.str ("field" : Str))) (J2 (aC (.str ("id" : Str))) (J9)))) (J2 (U7 (J2 (aC (.str ("mark" : Str))) (J2 (aC .non) (J9)))) (J2 (U7 (J2 (aC (.str ("mark" : Str))) (J2 (aC (.str ("\t" : Str))) (J9)))) (J9)))))))))))) (rsZ0hn4 spZ0e)
theorem cjrsZ0hn3 {spZ0e : ASp} : CS (rsZ0hn3 spZ0e):=(Jq (Jf (Yl (Wc (Ja Ve J8 (Um (J3 (Ue (J3 J5 (J3 J5 Jb))) (J3 (Rj (Ky J5 J5 JJq)) (J3 (Ue (J3 J5 (J3 J5 Jb))) (J3 (Ue (J3 J5 (J3 J5 Jb))) (J3 (Ue (J3 J5 (J3 J5 Jb))) (J3 (Ue (J3 J5 (J3 J5 Jb))) Jb))))))))))) cjrsZ0hn4)
def rsZ0hn2 (spZ0e : ASp) : AS:=Jm (Jd [] (Ye 1 (Vk (aOp Uu (J7 1) (Uc (J2 (Uc (J2 (aC (.str ("mark" : Str))) (J2 (aC (.str ("a" : Str))) (J9)))) (J2 (U7 (J2 (aC (.str ("mark" : Str))) (J2 (aC (.str ("a" : Str))) (J2 (aC (.str ("b" : Str))) (J9))))) (J2 (U7 (J2 (aC (.str ("field" : Str))) (J2 (aC .non) (J9)))) (J2 (U7 (J2 (aC (.str ("field" : Str))) (J2 (Uc (J2 (aC (.str ("id" : Str))) (J9))) (J9)))) (J2 (U7 (J2 (aC (.str ("field" : Str))) (J9))) (J2 (U7 (J9)) (J2 (U7 (J2 (aC (.str ("Mark" : Str))) (J2 (aC (.str ("a" : Str))) (J9)))) (J9))))))))))))) (rsZ0hn3 spZ0e)
theorem cjrsZ0hn2 {spZ0e : ASp} : CS (rsZ0hn2 spZ0e):=(Jq (Jf (Yl (Wc (Ja Ve J8 (Um (J3 (Um (J3 J5 (J3 J5 Jb))) (J3 (Ue (J3 J5 (J3 J5 (J3 J5 Jb)))) (J3 (Ue (J3 J5 (J3 J5 Jb))) (J3 (Ue (J3 J5 (J3 (Um (J3 J5 Jb)) Jb))) (J3 (Ue (J3 J5 Jb)) (J3 (Ue Jb) (J3 (Ue (J3 J5 (J3 J5 Jb))) Jb)))))))))))) cjrsZ0hn3)
def asZ0h (spZ0e : ASp) : AS:=Jm (Ye 1 (Vk (Uc (J2 (aC .non) (J2 (aC (.bl true)) (J2 (aC (.int 3)) (J2 (aC (.str ("id" : Str))) (J2 (U7 (J2 (aC (.str ("field" : Str))) (J2 (aC (.str ("when" : Str))) (J9)))) (J2 (U7 (J2 (aC (.str ("mark" : Str))) (J2 (aC (.str ("" : Str))) (J9)))) (J2 (U7 (J2 (aC (.str ("mark" : Str))) (J2 (aC (.str ("aaaaaaa" : Str))) (J9)))) (J2 (U7 (J2 (aC (.str ("mark" : Str))) (J2 (aC (.str ("a\n" : Str))) (J9)))) (J2 (U7 (J2 (aC (.str ("mark" : Str))) (J2 (aC (.int 5)) (J9)))) (J9))))))))))))) (rsZ0hn2 spZ0e)
theorem cjZ0h {spZ0e : ASp} : CS (asZ0h spZ0e):=(Jq (Yl (Wc (Um (J3 J5 (J3 J5 (J3 J5 (J3 J5 (J3 (Ue (J3 J5 (J3 J5 Jb))) (J3 (Ue (J3 J5 (J3 J5 Jb))) (J3 (Ue (J3 J5 (J3 J5 Jb))) (J3 (Ue (J3 J5 (J3 J5 Jb))) (J3 (Ue (J3 J5 (J3 J5 Jb))) Jb)))))))))))) cjrsZ0hn2)
def bdZ01n1 (K : Fg) (spZ07 spZ02 : ASp) : AS:=Z4 [3] (Jm (Jd [] (Yq (Uv (Uj (Y5 (aUn (Uw K [(.type "tuple")]) (J7 3)))) (Uv (Y5 (aOp aNe (aCB Uk (J2 (J7 3) (J9))) (aC (.int 2)))) (Uj (Y5 (aUn (Uw K [(.type "str")]) (aOp aIx (J7 3) (aC (.int 0)))))))) (Jd [2,3] (Yc (aC (.bl false)))) (Yt)))
  (Jd [] (Yq (Zv (Y5 (aOp aEq (aOp aIx (J7 3) (aC (.int 0))) (aC (.str ("field" : Str))))) (Zv (Y5 (aUn (Uw K [(.type "str")]) (aOp aIx (J7 3) (aC (.int 1))))) (Y5 (aOp (aIn false) (aOp aIx (J7 3) (aC (.int 1))) (Jl 2))))) (Jd [] (Wo (Hy (Jl 2) (aOp aIx (J7 3) (aC (.int 1)))))) (Jd [] (Yq (Uv (Y5 (aOp aNe (aOp aIx (J7 3) (aC (.int 0))) (aC (.str ("mark" : Str))))) (Uj (Y5 (Ym spZ02 [] (J2 (aOp aIx (J7 3) (aC (.int 1))) (J9)))))) (Jd [2,3] (Yc (aC (.bl false)))) (Yt))))))
theorem cjbdZ01n1 {K : Fg} {spZ07 spZ02 : ASp} : CS (bdZ01n1 K spZ07 spZ02):=(Xj (Jq (Jf (U0 (Vm (V6 (Y6 (V7 Vr J8))) (Vm (Y6 (Ja Fy (Yh V4 (J3 J8 Jb)) J5)) (V6 (Y6 (V7 Vr (Ja Yf J8 J5)))))) (Jf (Yk J5)) U2)) (Jf (U0 (Gq (Y6 (Ja Vg (Ja Yf J8 J5) J5)) (Gq (Y6 (V7 Vr (Ja Yf J8 J5))) (Y6 (Ja Ob (Ja Yf J8 J5) Jo)))) (Jf (X1 (JBo Jo (Ja Yf J8 J5)))) (Jf (U0 (Vm (Y6 (Ja Fy (Ja Yf J8 J5) J5)) (V6 (Y6 (Yx (J3 (Ja Yf J8 J5) Jb))))) (Jf (Yk J5)) U2))))))
def rsZ01n4 (K : Fg) (spZ07 spZ02 : ASp) : AS:=Jd [] (Yc (aOp aEq (aCB Uk (J2 (Jl 2) (J9))) (aC (.int 0))))
theorem cjrsZ01n4 {K : Fg} {spZ07 spZ02 : ASp} : CS (rsZ01n4 K spZ07 spZ02):=(Jf (Yk (Ja Vg (Yh V4 (J3 Jo Jb)) J5)))
def rsZ01n3 (K : Fg) (spZ07 spZ02 : ASp) : AS:=Jm (Jd [] (Wq (Vj (J7 0)) (Ui 3) (bdZ01n1 K spZ07 spZ02))) (rsZ01n4 K spZ07 spZ02)
theorem cjrsZ01n3 {K : Fg} {spZ07 spZ02 : ASp} : CS (rsZ01n3 K spZ07 spZ02):=(Jq (Jf (Zd (W8 J8) Uz cjbdZ01n1)) cjrsZ01n4)
def rsZ01n2 (K : Fg) (spZ07 spZ02 : ASp) : AS:=Jm (Jd [] (Ye 2 (Ym spZ07 [] (J2 (J7 1) (J9))))) (rsZ01n3 K spZ07 spZ02)
theorem cjrsZ01n2 {K : Fg} {spZ07 spZ02 : ASp} : CS (rsZ01n2 K spZ07 spZ02):=(Jq (Jf (Yl (Yx (J3 J8 Jb)))) cjrsZ01n3)
def asZ01 (K : Fg) (spZ07 spZ02 : ASp) : AS:=Jm (Yq (Uv (Uj (Y5 (aUn (Uw K [(.type "list"),(.type "tuple")]) (J7 0)))) (Uv (Y5 (aOp aLt (aCB Uk (J2 (J7 0) (J9))) (aC (.int 1)))) (Y5 (aOp aGt (aCB Uk (J2 (J7 0) (J9))) (aC (.int 15)))))) (Jd [] (Yc (aC (.bl false)))) (Yt)) (rsZ01n2 K spZ07 spZ02)
theorem cjZ01 {K : Fg} {spZ07 spZ02 : ASp} : CS (asZ01 K spZ07 spZ02):=(Jq (U0 (Vm (V6 (Y6 (V7 Vr J8))) (Vm (Y6 (Ja Fc (Yh V4 (J3 J8 Jb)) J5)) (Y6 (Ja L8 (Yh V4 (J3 J8 Jb)) J5)))) (Jf (Yk J5)) U2) cjrsZ01n2)
def rsZ0in3 (spZ0k spZ0j : ASp) : AS:=Jd [] (Yc (aOp aEq (aCB K1 (J2 (aLc (Vj (J7 0)) (Ha 2 (Xe (Ui 3) (Xe (Ui 4) (G2)))) (Y5 (aOp aEq (J7 3) (aC (.str ("field" : Str))))) (J7 4) [3,4]) (J9))) (aCB La (J2 (J7 1) (J9)))))
theorem cjrsZ0in3 {spZ0k spZ0j : ASp} : CS (rsZ0in3 spZ0k spZ0j):=(Jf (Yk (Ja Vg (Yh JFd (J3 (F7 (W8 J8) (Dd (Gc Uz (Gc Uz JYk))) (Y6 (Ja Vg J8 J5)) J8) Jb)) (Yh JXv (J3 J8 Jb)))))
def rsZ0in2 (spZ0k spZ0j : ASp) : AS:=Jm (Jd [] (Yq (Uj (Y5 (aCB F3 (J2 (aLc (Vj (J7 0)) (Ui 2) (B0) (Ym spZ0j [] (J2 (J7 2) (J2 (J7 1) (J9)))) [2]) (J9))))) (Jd [] (Yc (aC (.bl false)))) (Yt))) (rsZ0in3 spZ0k spZ0j)
theorem cjrsZ0in2 {spZ0k spZ0j : ASp} : CS (rsZ0in2 spZ0k spZ0j):=(Jq (Jf (U0 (V6 (Y6 (Yh O9 (J3 (F7 (W8 J8) Uz Lx (Yx (J3 J8 (J3 J8 Jb)))) Jb)))) (Jf (Yk J5)) U2)) cjrsZ0in3)
def asZ0i (spZ0k spZ0j : ASp) : AS:=Jm (Yq (Uv (Uj (Y5 (Ym spZ0k [] (J2 (J7 0) (J9))))) (Uj (Y5 (Xc aLe aLe (aC (.int 1)) (aCB Uk (J2 (J7 0) (J9))) (aC (.int 15)))))) (Jd [] (Yc (aC (.bl false)))) (Yt)) (rsZ0in2 spZ0k spZ0j)
theorem cjZ0i {spZ0k spZ0j : ASp} : CS (asZ0i spZ0k spZ0j):=(Jq (U0 (Vm (V6 (Y6 (Yx (J3 J8 Jb)))) (V6 (Y6 (P0 Ff Ff J5 (Yh V4 (J3 J8 Jb)) J5)))) (Jf (Yk J5)) U2) cjrsZ0in2)
def rsZ0an2 (K : Fg) (J1 Jk : Addr) : AS:=Jd [] (Yc (aOp aIx (aUn (Fk J1 ("_shapes" : Str)) (J7 0)) (J7 1)))
theorem cjrsZ0an2 {K : Fg} {J1 Jk : Addr} : CS (rsZ0an2 K J1 Jk):=(Jf (Yk (Ja Yf (V7 N9 J8) J8)))
def asZ0a (K : Fg) (J1 Jk : Addr) : AS:=Jm (Yq (Uv (Uj (Y5 (aUn (Uw K [(.type "str")]) (J7 1)))) (Y5 (aOp (aIn true) (J7 1) (aC (.tup [.str ("row" : Str),.str ("fix" : Str),.str ("gone" : Str)]))))) (Jd [] (Gi Jk ("value" : Str) (J7 1))) (Yt)) (rsZ0an2 K J1 Jk)
theorem cjZ0a {K : Fg} {J1 Jk : Addr} : CS (asZ0a K J1 Jk):=(Jq (U0 (Vm (V6 (Y6 (V7 Vr J8))) (Y6 (Ja Ob J8 J5))) (Jf (JU4 J8)) U2) cjrsZ0an2)
def bdZ09n1 (spZ0b spZ07 spZ0e spZ0d : ASp) : AS:=Z4 [6] (Jm (Jd [] (Yq (Y5 (aOp aLt (Ym spZ0e [] (J2 (Jl 0) (J2 (aC (.int 4)) (J9)))) (J7 3))) (Jd [] (Wo (Fe (Jl 5) (U7 (J2 (aC (.str ("mark" : Str))) (J2 (Ym spZ0d [] (J2 (Jl 0) (J2 (J7 2) (J2 (J7 4) (J9))))) (J9))))))) (Yt)))
  (Jd [] (Wo (Fe (Jl 5) (U7 (J2 (aC (.str ("field" : Str))) (J2 (J7 6) (J9))))))))
theorem cjbdZ09n1 {spZ0b spZ07 spZ0e spZ0d : ASp} : CS (bdZ09n1 spZ0b spZ07 spZ0e spZ0d):=(Xj (Jq (Jf (U0 (Y6 (Ja Fc (Yx (J3 Jo (J3 J5 Jb))) J8)) (Jf (X1 (Pt Jo (Ue (J3 J5 (J3 (Yx (J3 Jo (J3 J8 (J3 J8 Jb)))) Jb)))))) U2)) (Jf (X1 (Pt Jo (Ue (J3 J5 (J3 J8 Jb))))))))
def rsZ09n4 (spZ0b spZ07 spZ0e spZ0d : ASp) : AS:=Jd [] (Yc (Jl 5))
theorem cjrsZ09n4 {spZ0b spZ07 spZ0e spZ0d : ASp} : CS (rsZ09n4 spZ0b spZ07 spZ0e spZ0d):=(Jf (Yk Jo))
def rsZ09n3 (spZ0b spZ07 spZ0e spZ0d : ASp) : AS:=Jm (Jd [] (Yq (Y5 (aOp aLt (Ym spZ0e [] (J2 (Jl 0) (J2 (aC (.int 4)) (J9)))) (J7 3))) (Jd [] (Wo (Fe (Jl 5) (U7 (J2 (aC (.str ("mark" : Str))) (J2 (Ym spZ0d [] (J2 (Jl 0) (J2 (J7 2) (J2 (J7 4) (J9))))) (J9))))))) (Yt))) (rsZ09n4 spZ0b spZ07 spZ0e spZ0d)
theorem cjrsZ09n3 {spZ0b spZ07 spZ0e spZ0d : ASp} : CS (rsZ09n3 spZ0b spZ07 spZ0e spZ0d):=(Jq (Jf (U0 (Y6 (Ja Fc (Yx (J3 Jo (J3 J5 Jb))) J8)) (Jf (X1 (Pt Jo (Ue (J3 J5 (J3 (Yx (J3 Jo (J3 J8 (J3 J8 Jb)))) Jb)))))) U2)) cjrsZ09n4)
def rsZ09n2 (spZ0b spZ07 spZ0e spZ0d : ASp) : AS:=Jm (Jd [] (Wq (Vj (Ym spZ0b [] (J2 (Jl 0) (J2 (Vk (Ym spZ07 [] (J2 (J7 1) (J9)))) (J9))))) (Ui 6) (bdZ09n1 spZ0b spZ07 spZ0e spZ0d))) (rsZ09n3 spZ0b spZ07 spZ0e spZ0d)
theorem cjrsZ09n2 {spZ0b spZ07 spZ0e spZ0d : ASp} : CS (rsZ09n2 spZ0b spZ07 spZ0e spZ0d):=(Jq (Jf (Zd (W8 (Yx (J3 Jo (J3 (Wc (Yx (J3 J8 Jb))) Jb)))) Uz cjbdZ09n1)) cjrsZ09n3)
def asZ09 (spZ0b spZ07 spZ0e spZ0d : ASp) : AS:=Jm (Ye 5 (Uc (J9))) (rsZ09n2 spZ0b spZ07 spZ0e spZ0d)
theorem cjZ09 {spZ0b spZ07 spZ0e spZ0d : ASp} : CS (asZ09 spZ0b spZ07 spZ0e spZ0d):=(Jq (Yl (Um Jb)) cjrsZ09n2)
def rsZ05n10 (spZ0e spZ0h : ASp) : AS:=Jd [3,4,5] (Yc (Jl 2))
theorem cjrsZ05n10 {spZ0e spZ0h : ASp} : CS (rsZ05n10 spZ0e spZ0h):=(Jf (Yk Jo))
def rsZ05n9 (spZ0e spZ0h : ASp) : AS:=Jm (Jd [] (Yq (Y5 (aOp aEq (J7 3) (aC (.int 5)))) (Jm (Jd [3] (Ye 5 (aOp L5 (aOp Uu (aC (.int 15)) (Ym spZ0e [] (J2 (Jl 0) (J2 (aC (.int 2)) (J9))))) (aCB Uk (J2 (Jl 2) (J9))))))
  (Jd [] (Ye 2 (aOp Uu (aOp Uu (Zg (Jl 2) (Zh) (Ze (J7 4))) (aOp Lj (Uc (J2 (U7 (J2 (aC (.str ("mark" : Str))) (J2 (aC (.str ("a" : Str))) (J9)))) (J9))) (J7 5))) (Zg (Jl 2) (Ze (J7 4)) (Zh)))))) (Yt))) (rsZ05n10 spZ0e spZ0h)
theorem cjrsZ05n9 {spZ0e spZ0h : ASp} : CS (rsZ05n9 spZ0e spZ0h):=(Jq (Jf (U0 (Y6 (Ja Vg J8 J5)) (Jq (Jf (Yl (Ja JZi (Ja Ve J5 (Yx (J3 Jo (J3 J5 Jb)))) (Yh V4 (J3 Jo Jb))))) (Jf (Yl (Ja Ve (Ja Ve (Bb Jo Xx (Xs J8)) (Ja JMq (Um (J3 (Ue (J3 J5 (J3 J5 Jb))) Jb)) J8)) (Bb Jo (Xs J8) Xx))))) U2)) cjrsZ05n10)
def rsZ05n8 (spZ0e spZ0h : ASp) : AS:=Jm (Jd [] (Yq (Y5 (aOp aEq (J7 3) (aC (.int 4)))) (Jd [] (Wo (Hg (Jl 2) (J7 4) (Ym spZ0h [] (J2 (Jl 0) (J9)))))) (Yt))) (rsZ05n9 spZ0e spZ0h)
theorem cjrsZ05n8 {spZ0e spZ0h : ASp} : CS (rsZ05n8 spZ0e spZ0h):=(Jq (Jf (U0 (Y6 (Ja Vg J8 J5)) (Jf (X1 (JYn Jo J8 (Yx (J3 Jo Jb))))) U2)) cjrsZ05n9)
def rsZ05n7 (spZ0e spZ0h : ASp) : AS:=Jm (Jd [] (Yq (Y5 (aOp aEq (J7 3) (aC (.int 3)))) (Jd [] (Xf (Ym spZ0h [] (J2 (Jl 0) (J9))) (Jl 2) (J7 4))) (Yt))) (rsZ05n8 spZ0e spZ0h)
theorem cjrsZ05n7 {spZ0e spZ0h : ASp} : CS (rsZ05n7 spZ0e spZ0h):=(Jq (Jf (U0 (Y6 (Ja Vg J8 J5)) (Jf (Hj (Yx (J3 Jo Jb)) Jo J8)) U2)) cjrsZ05n8)
def rsZ05n6 (spZ0e spZ0h : ASp) : AS:=Jm (Jd [] (Yq (Y5 (aOp aEq (J7 3) (aC (.int 2)))) (Jd [3] (Yc (aOp Uu (aOp Uu (Zg (Jl 2) (Zh) (Ze (J7 4))) (Uc (J2 (aOp aIx (Jl 2) (J7 4)) (J9)))) (Zg (Jl 2) (Ze (J7 4)) (Zh))))) (Yt))) (rsZ05n7 spZ0e spZ0h)
theorem cjrsZ05n6 {spZ0e spZ0h : ASp} : CS (rsZ05n6 spZ0e spZ0h):=(Jq (Jf (U0 (Y6 (Ja Vg J8 J5)) (Jf (Yk (Ja Ve (Ja Ve (Bb Jo Xx (Xs J8)) (Um (J3 (Ja Yf Jo J8) Jb))) (Bb Jo (Xs J8) Xx)))) U2)) cjrsZ05n7)
def rsZ05n5 (spZ0e spZ0h : ASp) : AS:=Jm (Jd [] (Yq (Y5 (aOp aEq (J7 3) (aC (.int 1)))) (Jd [3] (Yc (aOp Uu (Zg (Jl 2) (Zh) (Ze (J7 4))) (Zg (Jl 2) (Ze (aOp Uu (J7 4) (aC (.int 1)))) (Zh))))) (Yt))) (rsZ05n6 spZ0e spZ0h)
theorem cjrsZ05n5 {spZ0e spZ0h : ASp} : CS (rsZ05n5 spZ0e spZ0h):=(Jq (Jf (U0 (Y6 (Ja Vg J8 J5)) (Jf (Yk (Ja Ve (Bb Jo Xx (Xs J8)) (Bb Jo (Xs (Ja Ve J8 J5)) Xx)))) U2)) cjrsZ05n6)
def rsZ05n4 (spZ0e spZ0h : ASp) : AS:=Jm (Jd [] (Yq (Y5 (aOp aEq (J7 3) (aC (.int 0)))) (Jd [2,3,4] (Yc (aOp aIx (Uc (J2 (aC .non) (J2 (aC (.str ("id" : Str))) (J2 (Fl) (J2 (aC (.int 7)) (J2 (U7 (J9)) (J9))))))) (Ym spZ0e [] (J2 (Jl 0) (J2 (aC (.int 5)) (J9))))))) (Yt))) (rsZ05n5 spZ0e spZ0h)
theorem cjrsZ05n4 {spZ0e spZ0h : ASp} : CS (rsZ05n4 spZ0e spZ0h):=(Jq (Jf (U0 (Y6 (Ja Vg J8 J5)) (Jf (Yk (Ja Yf (Um (J3 J5 (J3 J5 (J3 M9 (J3 J5 (J3 (Ue Jb) Jb)))))) (Yx (J3 Jo (J3 J5 Jb)))))) U2)) cjrsZ05n5)
def rsZ05n3 (spZ0e spZ0h : ASp) : AS:=Jm (Jd [] (Ye 4 (Ym spZ0e [] (J2 (Jl 0) (J2 (aCB Uk (J2 (Jl 2) (J9))) (J9)))))) (rsZ05n4 spZ0e spZ0h)
theorem cjrsZ05n3 {spZ0e spZ0h : ASp} : CS (rsZ05n3 spZ0e spZ0h):=(Jq (Jf (Yl (Yx (J3 Jo (J3 (Yh V4 (J3 Jo Jb)) Jb))))) cjrsZ05n4)
def rsZ05n2 (spZ0e spZ0h : ASp) : AS:=Jm (Jd [] (Ye 3 (Ym spZ0e [] (J2 (Jl 0) (J2 (aC (.int 6)) (J9)))))) (rsZ05n3 spZ0e spZ0h)
theorem cjrsZ05n2 {spZ0e spZ0h : ASp} : CS (rsZ05n2 spZ0e spZ0h):=(Jq (Jf (Yl (Yx (J3 Jo (J3 J5 Jb))))) cjrsZ05n3)
def asZ05 (spZ0e spZ0h : ASp) : AS:=Jm (Ye 2 (aCB B5 (J2 (Jl 1) (J9)))) (rsZ05n2 spZ0e spZ0h)
theorem cjZ05 {spZ0e spZ0h : ASp} : CS (asZ05 spZ0e spZ0h):=(Jq (Yl (Yh Ki (J3 Jo Jb))) cjrsZ05n2)
def bdZ00n1 (J1 Jk : Addr) (spZ0i : ASp) : AS:=Jd [] (Yq (Uj (Y5 (Ym spZ0i [] (J2 (aOp aIx (J7 4) (J7 5)) (J2 (Ht T_FIELDS (J7 5)) (J9)))))) (Jd [4] (Gi Jk ("value" : Str) (J7 5))) (Yt))
theorem cjbdZ00n1 {J1 Jk : Addr} {spZ0i : ASp} : CS (bdZ00n1 J1 Jk spZ0i):=(Jf (U0 (V6 (Y6 (Yx (J3 (Ja Yf J8 J8) (J3 (JGh J8) Jb))))) (Jf (JU4 J8)) U2))
def rsZ00n3 (J1 Jk : Addr) (spZ0i : ASp) : AS:=Jd [5] (Kz J1 ("_shapes" : Str) (aDc (Vj (aC (.tup [.str ("row" : Str),.str ("fix" : Str),.str ("gone" : Str)]))) (Ui 5) (B0) (J7 5) (aCB Zu (J2 (aOp aIx (J7 4) (J7 5)) (J9))) [5]) (Jl 0))
theorem cjrsZ00n3 {J1 Jk : Addr} {spZ0i : ASp} : CS (rsZ00n3 J1 Jk spZ0i):=(Jf (JFp (JM8 (W8 J5) Uz Lx J8 (Yh Os (J3 (Ja Yf J8 J8) Jb))) Jo))
def rsZ00n2 (J1 Jk : Addr) (spZ0i : ASp) : AS:=Jm (Jd [] (Wq (Vj (aC (.tup [.str ("row" : Str),.str ("fix" : Str),.str ("gone" : Str)]))) (Ui 5) (bdZ00n1 J1 Jk spZ0i))) (rsZ00n3 J1 Jk spZ0i)
theorem cjrsZ00n2 {J1 Jk : Addr} {spZ0i : ASp} : CS (rsZ00n2 J1 Jk spZ0i):=(Jq (Jf (Zd (W8 J5) Uz cjbdZ00n1)) cjrsZ00n3)
def asZ00 (J1 Jk : Addr) (spZ0i : ASp) : AS:=Jm (Ye 4 (Vk (Hi [(aC (.str ("row" : Str)),J7 1),(aC (.str ("fix" : Str)),J7 2),(aC (.str ("gone" : Str)),J7 3)]))) (rsZ00n2 J1 Jk spZ0i)
theorem cjZ00 {J1 Jk : Addr} {spZ0i : ASp} : CS (asZ00 J1 Jk spZ0i):=(Jq (Yl (Wc (Rj (Ky J5 J8 (Ky J5 J8 (Ky J5 J8 JJq)))))) cjrsZ00n2)
def rsZ04n3 (K : Fg) (J1 Jk : Addr) (spZ0a : ASp) : AS:=Jd [3] (Yc (J7 2))
theorem cjrsZ04n3 {K : Fg} {J1 Jk : Addr} {spZ0a : ASp} : CS (rsZ04n3 K J1 Jk spZ0a):=(Jf (Yk J8))
def rsZ04n2 (K : Fg) (J1 Jk : Addr) (spZ0a : ASp) : AS:=Jm (Jd [] (G3 K Jk 3 (Jd [] (Wo (Xm J1 ("shape" : Str) spZ0a [] (J7 0) (J2 (J7 1) (J9))))) (fun fs=>Jd [2] (Ye 2 (aOp Fo (aXf fs ("value" : Str)) (J7 1)))))) (rsZ04n3 K J1 Jk spZ0a)
theorem cjrsZ04n2 {K : Fg} {J1 Jk : Addr} {spZ0a : ASp} : CS (rsZ04n2 K J1 Jk spZ0a):=(Jq (Jf (Su (Jf (X1 (JJb J8 (J3 J8 Jb)))) (fun fs=>(Jf (Yl (Ja JBy Q5 J8)))))) cjrsZ04n3)
def asZ04 (K : Fg) (J1 Jk : Addr) (spZ0a : ASp) : AS:=Jm (Ye 2 (aC (.bl false))) (rsZ04n2 K J1 Jk spZ0a)
theorem cjZ04 {K : Fg} {J1 Jk : Addr} {spZ0a : ASp} : CS (asZ04 K J1 Jk spZ0a):=(Jq (Yl J5) cjrsZ04n2)
def bdZ0fn1 (K : Fg) (J1 : Addr) (spZ04 spZ0a : ASp) : AS:=Z4 [4] (Jd [] (Yq (Uv (Uj (Y5 (aUn (Uw K [(.type "tuple")]) (aOp aIx (J7 3) (J7 4))))) (Y5 (aOp aNe (aOp aIx (J7 3) (J7 4)) (aOp aIx (aOp aIx (Jl 1) (J7 2)) (J7 4))))) (Jd [2,3,4] (Yc (aC (.bl false)))) (Yt)))
theorem cjbdZ0fn1 {K : Fg} {J1 : Addr} {spZ04 spZ0a : ASp} : CS (bdZ0fn1 K J1 spZ04 spZ0a):=(Xj (Jf (U0 (Vm (V6 (Y6 (V7 Vr (Ja Yf J8 J8)))) (Y6 (Ja Fy (Ja Yf J8 J8) (Ja Yf (Ja Yf Jo J8) J8)))) (Jf (Yk J5)) U2)))
def bdZ0fn2 (K : Fg) (J1 : Addr) (spZ04 spZ0a : ASp) : AS:=Z4 [2,3] (Jm (Jd [] (Ye 3 (Vk (Xm J1 ("shape" : Str) spZ0a [] (J7 0) (J2 (J7 2) (J9))))))
  (Jm (Jd [] (Yq (Uv (Uj (Y5 (aUn (Uw K [(.type "tuple")]) (J7 3)))) (Y5 (aOp aNe (aCB Uk (J2 (J7 3) (J9))) (aCB Uk (J2 (aOp aIx (Jl 1) (J7 2)) (J9)))))) (Jd [2,3] (Yc (aC (.bl false)))) (Yt)))
  (Jd [] (Wq (H6 (J2 (aCB Uk (J2 (J7 3) (J9))) (J9))) (Ui 4) (bdZ0fn1 K J1 spZ04 spZ0a)))))
theorem cjbdZ0fn2 {K : Fg} {J1 : Addr} {spZ04 spZ0a : ASp} : CS (bdZ0fn2 K J1 spZ04 spZ0a):=(Xj (Jq (Jf (Yl (Wc (JJb J8 (J3 J8 Jb))))) (Jq (Jf (U0 (Vm (V6 (Y6 (V7 Vr J8))) (Y6 (Ja Fy (Yh V4 (J3 J8 Jb)) (Yh V4 (J3 (Ja Yf Jo J8) Jb))))) (Jf (Yk J5)) U2)) (Jf (Zd (Ak (J3 (Yh V4 (J3 J8 Jb)) Jb)) Uz cjbdZ0fn1)))))
def rsZ0fn2 (K : Fg) (J1 : Addr) (spZ04 spZ0a : ASp) : AS:=Jd [] (Yc (aCB F3 (J2 (aLc (Vj (Uc (J2 (aC (.str ("Row" : Str))) (J2 (aC .non) (J2 (aC (.int 0)) (J2 (aC (.str ("" : Str))) (J2 (aC (.bl true)) (J2 (Uc (J9)) (J2 (Fl) (J2 (Uc (J2 (aC (.str ("row" : Str))) (J9))) (J2 (U7 (J2 (aC (.str ("row" : Str))) (J9))) (J9)))))))))))) (Ui 5) (B0) (Ym spZ04 [] (J2 (J7 0) (J2 (J7 5) (J9)))) [5]) (J9))))
theorem cjrsZ0fn2 {K : Fg} {J1 : Addr} {spZ04 spZ0a : ASp} : CS (rsZ0fn2 K J1 spZ04 spZ0a):=(Jf (Yk (Yh O9 (J3 (F7 (W8 (Um (J3 J5 (J3 J5 (J3 J5 (J3 J5 (J3 J5 (J3 (Um Jb) (J3 M9 (J3 (Um (J3 J5 Jb)) (J3 (Ue (J3 J5 Jb)) Jb))))))))))) Uz Lx (Yx (J3 J8 (J3 J8 Jb)))) Jb))))
def asZ0f (K : Fg) (J1 : Addr) (spZ04 spZ0a : ASp) : AS:=Jm (Wq (Vj (Uc (J2 (aC (.str ("row" : Str))) (J2 (aC (.str ("fix" : Str))) (J2 (aC (.str ("gone" : Str))) (J9)))))) (Ui 2) (bdZ0fn2 K J1 spZ04 spZ0a)) (rsZ0fn2 K J1 spZ04 spZ0a)
theorem cjZ0f {K : Fg} {J1 : Addr} {spZ04 spZ0a : ASp} : CS (asZ0f K J1 spZ04 spZ0a):=(Jq (Zd (W8 (Um (J3 J5 (J3 J5 (J3 J5 Jb))))) Uz cjbdZ0fn2) cjrsZ0fn2)
def rsZ0gn5 (K : Fg) (J1 Jk Ub : Addr) (spZ00 : ASp) : AS:=Vv [0] (Jd [4] (Yc (U7 (J2 (J7 1) (J2 (J7 2) (J2 (J7 3) (J9)))))))
theorem cjrsZ0gn5 {K : Fg} {J1 Jk Ub : Addr} {spZ00 : ASp} : CS (rsZ0gn5 K J1 Jk Ub spZ00):=(Wl (Jf (Yk (Ue (J3 J8 (J3 J8 (J3 J8 Jb)))))))
def rsZ0gn4 (K : Fg) (J1 Jk Ub : Addr) (spZ00 : ASp) : AS:=Jm (Vv [0] (Jd [] (G3 K Jk 4 (Vv [0] (Jd [] (Ye 1 (Vk (B1 J1 spZ00 [] (J2 (aOp Vi (Jl 0) (aC (.str ("row" : Str)))) (J2 (aOp Vi (Jl 0) (aC (.str ("fix" : Str)))) (J2 (aOp Vi (Jl 0) (aC (.str ("gone" : Str)))) (J9))))))))) (fun fs=>Jm (Jd [2,3] (Ye 2 (Vk (aXf fs ("value" : Str)))))
  (Jd [] (Ye 3 (Hw K Jk (.ref Ub)))))))) (rsZ0gn5 K J1 Jk Ub spZ00)
theorem cjrsZ0gn4 {K : Fg} {J1 Jk Ub : Addr} {spZ00 : ASp} : CS (rsZ0gn4 K J1 Jk Ub spZ00):=(Jq (Wl (Jf (Su (Wl (Jf (Yl (Wc (Ma (J3 (Ja Bi Jo J5) (J3 (Ja Bi Jo J5) (J3 (Ja Bi Jo J5) Jb)))))))) (fun fs=>(Jq (Jf (Yl (Wc Q5))) (Jf (Yl JZb))))))) cjrsZ0gn5)
def rsZ0gn3 (K : Fg) (J1 Jk Ub : Addr) (spZ00 : ASp) : AS:=Jm (Jd [] (Ye 3 (aC (.bl true)))) (rsZ0gn4 K J1 Jk Ub spZ00)
theorem cjrsZ0gn3 {K : Fg} {J1 Jk Ub : Addr} {spZ00 : ASp} : CS (rsZ0gn3 K J1 Jk Ub spZ00):=(Jq (Jf (Yl J5)) cjrsZ0gn4)
def rsZ0gn2 (K : Fg) (J1 Jk Ub : Addr) (spZ00 : ASp) : AS:=Jm (Jd [] (Ye 2 (aC (.str ("" : Str))))) (rsZ0gn3 K J1 Jk Ub spZ00)
theorem cjrsZ0gn2 {K : Fg} {J1 Jk Ub : Addr} {spZ00 : ASp} : CS (rsZ0gn2 K J1 Jk Ub spZ00):=(Jq (Jf (Yl J5)) cjrsZ0gn3)
def asZ0g (K : Fg) (J1 Jk Ub : Addr) (spZ00 : ASp) : AS:=Jm (Ye 1 (aC .non)) (rsZ0gn2 K J1 Jk Ub spZ00)
theorem cjZ0g {K : Fg} {J1 Jk Ub : Addr} {spZ00 : ASp} : CS (asZ0g K J1 Jk Ub spZ00):=(Jq (Yl J5) cjrsZ0gn2)
def bdZ0ln1 (K : Fg) (J1 : Addr) (spZ08 spZ09 spZ0c spZ0e spZ05 spZ0g spZ01 spZ0f spZ00 spZ06 : ASp) : AS:=F6 [1] (Z4 [4] (Jm (Jd [] (Ye 3 (Ym spZ08 [] (J2 (J7 0) (J2 (Vk (Ko (Uc (J2 (aC (.str ("row" : Str))) (J2 (aC (.str ("fix" : Str))) (J2 (aC (.str ("gone" : Str))) (J9))))) (J7 2))) (J9))))))
  (Jm (Jd [] (Ye 4 (Ym spZ09 [] (J2 (Jl 3) (J2 (J7 2) (J2 (Vk (Ym spZ0c [] (J9))) (J2 (Ym spZ0e [] (J2 (Jl 3) (J2 (aC (.int 5)) (J9)))) (J2 (aC (.int 6)) (J9)))))))))
  (Jm (Jd [] (Yq (Y5 (aOp aEq (Ym spZ0e [] (J2 (Jl 3) (J2 (aC (.int 3)) (J9)))) (aC (.int 1)))) (Jd [] (Ye 4 (Ym spZ05 [] (J2 (Jl 3) (J2 (Jl 4) (J9)))))) (Yt)))
  (Jm (Jd [] (Yq (Zv (Y5 (aUn (Uw K [(.type "list")]) (Jl 4))) (Y5 (aOp aEq (Ym spZ0e [] (J2 (Jl 3) (J2 (aC (.int 2)) (J9)))) (aC (.int 1))))) (Jd [3] (Ye 4 (aCB Zu (J2 (Jl 4) (J9))))) (Yt)))
  (Vv [1] (Jd [3] (M6 (Jl 4) (Jl 1) (J7 2)))))))))
theorem cjbdZ0ln1 {K : Fg} {J1 : Addr} {spZ08 spZ09 spZ0c spZ0e spZ05 spZ0g spZ01 spZ0f spZ00 spZ06 : ASp} : CS (bdZ0ln1 K J1 spZ08 spZ09 spZ0c spZ0e spZ05 spZ0g spZ01 spZ0f spZ00 spZ06):=(Nw (Xj (Jq (Jf (Yl (Yx (J3 J8 (J3 (Wc (JMt (Um (J3 J5 (J3 J5 (J3 J5 Jb)))) J8)) Jb))))) (Jq (Jf (Yl (Yx (J3 Jo (J3 J8 (J3 (Wc (Yx Jb)) (J3 (Yx (J3 Jo (J3 J5 Jb))) (J3 J5 Jb)))))))) (Jq (Jf (U0 (Y6 (Ja Vg (Yx (J3 Jo (J3 J5 Jb))) J5)) (Jf (Yl (Yx (J3 Jo (J3 Jo Jb))))) U2)) (Jq (Jf (U0 (Gq (Y6 (V7 Vr Jo)) (Y6 (Ja Vg (Yx (J3 Jo (J3 J5 Jb))) J5))) (Jf (Yl (Yh Os (J3 Jo Jb)))) U2)) (Wl (Jf (JGy Jo Jo J8)))))))))
def bdZ0ln2 (K : Fg) (J1 : Addr) (spZ08 spZ09 spZ0c spZ0e spZ05 spZ0g spZ01 spZ0f spZ00 spZ06 : ASp) : AS:=F6 [1] (Z4 [2] (Vv [1] (Jd [] (Xf (aCB Zu (J2 (aOp Vi (Jl 1) (J7 2)) (J9))) (Jl 9) (J7 2)))))
theorem cjbdZ0ln2 {K : Fg} {J1 : Addr} {spZ08 spZ09 spZ0c spZ0e spZ05 spZ0g spZ01 spZ0f spZ00 spZ06 : ASp} : CS (bdZ0ln2 K J1 spZ08 spZ09 spZ0c spZ0e spZ05 spZ0g spZ01 spZ0f spZ00 spZ06):=(Nw (Xj (Wl (Jf (Hj (Yh Os (J3 (Ja Bi Jo J8) Jb)) Jo J8)))))
def bdZ0ln3 (K : Fg) (J1 : Addr) (spZ08 spZ09 spZ0c spZ0e spZ05 spZ0g spZ01 spZ0f spZ00 spZ06 : ASp) : AS:=F6 [1] (Z4 [2,12] (Jm (Jd [] (Ye 11 (aCB K9 (J2 (Jl 9) (J9)))))
  (Jm (Jd [] (Xf (aOp Uu (U7 (J2 (U7 (J2 (aC (.str ("mark" : Str))) (J2 (aC (.str ("a" : Str))) (J9)))) (J9))) (Zg (aOp aIx (Jl 9) (J7 2)) (Zh) (Ze (aC (.int 14))))) (Jl 11) (J7 2)))
  (Jm (Jd [] (Yq (Zv (Y5 (aOp aLt (aCB Uk (J2 (aOp aIx (Jl 9) (J7 2)) (J9))) (aC (.int 15)))) (Y5 (aOp (Bq J1 spZ06 id) (J7 5) (Vk (B1 J1 spZ00 [] (J2 (aOp aIx (Jl 11) (aC (.str ("row" : Str)))) (J2 (aOp aIx (Jl 11) (aC (.str ("fix" : Str)))) (J2 (aOp aIx (Jl 11) (aC (.str ("gone" : Str)))) (J9))))))))) (Jd [1,2,5,9,11] (Yc (aC (.bl false)))) (Yt)))
  (Vv [1] (Jd [11] (Yq (Y5 (aUn (Kq K [(.type "list")]) (aOp Vi (Jl 1) (J7 2)))) (Jm (Vv [1] (Jd [] (Ye 12 (aOp Vi (Jl 1) (J7 2)))))
  (Jm (Jd [2] (Wo (Kl (aAl 12) (U7 (J2 (aC (.str ("mark" : Str))) (J2 (aC (.str ("z" : Str))) (J9)))))))
  (Jd [] (Wo (Lc (aAl 12)))))) (Yt))))))))
theorem cjbdZ0ln3 {K : Fg} {J1 : Addr} {spZ08 spZ09 spZ0c spZ0e spZ05 spZ0g spZ01 spZ0f spZ00 spZ06 : ASp} : CS (bdZ0ln3 K J1 spZ08 spZ09 spZ0c spZ0e spZ05 spZ0g spZ01 spZ0f spZ00 spZ06):=(Nw (Xj (Jq (Jf (Yl (Yh JHm (J3 Jo Jb)))) (Jq (Jf (Hj (Ja Ve (Ue (J3 (Ue (J3 J5 (J3 J5 Jb))) Jb)) (Bb (Ja Yf Jo J8) Xx (Xs J5))) Jo J8)) (Jq (Jf (U0 (Gq (Y6 (Ja Fc (Yh V4 (J3 (Ja Yf Jo J8) Jb)) J5)) (Y6 (Ja Nx J8 (Wc (Ma (J3 (Ja Yf Jo J5) (J3 (Ja Yf Jo J5) (J3 (Ja Yf Jo J5) Jb)))))))) (Jf (Yk J5)) U2)) (Wl (Jf (U0 (Y6 (V7 JXc (Ja Bi Jo J8))) (Jq (Wl (Jf (Yl (Ja Bi Jo J8)))) (Jq (Jf (X1 (JHr JUk (Ue (J3 J5 (J3 J5 Jb)))))) (Jf (X1 (JZm JUk))))) U2))))))))
def rsZ0ln12 (K : Fg) (J1 : Addr) (spZ08 spZ09 spZ0c spZ0e spZ05 spZ0g spZ01 spZ0f spZ00 spZ06 : ASp) : AS:=Jd [1] (Yc (Ym spZ0f [] (J2 (J7 5) (J2 (Jl 9) (J9)))))
theorem cjrsZ0ln12 {K : Fg} {J1 : Addr} {spZ08 spZ09 spZ0c spZ0e spZ05 spZ0g spZ01 spZ0f spZ00 spZ06 : ASp} : CS (rsZ0ln12 K J1 spZ08 spZ09 spZ0c spZ0e spZ05 spZ0g spZ01 spZ0f spZ00 spZ06):=(Jf (Yk (Yx (J3 J8 (J3 Jo Jb)))))
def rsZ0ln11 (K : Fg) (J1 : Addr) (spZ08 spZ09 spZ0c spZ0e spZ05 spZ0g spZ01 spZ0f spZ00 spZ06 : ASp) : AS:=Jm (Vv [1] (Jd [10] (Wq (Vj (Uc (J2 (aC (.str ("row" : Str))) (J2 (aC (.str ("fix" : Str))) (J2 (aC (.str ("gone" : Str))) (J9)))))) (Ui 2) (bdZ0ln3 K J1 spZ08 spZ09 spZ0c spZ0e spZ05 spZ0g spZ01 spZ0f spZ00 spZ06)))) (rsZ0ln12 K J1 spZ08 spZ09 spZ0c spZ0e spZ05 spZ0g spZ01 spZ0f spZ00 spZ06)
theorem cjrsZ0ln11 {K : Fg} {J1 : Addr} {spZ08 spZ09 spZ0c spZ0e spZ05 spZ0g spZ01 spZ0f spZ00 spZ06 : ASp} : CS (rsZ0ln11 K J1 spZ08 spZ09 spZ0c spZ0e spZ05 spZ0g spZ01 spZ0f spZ00 spZ06):=(Jq (Wl (Jf (Zd (W8 (Um (J3 J5 (J3 J5 (J3 J5 Jb))))) Uz cjbdZ0ln3))) cjrsZ0ln12)
def rsZ0ln10 (K : Fg) (J1 : Addr) (spZ08 spZ09 spZ0c spZ0e spZ05 spZ0g spZ01 spZ0f spZ00 spZ06 : ASp) : AS:=Jm (Jd [] (Yq (Uv (Uj (Y5 (aOp (Bq J1 spZ06 id) (J7 5) (J7 10)))) (Y5 (aOp (Bq J1 spZ06 (!·)) (J7 5) (J7 10)))) (Jd [1,5,9,10] (Yc (aC (.bl false)))) (Yt))) (rsZ0ln11 K J1 spZ08 spZ09 spZ0c spZ0e spZ05 spZ0g spZ01 spZ0f spZ00 spZ06)
theorem cjrsZ0ln10 {K : Fg} {J1 : Addr} {spZ08 spZ09 spZ0c spZ0e spZ05 spZ0g spZ01 spZ0f spZ00 spZ06 : ASp} : CS (rsZ0ln10 K J1 spZ08 spZ09 spZ0c spZ0e spZ05 spZ0g spZ01 spZ0f spZ00 spZ06):=(Jq (Jf (U0 (Vm (V6 (Y6 (Ja Nx J8 J8))) (Y6 (Ja Nx J8 J8))) (Jf (Yk J5)) U2)) cjrsZ0ln11)
def rsZ0ln9 (K : Fg) (J1 : Addr) (spZ08 spZ09 spZ0c spZ0e spZ05 spZ0g spZ01 spZ0f spZ00 spZ06 : ASp) : AS:=Jm (Jd [6] (Ye 10 (Vk (B1 J1 spZ00 [] (J2 (aCB B5 (J2 (aOp aIx (Jl 9) (aC (.str ("row" : Str)))) (J9))) (J2 (aCB B5 (J2 (aOp aIx (Jl 9) (aC (.str ("fix" : Str)))) (J9))) (J2 (aCB B5 (J2 (aOp aIx (Jl 9) (aC (.str ("gone" : Str)))) (J9))) (J9)))))))) (rsZ0ln10 K J1 spZ08 spZ09 spZ0c spZ0e spZ05 spZ0g spZ01 spZ0f spZ00 spZ06)
theorem cjrsZ0ln9 {K : Fg} {J1 : Addr} {spZ08 spZ09 spZ0c spZ0e spZ05 spZ0g spZ01 spZ0f spZ00 spZ06 : ASp} : CS (rsZ0ln9 K J1 spZ08 spZ09 spZ0c spZ0e spZ05 spZ0g spZ01 spZ0f spZ00 spZ06):=(Jq (Jf (Yl (Wc (Ma (J3 (Yh Ki (J3 (Ja Yf Jo J5) Jb)) (J3 (Yh Ki (J3 (Ja Yf Jo J5) Jb)) (J3 (Yh Ki (J3 (Ja Yf Jo J5) Jb)) Jb))))))) cjrsZ0ln10)
def rsZ0ln8 (K : Fg) (J1 : Addr) (spZ08 spZ09 spZ0c spZ0e spZ05 spZ0g spZ01 spZ0f spZ00 spZ06 : ASp) : AS:=Jm (Jd [] (Yq (Uv (Y5 (aOp aNe (J7 6) (aC (.str ("" : Str))))) (Uv (Uj (Y5 (aUn (Uw K [(.ref J1)]) (J7 5)))) (Uj (Y5 (Ym spZ0f [] (J2 (J7 5) (J2 (Jl 9) (J9)))))))) (Jd [1,5,6,9] (Yc (aC (.bl false)))) (Yt))) (rsZ0ln9 K J1 spZ08 spZ09 spZ0c spZ0e spZ05 spZ0g spZ01 spZ0f spZ00 spZ06)
theorem cjrsZ0ln8 {K : Fg} {J1 : Addr} {spZ08 spZ09 spZ0c spZ0e spZ05 spZ0g spZ01 spZ0f spZ00 spZ06 : ASp} : CS (rsZ0ln8 K J1 spZ08 spZ09 spZ0c spZ0e spZ05 spZ0g spZ01 spZ0f spZ00 spZ06):=(Jq (Jf (U0 (Vm (Y6 (Ja Fy J8 J5)) (Vm (V6 (Y6 (V7 Vr J8))) (V6 (Y6 (Yx (J3 J8 (J3 Jo Jb))))))) (Jf (Yk J5)) U2)) cjrsZ0ln9)
def rsZ0ln7 (K : Fg) (J1 : Addr) (spZ08 spZ09 spZ0c spZ0e spZ05 spZ0g spZ01 spZ0f spZ00 spZ06 : ASp) : AS:=Jm (Vv [1] (Jd [] (Wq (Vj (Uc (J2 (aC (.str ("row" : Str))) (J2 (aC (.str ("fix" : Str))) (J2 (aC (.str ("gone" : Str))) (J9)))))) (Ui 2) (bdZ0ln2 K J1 spZ08 spZ09 spZ0c spZ0e spZ05 spZ0g spZ01 spZ0f spZ00 spZ06)))) (rsZ0ln8 K J1 spZ08 spZ09 spZ0c spZ0e spZ05 spZ0g spZ01 spZ0f spZ00 spZ06)
theorem cjrsZ0ln7 {K : Fg} {J1 : Addr} {spZ08 spZ09 spZ0c spZ0e spZ05 spZ0g spZ01 spZ0f spZ00 spZ06 : ASp} : CS (rsZ0ln7 K J1 spZ08 spZ09 spZ0c spZ0e spZ05 spZ0g spZ01 spZ0f spZ00 spZ06):=(Jq (Wl (Jf (Zd (W8 (Um (J3 J5 (J3 J5 (J3 J5 Jb))))) Uz cjbdZ0ln2))) cjrsZ0ln8)
def rsZ0ln6 (K : Fg) (J1 : Addr) (spZ08 spZ09 spZ0c spZ0e spZ05 spZ0g spZ01 spZ0f spZ00 spZ06 : ASp) : AS:=Jm (Jd [7,8] (Ye 9 (Fl))) (rsZ0ln7 K J1 spZ08 spZ09 spZ0c spZ0e spZ05 spZ0g spZ01 spZ0f spZ00 spZ06)
theorem cjrsZ0ln6 {K : Fg} {J1 : Addr} {spZ08 spZ09 spZ0c spZ0e spZ05 spZ0g spZ01 spZ0f spZ00 spZ06 : ASp} : CS (rsZ0ln6 K J1 spZ08 spZ09 spZ0c spZ0e spZ05 spZ0g spZ01 spZ0f spZ00 spZ06):=(Jq (Jf (Yl M9)) cjrsZ0ln7)
def rsZ0ln5 (K : Fg) (J1 : Addr) (spZ08 spZ09 spZ0c spZ0e spZ05 spZ0g spZ01 spZ0f spZ00 spZ06 : ASp) : AS:=Jm (Jd [2] (Yq (Y5 (aOp aGt (aCB Uk (J2 (J7 8) (J9))) (aC (.int 0)))) (Jd [1] (Yc (Zm (aOp aIs (J7 5) (aC .non)) (Zm (aOp aEq (J7 6) (aOp aIx (J7 8) (aC (.int 0)))) (J7 7))))) (Yt))) (rsZ0ln6 K J1 spZ08 spZ09 spZ0c spZ0e spZ05 spZ0g spZ01 spZ0f spZ00 spZ06)
theorem cjrsZ0ln5 {K : Fg} {J1 : Addr} {spZ08 spZ09 spZ0c spZ0e spZ05 spZ0g spZ01 spZ0f spZ00 spZ06 : ASp} : CS (rsZ0ln5 K J1 spZ08 spZ09 spZ0c spZ0e spZ05 spZ0g spZ01 spZ0f spZ00 spZ06):=(Jq (Jf (U0 (Y6 (Ja L8 (Yh V4 (J3 J8 Jb)) J5)) (Jf (Yk (Gw (Ja JK9 J8 J5) (Gw (Ja Vg J8 (Ja Yf J8 J5)) J8)))) U2)) cjrsZ0ln6)
def rsZ0ln4 (K : Fg) (J1 : Addr) (spZ08 spZ09 spZ0c spZ0e spZ05 spZ0g spZ01 spZ0f spZ00 spZ06 : ASp) : AS:=Jm (Vv [1] (Jd [2] (Ye 8 (Vk (aLc (Vj (Uc (J2 (aC (.str ("row" : Str))) (J2 (aC (.str ("fix" : Str))) (J2 (aC (.str ("gone" : Str))) (J9)))))) (Ui 2) (Uj (Y5 (G1 spZ01 [] (J2 (aOp Vi (Jl 1) (J7 2)) (J2 (J7 2) (J9)))))) (J7 2) [2]))))) (rsZ0ln5 K J1 spZ08 spZ09 spZ0c spZ0e spZ05 spZ0g spZ01 spZ0f spZ00 spZ06)
theorem cjrsZ0ln4 {K : Fg} {J1 : Addr} {spZ08 spZ09 spZ0c spZ0e spZ05 spZ0g spZ01 spZ0f spZ00 spZ06 : ASp} : CS (rsZ0ln4 K J1 spZ08 spZ09 spZ0c spZ0e spZ05 spZ0g spZ01 spZ0f spZ00 spZ06):=(Jq (Wl (Jf (Yl (Wc (F7 (W8 (Um (J3 J5 (J3 J5 (J3 J5 Jb))))) Uz (V6 (Y6 (JFh (J3 (Ja Bi Jo J8) (J3 J8 Jb))))) J8))))) cjrsZ0ln5)
def rsZ0ln3 (K : Fg) (J1 : Addr) (spZ08 spZ09 spZ0c spZ0e spZ05 spZ0g spZ01 spZ0f spZ00 spZ06 : ASp) : AS:=Jm (Vv [1] (Jd [] (Ls (Ha 3 (Xe (Ui 5) (Xe (Ui 6) (Xe (Ui 7) (G2))))) (Ym spZ0g [] (J2 (Jl 1) (J9)))))) (rsZ0ln4 K J1 spZ08 spZ09 spZ0c spZ0e spZ05 spZ0g spZ01 spZ0f spZ00 spZ06)
theorem cjrsZ0ln3 {K : Fg} {J1 : Addr} {spZ08 spZ09 spZ0c spZ0e spZ05 spZ0g spZ01 spZ0f spZ00 spZ06 : ASp} : CS (rsZ0ln3 K J1 spZ08 spZ09 spZ0c spZ0e spZ05 spZ0g spZ01 spZ0f spZ00 spZ06):=(Jq (Wl (Jf (JXd (Dd (Gc Uz (Gc Uz (Gc Uz JYk)))) (Yx (J3 Jo Jb))))) cjrsZ0ln4)
def rsZ0ln2 (K : Fg) (J1 : Addr) (spZ08 spZ09 spZ0c spZ0e spZ05 spZ0g spZ01 spZ0f spZ00 spZ06 : ASp) : AS:=Jm (Vv [1] (Jd [] (Wq (Vj (Uc (J2 (aC (.str ("row" : Str))) (J2 (aC (.str ("fix" : Str))) (J2 (aC (.str ("gone" : Str))) (J9)))))) (Ui 2) (bdZ0ln1 K J1 spZ08 spZ09 spZ0c spZ0e spZ05 spZ0g spZ01 spZ0f spZ00 spZ06)))) (rsZ0ln3 K J1 spZ08 spZ09 spZ0c spZ0e spZ05 spZ0g spZ01 spZ0f spZ00 spZ06)
theorem cjrsZ0ln2 {K : Fg} {J1 : Addr} {spZ08 spZ09 spZ0c spZ0e spZ05 spZ0g spZ01 spZ0f spZ00 spZ06 : ASp} : CS (rsZ0ln2 K J1 spZ08 spZ09 spZ0c spZ0e spZ05 spZ0g spZ01 spZ0f spZ00 spZ06):=(Jq (Wl (Jf (Zd (W8 (Um (J3 J5 (J3 J5 (J3 J5 Jb))))) Uz cjbdZ0ln1))) cjrsZ0ln3)
def asZ0l (K : Fg) (J1 : Addr) (spZ08 spZ09 spZ0c spZ0e spZ05 spZ0g spZ01 spZ0f spZ00 spZ06 : ASp) : AS:=Jm (Vv [1] (Ye 1 (Kf))) (rsZ0ln2 K J1 spZ08 spZ09 spZ0c spZ0e spZ05 spZ0g spZ01 spZ0f spZ00 spZ06)
theorem cjZ0l {K : Fg} {J1 : Addr} {spZ08 spZ09 spZ0c spZ0e spZ05 spZ0g spZ01 spZ0f spZ00 spZ06 : ASp} : CS (asZ0l K J1 spZ08 spZ09 spZ0c spZ0e spZ05 spZ0g spZ01 spZ0f spZ00 spZ06):=(Jq (Wl (Yl JF1)) cjrsZ0ln2)
structure Gm where
  K : Fg
  J1 : Addr
  Jk : Addr
  Ub : Addr
class Gok (g : Gm) : Prop where
  Gb : ClsI g.K g.J1
  Te : PySem.W.kitOne g.K (.ref g.J1) (.ref g.J1) = some true
  JNa : PySem.W.kitOne g.K (.type "NoneType") (.ref g.J1) = some false
  JNd : PySem.W.kitOne g.K (.type "bool") (.ref g.J1) = some false
  JNe : PySem.W.kitOne g.K (.type "int") (.ref g.J1) = some false
  JNf : PySem.W.kitOne g.K (.type "str") (.ref g.J1) = some false
  JNb : PySem.W.kitOne g.K (.type "list") (.ref g.J1) = some false
  JNg : PySem.W.kitOne g.K (.type "tuple") (.ref g.J1) = some false
  JNc : PySem.W.kitOne g.K (.type "dict") (.ref g.J1) = some false
  JZl : PySem.W.kitOne g.K (.ref g.J1) (.type "bool") = some false
  JKz : PySem.W.kitOne g.K (.ref g.J1) (.type "int") = some false
  JX0 : PySem.W.kitOne g.K (.ref g.J1) (.type "str") = some false
  JZq : PySem.W.kitOne g.K (.ref g.J1) (.type "list") = some false
  JZ8 : PySem.W.kitOne g.K (.ref g.J1) (.type "tuple") = some false
  JZx : PySem.W.kitOne g.K (.ref g.J1) (.type "dict") = some false
  JUf : PySem.W.exmOne g.K (.ref g.Jk) (.ref g.Jk) = some true
  JW9 : PySem.W.kitOne g.K (.ref g.Jk) (.ref g.Ub) = some true
def SZ0k (g : Gm) : ASp:=spS (asZ0k g.K) [0] 1 1
def SZ03 (g : Gm) : ASp:=spS (asZ03 g.K) [0] 2 1
def SZ06 (g : Gm) : ASp:=spS (asZ06 g.K g.J1) [0,1] 2 2
def SZ08 (g : Gm) : ASp:=spS (asZ08 ) [0,1] 3 2
def SZ0e (g : Gm) : ASp:=spS (asZ0e ) [0,1] 4 2
def SZ07 (g : Gm) : ASp:=spS (asZ07 ) [0] 1 1
def SZ0c (g : Gm) : ASp:=spS (asZ0c ) [] 1 0
def SZ02 (g : Gm) : ASp:=spS (asZ02 g.K) [0] 2 1
def SZ0j (g : Gm) : ASp:=spS (asZ0j g.K (SZ03 g)) [0,1] 2 2
def SZ0b (g : Gm) : ASp:=spS (asZ0b (SZ0e g)) [0,1] 4 2
def SZ0d (g : Gm) : ASp:=spS (asZ0d (SZ0e g)) [0,1,2] 5 3
def SZ0h (g : Gm) : ASp:=spS (asZ0h (SZ0e g)) [0] 2 1
def SZ01 (g : Gm) : ASp:=spS (asZ01 g.K (SZ07 g) (SZ02 g)) [0,1] 4 2
def SZ0i (g : Gm) : ASp:=spS (asZ0i (SZ0k g) (SZ0j g)) [0,1] 5 2
def SZ0a (g : Gm) : ASp:=spS (asZ0a g.K g.J1 g.Jk) [0,1] 2 2
def SZ09 (g : Gm) : ASp:=spS (asZ09 (SZ0b g) (SZ07 g) (SZ0e g) (SZ0d g)) [0,1,2,3,4] 7 5
def SZ05 (g : Gm) : ASp:=spS (asZ05 (SZ0e g) (SZ0h g)) [0,1] 6 2
def SZ00 (g : Gm) : ASp:=spS (asZ00 g.J1 g.Jk (SZ0i g)) [0,1,2,3] 6 4
def SZ04 (g : Gm) : ASp:=spS (asZ04 g.K g.J1 g.Jk (SZ0a g)) [0,1] 4 2
def SZ0f (g : Gm) : ASp:=spS (asZ0f g.K g.J1 (SZ04 g) (SZ0a g)) [0,1] 6 2
def SZ0g (g : Gm) : ASp:=spS (asZ0g g.K g.J1 g.Jk g.Ub (SZ00 g)) [0] 5 1
def SZ0l (g : Gm) : ASp:=spS (asZ0l g.K g.J1 (SZ08 g) (SZ09 g) (SZ0c g) (SZ0e g) (SZ05 g) (SZ0g g) (SZ01 g) (SZ0f g) (SZ00 g) (SZ06 g)) [0] 13 1
end Law
namespace Law
open PySem PySem.Spec PyProof.Rows L2 Vs
variable [Tbs]
abbrev FnP (K : PySem.W.Frag) (x q : Str) (st : Stmt) (dv : List V) (f : Addr) (fd : FuncData) : Prop:=FunD K x q (defArgs st) (defBody st) (defScope st) dv [] f fd
theorem Bf : bootBuiltins "str" = some (.type "str"):=by decide +kernel
theorem L9 : bootBuiltins "list" = some (.type "list"):=by decide +kernel
theorem Fm : bootBuiltins "tuple" = some (.type "tuple"):=by decide +kernel
section
variable {Pr : Program} {w : World} {K : PySem.W.Frag} {mg : Str → Option Value} {base : Heap}
abbrev sZ0k : Stmt:=top 4
theorem scZ0k : FnScope ["value"] ["value"] (defScope sZ0k):=⟨rfl,rfl,rfl,by decide +kernel,rfl,by decide +kernel,by decide +kernel⟩
theorem wkZ0k {f : Addr} {fd : FuncData} {sp : ASp} (g_isinstance : mg ("isinstance" : Str) = none) (g_list : mg ("list" : Str) = none) (g_tuple : mg ("tuple" : Str) = none) (F : FnP K ("is_row" : Str) ("is_row" : Str) sZ0k [] f fd) (hlen : ∀ xs,sp.pre xs → xs.length = 1)
    (rd : ∀ xs,sp.pre xs → asZ0k K (U9 [0] sp xs) (Yn 1 xs)) : Fok Pr w K mg base 1 f fd ["value"] sp:=by
  refine Ux (N:=["value"]) (k:=0) [0] F scZ0k hlen (by decide) (fun cdv Ar outer s H E hr=>⟨asZ0k K,?_,rd⟩)
  have hx:=fun σ=>passAt (X:=cxOf (L2.CX Pr w) Pr w K mg base ["value"] ("is_row" : Str) (defScope sZ0k) f cdv Ar outer s H E) (W:=fun cls d _ H=>E cls d H) (takes_of rfl rfl rfl rfl) σ
  have hp : PassesOwn _ _ _ (cxOf (L2.CX Pr w) Pr w K mg base ["value"] ("is_row" : Str) (defScope sZ0k) f cdv Ar outer s H E).xe:=passes_of rfl
  have tk:=takes_of (X:=cxOf (L2.CX Pr w) Pr w K mg base ["value"] ("is_row" : Str) (defScope sZ0k) f cdv Ar outer s H E) rfl rfl rfl rfl
  have hu:=hr.units
  have sc:=scZ0k
  exact (Y3 (Yg (Sz rfl g_isinstance (qv 0) (Vq rfl g_list L9) (Vq rfl g_tuple Fm))))
abbrev sZ03 : Stmt:=top 10
theorem scZ03 : FnScope ["value","char"] ["value"] (defScope sZ03):=⟨rfl,rfl,rfl,by decide +kernel,rfl,by decide +kernel,by decide +kernel⟩
theorem wkZ03 {f : Addr} {fd : FuncData} {sp : ASp} (g_isinstance : mg ("isinstance" : Str) = none) (g_str : mg ("str" : Str) = none) (g_len : mg ("len" : Str) = none) (g_all : mg ("all" : Str) = none) (g_ord : mg ("ord" : Str) = none) (k_LONGEST_MARK : ∃ t,mg ("LONGEST_MARK" : Str) = some (.int 6 t)) (F : FnP K ("is_mark_text" : Str) ("is_mark_text" : Str) sZ03 [] f fd) (hlen : ∀ xs,sp.pre xs → xs.length = 1)
    (rd : ∀ xs,sp.pre xs → asZ03 K (U9 [0] sp xs) (Yn 2 xs)) : Fok Pr w K mg base 1 f fd ["value"] sp:=by
  refine Ux (N:=["value","char"]) (k:=0) [0] F scZ03 hlen (by decide) (fun cdv Ar outer s H E hr=>⟨asZ03 K,?_,rd⟩)
  have hx:=fun σ=>passAt (X:=cxOf (L2.CX Pr w) Pr w K mg base ["value","char"] ("is_mark_text" : Str) (defScope sZ03) f cdv Ar outer s H E) (W:=fun cls d _ H=>E cls d H) (takes_of rfl rfl rfl rfl) σ
  have hp : PassesOwn _ _ _ (cxOf (L2.CX Pr w) Pr w K mg base ["value","char"] ("is_mark_text" : Str) (defScope sZ03) f cdv Ar outer s H E).xe:=passes_of rfl
  have tk:=takes_of (X:=cxOf (L2.CX Pr w) Pr w K mg base ["value","char"] ("is_mark_text" : Str) (defScope sZ03) f cdv Ar outer s H E) rfl rfl rfl rfl
  have hu:=hr.units
  have sc:=scZ03
  exact (Jr (Yz (Vt (Vl (V8 (Vd (Wf rfl g_isinstance (qv 0) (Vq rfl g_str Bf)))) (Wn (V8 (En op_le Fu op_le Fu Jn (Ua V9 V5 rfl g_len boot_len (J4 (qv 0) Jc)) (Ti k_LONGEST_MARK rfl)))))) (Y3 (Je [] (Yg Vw))) U3)
    (Y3 (Je [] (Yg (Ua (cr_all rfl) Pe rfl g_all PyProof.Rows.boot_all (J4 (G5 [(("char" : Str),1)] rfl sc.nd (show BlkOk ["value","char"] (defScope sZ03) _ [(("char" : Str),1)] from blkOk_by (by decide +kernel)) (W6 (qv 0)) (fun _ _ _ _ _=>(V3 (i:=1) sc.nd rfl (by first | exact Or.inl rfl | exact Or.inr rfl) (show 1 ∉ ([0] : List Nat) from by decide))) (fun _ _ _ _ _=>Ks) (fun _ _ _ _ _=>(JKk op_le Fu op_le Fu Jn (Ua call_ord JLd rfl g_ord PyProof.Rows.boot_ord (J4 (qv 1) Jc)) Jn)) (show ∀ v ∈ ([1] : List Nat),v ∉ ([0] : List Nat) from by decide) (show ∀ i ∈ ([1] : List Nat),i ∈ ([1] : List Nat) from by decide)) Jc))))))
abbrev sZ06 : Stmt:=W0 13 1
theorem scZ06 : FnScope ["self","other"] ["self","other"] (defScope sZ06):=⟨rfl,rfl,rfl,by decide +kernel,rfl,by decide +kernel,by decide +kernel⟩
theorem wkZ06 {f : Addr} {fd : FuncData} {sp : ASp} {J1 : Addr} (cl_Form : Cls K J1) (na_Form__shapes : NoAttr K J1 ("_shapes" : Str)) (gc_Form : mg ("Form" : Str) = some (.ref J1)) (g_isinstance : mg ("isinstance" : Str) = none) (F : FnP K ("__eq__" : Str) ("Form.__eq__" : Str) sZ06 [] f fd) (hlen : ∀ xs,sp.pre xs → xs.length = 2)
    (rd : ∀ xs,sp.pre xs → asZ06 K J1 (U9 [0,1] sp xs) (Yn 2 xs)) : Fok Pr w K mg base 1 f fd ["self","other"] sp:=by
  refine Ux (N:=["self","other"]) (k:=0) [0,1] F scZ06 hlen (by decide) (fun cdv Ar outer s H E hr=>⟨asZ06 K J1,?_,rd⟩)
  have hx:=fun σ=>passAt (X:=cxOf (L2.CX Pr w) Pr w K mg base ["self","other"] ("Form.__eq__" : Str) (defScope sZ06) f cdv Ar outer s H E) (W:=fun cls d _ H=>E cls d H) (takes_of rfl rfl rfl rfl) σ
  have hp : PassesOwn _ _ _ (cxOf (L2.CX Pr w) Pr w K mg base ["self","other"] ("Form.__eq__" : Str) (defScope sZ06) f cdv Ar outer s H E).xe:=passes_of rfl
  have tk:=takes_of (X:=cxOf (L2.CX Pr w) Pr w K mg base ["self","other"] ("Form.__eq__" : Str) (defScope sZ06) f cdv Ar outer s H E) rfl rfl rfl rfl
  have hu:=hr.units
  have sc:=scZ06
  exact (Y3 (Yg (G6 (Wf rfl g_isinstance (qv 1) (Ox rfl gc_Form)) (O4 (Zf (JY0 hu) JYc (Pz cl_Form na_Form__shapes (qv 0)) (Pz cl_Form na_Form__shapes (qv 1)) (nomark _))))))
abbrev sZ08 : Stmt:=top 15
theorem scZ08 : FnScope ["_law_script","_law_k","_law_cell"] ["_law_script","_law_k"] (defScope sZ08):=⟨rfl,rfl,rfl,by decide +kernel,rfl,by decide +kernel,by decide +kernel⟩
theorem wkZ08 {f : Addr} {fd : FuncData} {sp : ASp} (g_len : mg ("len" : Str) = none) (g_abs : mg ("abs" : Str) = none) (g_int : mg ("int" : Str) = none) (F : FnP K ("_law_stream" : Str) ("_law_stream" : Str) sZ08 [] f fd) (hlen : ∀ xs,sp.pre xs → xs.length = 2)
    (rd : ∀ xs,sp.pre xs → asZ08 (U9 [0,1] sp xs) (Yn 3 xs)) : Fok Pr w K mg base 1 f fd ["_law_script","_law_k"] sp:=by
  refine Ux (N:=["_law_script","_law_k","_law_cell"]) (k:=0) [0,1] F scZ08 hlen (by decide) (fun cdv Ar outer s H E hr=>⟨asZ08,?_,rd⟩)
  have hx:=fun σ=>passAt (X:=cxOf (L2.CX Pr w) Pr w K mg base ["_law_script","_law_k","_law_cell"] ("_law_stream" : Str) (defScope sZ08) f cdv Ar outer s H E) (W:=fun cls d _ H=>E cls d H) (takes_of rfl rfl rfl rfl) σ
  have hp : PassesOwn _ _ _ (cxOf (L2.CX Pr w) Pr w K mg base ["_law_script","_law_k","_law_cell"] ("_law_stream" : Str) (defScope sZ08) f cdv Ar outer s H E).xe:=passes_of rfl
  have tk:=takes_of (X:=cxOf (L2.CX Pr w) Pr w K mg base ["_law_script","_law_k","_law_cell"] ("_law_stream" : Str) (defScope sZ08) f cdv Ar outer s H E) rfl rfl rfl rfl
  have hu:=hr.units
  have sc:=scZ08
  exact (Jr (Yo (i:=2) sc.nd rfl (by first | exact Or.inl rfl | exact Or.inr rfl) Jn (show 2 ∉ ([0,1] : List Nat) from by decide))
    (Jr (Je [] (Yz (Yr op_lt F5 (qv 1) (Ua V9 V5 rfl g_len boot_len (J4 (qv 0) Jc)) (nomark _)) (Y3 (Je [2] (Yo (i:=2) sc.nd rfl (by first | exact Or.inl rfl | exact Or.inr rfl) (Ua call_abs JKg rfl g_abs PyProof.Rows.boot_abs (J4 (Yi hu (qv 0) (qv 1)) Jc)) (show 2 ∉ ([0,1] : List Nat) from by decide)))) U3))
    (Y3 (Je [] (Yg (Ur (J4 (qv 2) (J4 (W2 call_int1 Bt rfl g_int PyProof.Rows.boot_int (J4 (Zf op_ge JGf (qv 2) (Ys op_pow JBl Jn Jn) (nomark _)) Jc)) (J4 (Ys op_mul G4 Jn (qv 1)) Jc)))))))))
abbrev sZ0e : Stmt:=top 16
theorem scZ0e : FnScope ["_law_stream_here","_law_many","_law_digit","_law_mixed"] ["_law_stream_here","_law_many"] (defScope sZ0e):=⟨rfl,rfl,rfl,by decide +kernel,rfl,by decide +kernel,by decide +kernel⟩
theorem wkZ0e {f : Addr} {fd : FuncData} {sp : ASp} (g_int : mg ("int" : Str) = none) (F : FnP K ("_law_draw" : Str) ("_law_draw" : Str) sZ0e [] f fd) (hlen : ∀ xs,sp.pre xs → xs.length = 2)
    (rd : ∀ xs,sp.pre xs → asZ0e (U9 [0,1] sp xs) (Yn 4 xs)) : Fok Pr w K mg base 1 f fd ["_law_stream_here","_law_many"] sp:=by
  refine Ux (N:=["_law_stream_here","_law_many","_law_digit","_law_mixed"]) (k:=0) [0,1] F scZ0e hlen (by decide) (fun cdv Ar outer s H E hr=>⟨asZ0e,?_,rd⟩)
  have hx:=fun σ=>passAt (X:=cxOf (L2.CX Pr w) Pr w K mg base ["_law_stream_here","_law_many","_law_digit","_law_mixed"] ("_law_draw" : Str) (defScope sZ0e) f cdv Ar outer s H E) (W:=fun cls d _ H=>E cls d H) (takes_of rfl rfl rfl rfl) σ
  have hp : PassesOwn _ _ _ (cxOf (L2.CX Pr w) Pr w K mg base ["_law_stream_here","_law_many","_law_digit","_law_mixed"] ("_law_draw" : Str) (defScope sZ0e) f cdv Ar outer s H E).xe:=passes_of rfl
  have tk:=takes_of (X:=cxOf (L2.CX Pr w) Pr w K mg base ["_law_stream_here","_law_many","_law_digit","_law_mixed"] ("_law_draw" : Str) (defScope sZ0e) f cdv Ar outer s H E) rfl rfl rfl rfl
  have hu:=hr.units
  have sc:=scZ0e
  exact (Jr (H9 hu (Ys Vh Vf (Yi hu (qr 0) Jn) Jn) (qr 0) Jn)
    (Jr (Je [] (Yz (Vt (Gg (Yr (or_eq hu) s_eq (Yi hu (qr 0) Jn) Jn (nomark _)) (K7 (Yr op_gt L4 (Yi hu (qr 0) Jn) Jn (nomark _))))) (Jr (Je [] (Yo (i:=2) sc.nd rfl (by first | exact Or.inl rfl | exact Or.inr rfl) (Ys op_mod Hl (W2 call_int1 Bt rfl g_int PyProof.Rows.boot_int (J4 (Yi hu (qr 0) Jn) Jc)) (qv 1)) (show 2 ∉ ([0,1] : List Nat) from by decide)))
    (Jr (Je [] (H9 hu (Ys op_fdivW M0 (W2 call_int1 Bt rfl g_int PyProof.Rows.boot_int (J4 (Yi hu (qr 0) Jn) Jc)) (qv 1)) (qr 0) Jn))
    (Y3 (Je [] (Yg (qv 2)))))) U3))
    (Jr (Je [2] (Yo (i:=3) sc.nd rfl (by first | exact Or.inl rfl | exact Or.inr rfl) (Ys op_mod Hl (W2 call_int1 Bt rfl g_int PyProof.Rows.boot_int (J4 (Ys op_mul G4 (Ys Vh Vf (Ys Vh Vf (Yi hu (qr 0) Jn) (Ys op_mul G4 Jn (Yi hu (qr 0) Jn))) Jn) Jn) Jc)) Jn) (show 3 ∉ ([0,1] : List Nat) from by decide)))
    (Jr (Je [] (Yo (i:=3) sc.nd rfl (by first | exact Or.inl rfl | exact Or.inr rfl) (Ys op_mod Hl (W2 call_int1 Bt rfl g_int PyProof.Rows.boot_int (J4 (Ys op_mul G4 (qv 3) (Ys Vh Vf (Ys op_fdivW M0 (qv 3) Jn) Jn)) Jc)) Jn) (show 3 ∉ ([0,1] : List Nat) from by decide)))
    (Jr (Je [] (Yo (i:=3) sc.nd rfl (by first | exact Or.inl rfl | exact Or.inr rfl) (Ys op_mod Hl (W2 call_int1 Bt rfl g_int PyProof.Rows.boot_int (J4 (Ys op_mul G4 (qv 3) (Ys Vh Vf (Ys op_fdivW M0 (qv 3) Jn) Jn)) Jc)) Jn) (show 3 ∉ ([0,1] : List Nat) from by decide)))
    (Y3 (Je [] (Yg (Ys op_mod Hl (W2 call_int1 Bt rfl g_int PyProof.Rows.boot_int (J4 (Ys op_fdivW M0 (qv 3) Jn) Jc)) (qv 1))))))))))
abbrev sZ07 : Stmt:=top 17
theorem scZ07 : FnScope ["_law_word"] ["_law_word"] (defScope sZ07):=⟨rfl,rfl,rfl,by decide +kernel,rfl,by decide +kernel,by decide +kernel⟩
theorem wkZ07 {f : Addr} {fd : FuncData} {sp : ASp} (F : FnP K ("_law_fields" : Str) ("_law_fields" : Str) sZ07 [] f fd) (hlen : ∀ xs,sp.pre xs → xs.length = 1)
    (rd : ∀ xs,sp.pre xs → asZ07 (U9 [0] sp xs) (Yn 1 xs)) : Fok Pr w K mg base 1 f fd ["_law_word"] sp:=by
  refine Ux (N:=["_law_word"]) (k:=0) [0] F scZ07 hlen (by decide) (fun cdv Ar outer s H E hr=>⟨asZ07,?_,rd⟩)
  have hx:=fun σ=>passAt (X:=cxOf (L2.CX Pr w) Pr w K mg base ["_law_word"] ("_law_fields" : Str) (defScope sZ07) f cdv Ar outer s H E) (W:=fun cls d _ H=>E cls d H) (takes_of rfl rfl rfl rfl) σ
  have hp : PassesOwn _ _ _ (cxOf (L2.CX Pr w) Pr w K mg base ["_law_word"] ("_law_fields" : Str) (defScope sZ07) f cdv Ar outer s H E).xe:=passes_of rfl
  have tk:=takes_of (X:=cxOf (L2.CX Pr w) Pr w K mg base ["_law_word"] ("_law_fields" : Str) (defScope sZ07) f cdv Ar outer s H E) rfl rfl rfl rfl
  have hu:=hr.units
  have sc:=scZ07
  exact (Jr (Yz (Yr (or_eq hu) s_eq (qv 0) Jj (nomark _)) (Y3 (Je [] (Yg (Ur (J4 Jj (J4 Jj (J4 Jj (J4 Jj (J4 Jj (J4 Jj Jc)))))))))) U3)
    (Jr (Je [] (Yz (Yr (or_eq hu) s_eq (qv 0) Jj (nomark _)) (Y3 (Je [] (Yg (Ur (J4 Jj (J4 Jj (J4 Jj (J4 Jj Jc)))))))) U3))
    (Y3 (Je [] (Yg (Ur (J4 Jj (J4 Jj Jc))))))))
abbrev sZ0c : Stmt:=top 20
theorem scZ0c : FnScope ["_law_low"] [] (defScope sZ0c):=⟨rfl,rfl,rfl,by decide +kernel,rfl,by decide +kernel,by decide +kernel⟩
theorem wkZ0c {f : Addr} {fd : FuncData} {sp : ASp} (F : FnP K ("_law_signs" : Str) ("_law_signs" : Str) sZ0c [] f fd) (hlen : ∀ xs,sp.pre xs → xs.length = 0)
    (rd : ∀ xs,sp.pre xs → asZ0c (U9 [] sp xs) (Yn 1 xs)) : Fok Pr w K mg base 1 f fd [] sp:=by
  refine Ux (N:=["_law_low"]) (k:=0) [] F scZ0c hlen (by decide) (fun cdv Ar outer s H E hr=>⟨asZ0c,?_,rd⟩)
  have hx:=fun σ=>passAt (X:=cxOf (L2.CX Pr w) Pr w K mg base ["_law_low"] ("_law_signs" : Str) (defScope sZ0c) f cdv Ar outer s H E) (W:=fun cls d _ H=>E cls d H) (takes_of rfl rfl rfl rfl) σ
  have hp : PassesOwn _ _ _ (cxOf (L2.CX Pr w) Pr w K mg base ["_law_low"] ("_law_signs" : Str) (defScope sZ0c) f cdv Ar outer s H E).xe:=passes_of rfl
  have tk:=takes_of (X:=cxOf (L2.CX Pr w) Pr w K mg base ["_law_low"] ("_law_signs" : Str) (defScope sZ0c) f cdv Ar outer s H E) rfl rfl rfl rfl
  have hu:=hr.units
  have sc:=scZ0c
  exact (Jr (Yo (i:=0) sc.nd rfl (by first | exact Or.inl rfl | exact Or.inr rfl) Jj (show 0 ∉ ([] : List Nat) from by decide))
    (Y3 (Je [] (Yg (Ys Vh Vf (qv 0) Jj)))))
abbrev sZ02 : Stmt:=top 24
theorem scZ02 : FnScope ["_law_thing","_law_sign"] ["_law_thing"] (defScope sZ02):=⟨rfl,rfl,rfl,by decide +kernel,rfl,by decide +kernel,by decide +kernel⟩
theorem wkZ02 {f : Addr} {fd : FuncData} {sp : ASp} (g_isinstance : mg ("isinstance" : Str) = none) (g_str : mg ("str" : Str) = none) (g_len : mg ("len" : Str) = none) (F : FnP K ("_law_is_text" : Str) ("_law_is_text" : Str) sZ02 [] f fd) (hlen : ∀ xs,sp.pre xs → xs.length = 1)
    (rd : ∀ xs,sp.pre xs → asZ02 K (U9 [0] sp xs) (Yn 2 xs)) : Fok Pr w K mg base 1 f fd ["_law_thing"] sp:=by
  refine Ux (N:=["_law_thing","_law_sign"]) (k:=0) [0] F scZ02 hlen (by decide) (fun cdv Ar outer s H E hr=>⟨asZ02 K,?_,rd⟩)
  have hx:=fun σ=>passAt (X:=cxOf (L2.CX Pr w) Pr w K mg base ["_law_thing","_law_sign"] ("_law_is_text" : Str) (defScope sZ02) f cdv Ar outer s H E) (W:=fun cls d _ H=>E cls d H) (takes_of rfl rfl rfl rfl) σ
  have hp : PassesOwn _ _ _ (cxOf (L2.CX Pr w) Pr w K mg base ["_law_thing","_law_sign"] ("_law_is_text" : Str) (defScope sZ02) f cdv Ar outer s H E).xe:=passes_of rfl
  have tk:=takes_of (X:=cxOf (L2.CX Pr w) Pr w K mg base ["_law_thing","_law_sign"] ("_law_is_text" : Str) (defScope sZ02) f cdv Ar outer s H E) rfl rfl rfl rfl
  have hu:=hr.units
  have sc:=scZ02
  exact (Jr (Yz (Vt (Vl (V8 (Vd (Wf rfl g_isinstance (qv 0) (Vq rfl g_str Bf)))) (Vl (Yr op_lt F5 (Ua V9 V5 rfl g_len boot_len (J4 (qv 0) Jc)) Jn (nomark _)) (Wn (Yr op_gt L4 (Ua V9 V5 rfl g_len boot_len (J4 (qv 0) Jc)) Jn (nomark _)))))) (Y3 (Je [] (Yg Vw))) U3)
    (Y3 (Je [] (Yg (Zf (or_eq hu) s_eq (Ua V9 V5 rfl g_len boot_len (J4 (G5 [(("_law_sign" : Str),1)] rfl sc.nd (show BlkOk ["_law_thing","_law_sign"] (defScope sZ02) _ [(("_law_sign" : Str),1)] from blkOk_by (by decide +kernel)) (W6 (qv 0)) (fun _ _ _ _ _=>(V3 (i:=1) sc.nd rfl (by first | exact Or.inl rfl | exact Or.inr rfl) (show 1 ∉ ([0] : List Nat) from by decide))) (fun _ _ _ _ _=>(O6 (Vt (Vl (Yr op_lt_str JGd (qv 1) Jj (nomark _)) (Wn (Yr op_gt_str JXn (qv 1) Jj (nomark _))))))) (fun _ _ _ _ _=>(qv 1)) (show ∀ v ∈ ([1] : List Nat),v ∉ ([0] : List Nat) from by decide) (show ∀ i ∈ ([1] : List Nat),i ∈ ([1] : List Nat) from by decide)) Jc)) Jn (nomark _))))))
abbrev sZ0j : Stmt:=top 11
theorem scZ0j : FnScope ["value","fields"] ["value","fields"] (defScope sZ0j):=⟨rfl,rfl,rfl,by decide +kernel,rfl,by decide +kernel,by decide +kernel⟩
theorem wkZ0j {f : Addr} {fd : FuncData} {sp : ASp} {spZ03 : ASp} (cZ03 : Cal Pr w K mg base ("is_mark_text" : Str) 1 ["value"] spZ03) (g_isinstance : mg ("isinstance" : Str) = none) (g_tuple : mg ("tuple" : Str) = none) (g_len : mg ("len" : Str) = none) (g_str : mg ("str" : Str) = none) (F : FnP K ("is_piece" : Str) ("is_piece" : Str) sZ0j [] f fd) (hlen : ∀ xs,sp.pre xs → xs.length = 2)
    (rd : ∀ xs,sp.pre xs → asZ0j K spZ03 (U9 [0,1] sp xs) (Yn 2 xs)) : Fok Pr w K mg base 2 f fd ["value","fields"] sp:=by
  refine Ux (N:=["value","fields"]) (k:=1) [0,1] F scZ0j hlen (by decide) (fun cdv Ar outer s H E hr=>⟨asZ0j K spZ03,?_,rd⟩)
  have hx:=fun σ=>passAt (X:=cxOf (L2.CX Pr w) Pr w K mg base ["value","fields"] ("is_piece" : Str) (defScope sZ0j) f cdv Ar outer s H E) (W:=fun cls d _ H=>E cls d H) (takes_of rfl rfl rfl rfl) σ
  have hp : PassesOwn _ _ _ (cxOf (L2.CX Pr w) Pr w K mg base ["value","fields"] ("is_piece" : Str) (defScope sZ0j) f cdv Ar outer s H E).xe:=passes_of rfl
  have tk:=takes_of (X:=cxOf (L2.CX Pr w) Pr w K mg base ["value","fields"] ("is_piece" : Str) (defScope sZ0j) f cdv Ar outer s H E) rfl rfl rfl rfl
  have hu:=hr.units
  have sc:=scZ0j
  exact (Jr (Yz (Vt (Vl (V8 (Vd (Wf rfl g_isinstance (qv 0) (Vq rfl g_tuple Fm)))) (Vl (Yr (Bv hu) Fb (Ua V9 V5 rfl g_len boot_len (J4 (qv 0) Jc)) Jn (nomark _)) (Wn (V8 (Vd (Wf rfl g_isinstance (Yi hu (qv 0) Jn) (Vq rfl g_str Bf)))))))) (Y3 (Je [] (Yg Vw))) U3)
    (Jr (Je [] (Yz (Yr (or_eq hu) s_eq (Yi hu (qv 0) Jn) Jj (nomark _)) (Y3 (Je [] (Yg (U1 cZ03 (hr.mono (by decide)) rfl hx (J4 (Yi hu (qv 0) Jn) Jc))))) U3))
    (Y3 (Je [] (Yg (G6 (Zf (or_eq hu) s_eq (Yi hu (qv 0) Jn) Jj (nomark _)) (G6 (Wf rfl g_isinstance (Yi hu (qv 0) Jn) (Vq rfl g_str Bf)) (O4 (Zf (Cm hu) Ph (Yi hu (qv 0) Jn) (qv 1) (by rfl))))))))))
abbrev sZ0b : Stmt:=top 18
theorem scZ0b : FnScope ["_law_stream_here","_law_items","_law_found","_law_item"] ["_law_stream_here","_law_items"] (defScope sZ0b):=⟨rfl,rfl,rfl,by decide +kernel,rfl,by decide +kernel,by decide +kernel⟩
theorem wkZ0b {f : Addr} {fd : FuncData} {sp : ASp} {spZ0e : ASp} (cZ0e : Cal Pr w K mg base ("_law_draw" : Str) 1 ["_law_stream_here","_law_many"] spZ0e) (g_len : mg ("len" : Str) = none) (F : FnP K ("_law_order" : Str) ("_law_order" : Str) sZ0b [] f fd) (hlen : ∀ xs,sp.pre xs → xs.length = 2)
    (rd : ∀ xs,sp.pre xs → asZ0b spZ0e (U9 [0,1] sp xs) (Yn 4 xs)) : Fok Pr w K mg base 2 f fd ["_law_stream_here","_law_items"] sp:=by
  refine Ux (N:=["_law_stream_here","_law_items","_law_found","_law_item"]) (k:=1) [0,1] F scZ0b hlen (by decide) (fun cdv Ar outer s H E hr=>⟨asZ0b spZ0e,?_,rd⟩)
  have hx:=fun σ=>passAt (X:=cxOf (L2.CX Pr w) Pr w K mg base ["_law_stream_here","_law_items","_law_found","_law_item"] ("_law_order" : Str) (defScope sZ0b) f cdv Ar outer s H E) (W:=fun cls d _ H=>E cls d H) (takes_of rfl rfl rfl rfl) σ
  have hp : PassesOwn _ _ _ (cxOf (L2.CX Pr w) Pr w K mg base ["_law_stream_here","_law_items","_law_found","_law_item"] ("_law_order" : Str) (defScope sZ0b) f cdv Ar outer s H E).xe:=passes_of rfl
  have tk:=takes_of (X:=cxOf (L2.CX Pr w) Pr w K mg base ["_law_stream_here","_law_items","_law_found","_law_item"] ("_law_order" : Str) (defScope sZ0b) f cdv Ar outer s H E) rfl rfl rfl rfl
  have hu:=hr.units
  have sc:=scZ0b
  exact (Jr (Yo (i:=2) sc.nd rfl (by first | exact Or.inl rfl | exact Or.inr rfl) (Ur Jc) (show 2 ∉ ([0,1] : List Nat) from by decide))
    (Jr (Je [] (Za hp rfl (W6 (qv 1)) (V3 (i:=3) sc.nd rfl (by first | exact Or.inl rfl | exact Or.inr rfl) (show 3 ∉ ([0,1] : List Nat) from by decide)) (Xg [3] (Y3 (Je [] (Zw (E3 (qr 2) (U1 cZ0e (hr.mono (by decide)) rfl hx (J4 (qr 0) (J4 (Ys Vh Vf (Ua V9 V5 rfl g_len boot_len (J4 (qr 2) Jc)) Jn) Jc))) (qv 3))))))))
    (Y3 (Je [] (Yg (qr 2))))))
abbrev sZ0d : Stmt:=top 19
theorem scZ0d : FnScope ["_law_stream_here","_law_signs_here","_law_most","_law_text","_law_k"] ["_law_stream_here","_law_signs_here","_law_most"] (defScope sZ0d):=⟨rfl,rfl,rfl,by decide +kernel,rfl,by decide +kernel,by decide +kernel⟩
theorem wkZ0d {f : Addr} {fd : FuncData} {sp : ASp} {spZ0e : ASp} (cZ0e : Cal Pr w K mg base ("_law_draw" : Str) 1 ["_law_stream_here","_law_many"] spZ0e) (g_range : mg ("range" : Str) = none) (g_len : mg ("len" : Str) = none) (F : FnP K ("_law_mark" : Str) ("_law_mark" : Str) sZ0d [] f fd) (hlen : ∀ xs,sp.pre xs → xs.length = 3)
    (rd : ∀ xs,sp.pre xs → asZ0d spZ0e (U9 [0,1,2] sp xs) (Yn 5 xs)) : Fok Pr w K mg base 2 f fd ["_law_stream_here","_law_signs_here","_law_most"] sp:=by
  refine Ux (N:=["_law_stream_here","_law_signs_here","_law_most","_law_text","_law_k"]) (k:=1) [0,1,2] F scZ0d hlen (by decide) (fun cdv Ar outer s H E hr=>⟨asZ0d spZ0e,?_,rd⟩)
  have hx:=fun σ=>passAt (X:=cxOf (L2.CX Pr w) Pr w K mg base ["_law_stream_here","_law_signs_here","_law_most","_law_text","_law_k"] ("_law_mark" : Str) (defScope sZ0d) f cdv Ar outer s H E) (W:=fun cls d _ H=>E cls d H) (takes_of rfl rfl rfl rfl) σ
  have hp : PassesOwn _ _ _ (cxOf (L2.CX Pr w) Pr w K mg base ["_law_stream_here","_law_signs_here","_law_most","_law_text","_law_k"] ("_law_mark" : Str) (defScope sZ0d) f cdv Ar outer s H E).xe:=passes_of rfl
  have tk:=takes_of (X:=cxOf (L2.CX Pr w) Pr w K mg base ["_law_stream_here","_law_signs_here","_law_most","_law_text","_law_k"] ("_law_mark" : Str) (defScope sZ0d) f cdv Ar outer s H E) rfl rfl rfl rfl
  have hu:=hr.units
  have sc:=scZ0d
  exact (Jr (Yo (i:=3) sc.nd rfl (by first | exact Or.inl rfl | exact Or.inr rfl) Jj (show 3 ∉ ([0,1,2] : List Nat) from by decide))
    (Jr (Je [] (Za hp rfl (JWj rfl g_range (J4 (Ys Vh Vf Jn (U1 cZ0e (hr.mono (by decide)) rfl hx (J4 (qr 0) (J4 (qv 2) Jc)))) Jc)) (V3 (i:=4) sc.nd rfl (by first | exact Or.inl rfl | exact Or.inr rfl) (show 4 ∉ ([0,1,2] : List Nat) from by decide)) (Y3 (Je [4] (Yo (i:=3) sc.nd rfl (by first | exact Or.inl rfl | exact Or.inr rfl) (Wj (Ys Vh Vf (qv 3) (Yi hu (qv 1) (U1 cZ0e (hr.mono (by decide)) rfl hx (J4 (qr 0) (J4 (Ua V9 V5 rfl g_len boot_len (J4 (qv 1) Jc)) Jc)))))) (show 3 ∉ ([0,1,2] : List Nat) from by decide))))))
    (Y3 (Je [] (Yg (qv 3))))))
abbrev sZ0h : Stmt:=top 22
theorem scZ0h : FnScope ["_law_stream_here","_law_odd_here"] ["_law_stream_here"] (defScope sZ0h):=⟨rfl,rfl,rfl,by decide +kernel,rfl,by decide +kernel,by decide +kernel⟩
theorem wkZ0h {f : Addr} {fd : FuncData} {sp : ASp} {spZ0e : ASp} (cZ0e : Cal Pr w K mg base ("_law_draw" : Str) 1 ["_law_stream_here","_law_many"] spZ0e) (F : FnP K ("_law_odd" : Str) ("_law_odd" : Str) sZ0h [] f fd) (hlen : ∀ xs,sp.pre xs → xs.length = 1)
    (rd : ∀ xs,sp.pre xs → asZ0h spZ0e (U9 [0] sp xs) (Yn 2 xs)) : Fok Pr w K mg base 2 f fd ["_law_stream_here"] sp:=by
  refine Ux (N:=["_law_stream_here","_law_odd_here"]) (k:=1) [0] F scZ0h hlen (by decide) (fun cdv Ar outer s H E hr=>⟨asZ0h spZ0e,?_,rd⟩)
  have hx:=fun σ=>passAt (X:=cxOf (L2.CX Pr w) Pr w K mg base ["_law_stream_here","_law_odd_here"] ("_law_odd" : Str) (defScope sZ0h) f cdv Ar outer s H E) (W:=fun cls d _ H=>E cls d H) (takes_of rfl rfl rfl rfl) σ
  have hp : PassesOwn _ _ _ (cxOf (L2.CX Pr w) Pr w K mg base ["_law_stream_here","_law_odd_here"] ("_law_odd" : Str) (defScope sZ0h) f cdv Ar outer s H E).xe:=passes_of rfl
  have tk:=takes_of (X:=cxOf (L2.CX Pr w) Pr w K mg base ["_law_stream_here","_law_odd_here"] ("_law_odd" : Str) (defScope sZ0h) f cdv Ar outer s H E) rfl rfl rfl rfl
  have hu:=hr.units
  have sc:=scZ0h
  exact (Jr (Yo (i:=1) sc.nd rfl (by first | exact Or.inl rfl | exact Or.inr rfl) (Wj (Ur (J4 Xk (J4 Vw (J4 Jn (J4 Jj (J4 (Ug (J4 Jj (J4 Jj Jc))) (J4 (Ug (J4 Jj (J4 Jj Jc))) (J4 (Ug (J4 Jj (J4 Jj Jc))) (J4 (Ug (J4 Jj (J4 Jj Jc))) (J4 (Ug (J4 Jj (J4 Jn Jc))) Jc))))))))))) (show 1 ∉ ([0] : List Nat) from by decide))
    (Jr (Je [] (Yo (i:=1) sc.nd rfl (by first | exact Or.inl rfl | exact Or.inr rfl) (Wj (Ys Vh Vf (qv 1) (Ur (J4 (Ur (J4 Jj (J4 Jj Jc))) (J4 (Ug (J4 Jj (J4 Jj (J4 Jj Jc)))) (J4 (Ug (J4 Jj (J4 Xk Jc))) (J4 (Ug (J4 Jj (J4 (Ur (J4 Jj Jc)) Jc))) (J4 (Ug (J4 Jj Jc)) (J4 (Ug Jc) (J4 (Ug (J4 Jj (J4 Jj Jc))) Jc)))))))))) (show 1 ∉ ([0] : List Nat) from by decide)))
    (Jr (Je [] (Yo (i:=1) sc.nd rfl (by first | exact Or.inl rfl | exact Or.inr rfl) (Wj (Ys Vh Vf (qv 1) (Ur (J4 (Ug (J4 Xk (J4 Jj Jc))) (J4 (JWu (Lo Jj Jj Qj) rfl rfl (by decide) (by decide)) (J4 (Ug (J4 Jj (J4 Jj Jc))) (J4 (Ug (J4 Jj (J4 Jj Jc))) (J4 (Ug (J4 Jj (J4 Xk Jc))) (J4 (Ug (J4 Jj (J4 Jj Jc))) Jc))))))))) (show 1 ∉ ([0] : List Nat) from by decide)))
    (Y3 (Je [] (Yg (Yi hu (qv 1) (U1 cZ0e (hr.mono (by decide)) rfl hx (J4 (qr 0) (J4 Jn Jc))))))))))
abbrev sZ01 : Stmt:=top 25
theorem scZ01 : FnScope ["_law_thing","_law_word","_law_left","_law_piece"] ["_law_thing","_law_word"] (defScope sZ01):=⟨rfl,rfl,rfl,by decide +kernel,rfl,by decide +kernel,by decide +kernel⟩
theorem wkZ01 {f : Addr} {fd : FuncData} {sp : ASp} {spZ07 : ASp} (cZ07 : Cal Pr w K mg base ("_law_fields" : Str) 1 ["_law_word"] spZ07) {spZ02 : ASp} (cZ02 : Cal Pr w K mg base ("_law_is_text" : Str) 1 ["_law_thing"] spZ02) (g_isinstance : mg ("isinstance" : Str) = none) (g_list : mg ("list" : Str) = none) (g_tuple : mg ("tuple" : Str) = none) (g_len : mg ("len" : Str) = none) (g_str : mg ("str" : Str) = none) (F : FnP K ("_law_is_shape" : Str) ("_law_is_shape" : Str) sZ01 [] f fd) (hlen : ∀ xs,sp.pre xs → xs.length = 2)
    (rd : ∀ xs,sp.pre xs → asZ01 K spZ07 spZ02 (U9 [0,1] sp xs) (Yn 4 xs)) : Fok Pr w K mg base 2 f fd ["_law_thing","_law_word"] sp:=by
  refine Ux (N:=["_law_thing","_law_word","_law_left","_law_piece"]) (k:=1) [0,1] F scZ01 hlen (by decide) (fun cdv Ar outer s H E hr=>⟨asZ01 K spZ07 spZ02,?_,rd⟩)
  have hx:=fun σ=>passAt (X:=cxOf (L2.CX Pr w) Pr w K mg base ["_law_thing","_law_word","_law_left","_law_piece"] ("_law_is_shape" : Str) (defScope sZ01) f cdv Ar outer s H E) (W:=fun cls d _ H=>E cls d H) (takes_of rfl rfl rfl rfl) σ
  have hp : PassesOwn _ _ _ (cxOf (L2.CX Pr w) Pr w K mg base ["_law_thing","_law_word","_law_left","_law_piece"] ("_law_is_shape" : Str) (defScope sZ01) f cdv Ar outer s H E).xe:=passes_of rfl
  have tk:=takes_of (X:=cxOf (L2.CX Pr w) Pr w K mg base ["_law_thing","_law_word","_law_left","_law_piece"] ("_law_is_shape" : Str) (defScope sZ01) f cdv Ar outer s H E) rfl rfl rfl rfl
  have hu:=hr.units
  have sc:=scZ01
  exact (Jr (Yz (Vt (Vl (V8 (Vd (Sz rfl g_isinstance (qv 0) (Vq rfl g_list L9) (Vq rfl g_tuple Fm)))) (Vl (Yr op_lt F5 (Ua V9 V5 rfl g_len boot_len (J4 (qv 0) Jc)) Jn (nomark _)) (Wn (Yr op_gt L4 (Ua V9 V5 rfl g_len boot_len (J4 (qv 0) Jc)) Jn (nomark _)))))) (Y3 (Je [] (Yg Vw))) U3)
    (Jr (Je [] (Yo (i:=2) sc.nd rfl (by first | exact Or.inl rfl | exact Or.inr rfl) (U1 cZ07 (hr.mono (by decide)) rfl hx (J4 (qv 1) Jc)) (show 2 ∉ ([0,1] : List Nat) from by decide)))
    (Jr (Je [] (Za hp rfl (W6 (qv 0)) (V3 (i:=3) sc.nd rfl (by first | exact Or.inl rfl | exact Or.inr rfl) (show 3 ∉ ([0,1] : List Nat) from by decide)) (Xg [3] (Jr (Je [] (Yz (Vt (Vl (V8 (Vd (Wf rfl g_isinstance (qv 3) (Vq rfl g_tuple Fm)))) (Vl (Yr (Bv hu) Fb (Ua V9 V5 rfl g_len boot_len (J4 (qv 3) Jc)) Jn (nomark _)) (Wn (V8 (Vd (Wf rfl g_isinstance (Yi hu (qv 3) Jn) (Vq rfl g_str Bf)))))))) (Y3 (Je [2,3] (Yg Vw))) U3))
    (Y3 (Je [] (Yz (Vt (Gg (Yr (or_eq hu) s_eq (Yi hu (qv 3) Jn) Jj (nomark _)) (Gg (Vd (Wf rfl g_isinstance (Yi hu (qv 3) Jn) (Vq rfl g_str Bf))) (K7 (Yr (Cm hu) Ph (Yi hu (qv 3) Jn) (qr 2) (by rfl)))))) (Y3 (Je [] (Zw (JMa (qr 2) (Yi hu (qv 3) Jn))))) (Y3 (Je [] (Yz (Vt (Vl (Yr (Bv hu) Fb (Yi hu (qv 3) Jn) Jj (nomark _)) (Wn (V8 (Vd (U1 cZ02 (hr.mono (by decide)) rfl hx (J4 (Yi hu (qv 3) Jn) Jc))))))) (Y3 (Je [2,3] (Yg Vw))) U3))))))))))
    (Y3 (Je [] (Yg (Zf (or_eq hu) s_eq (Ua V9 V5 rfl g_len boot_len (J4 (qr 2) Jc)) Jn (nomark _))))))))
abbrev sZ0i : Stmt:=top 12
theorem scZ0i : FnScope ["value","fields","piece","kind","word"] ["value","fields"] (defScope sZ0i):=⟨rfl,rfl,rfl,by decide +kernel,rfl,by decide +kernel,by decide +kernel⟩
theorem wkZ0i {f : Addr} {fd : FuncData} {sp : ASp} {spZ0k : ASp} (cZ0k : Cal Pr w K mg base ("is_row" : Str) 1 ["value"] spZ0k) {spZ0j : ASp} (cZ0j : Cal Pr w K mg base ("is_piece" : Str) 2 ["value","fields"] spZ0j) (g_len : mg ("len" : Str) = none) (g_all : mg ("all" : Str) = none) (g_sorted : mg ("sorted" : Str) = none) (k_MOST_PIECES : ∃ t,mg ("MOST_PIECES" : Str) = some (.int 15 t)) (F : FnP K ("is_shape" : Str) ("is_shape" : Str) sZ0i [] f fd) (hlen : ∀ xs,sp.pre xs → xs.length = 2)
    (rd : ∀ xs,sp.pre xs → asZ0i spZ0k spZ0j (U9 [0,1] sp xs) (Yn 5 xs)) : Fok Pr w K mg base 3 f fd ["value","fields"] sp:=by
  refine Ux (N:=["value","fields","piece","kind","word"]) (k:=2) [0,1] F scZ0i hlen (by decide) (fun cdv Ar outer s H E hr=>⟨asZ0i spZ0k spZ0j,?_,rd⟩)
  have hx:=fun σ=>passAt (X:=cxOf (L2.CX Pr w) Pr w K mg base ["value","fields","piece","kind","word"] ("is_shape" : Str) (defScope sZ0i) f cdv Ar outer s H E) (W:=fun cls d _ H=>E cls d H) (takes_of rfl rfl rfl rfl) σ
  have hp : PassesOwn _ _ _ (cxOf (L2.CX Pr w) Pr w K mg base ["value","fields","piece","kind","word"] ("is_shape" : Str) (defScope sZ0i) f cdv Ar outer s H E).xe:=passes_of rfl
  have tk:=takes_of (X:=cxOf (L2.CX Pr w) Pr w K mg base ["value","fields","piece","kind","word"] ("is_shape" : Str) (defScope sZ0i) f cdv Ar outer s H E) rfl rfl rfl rfl
  have hu:=hr.units
  have sc:=scZ0i
  exact (Jr (Yz (Vt (Vl (V8 (Vd (U1 cZ0k (hr.mono (by decide)) rfl hx (J4 (qv 0) Jc)))) (Wn (V8 (En op_le Fu op_le Fu Jn (Ua V9 V5 rfl g_len boot_len (J4 (qv 0) Jc)) (Ti k_MOST_PIECES rfl)))))) (Y3 (Je [] (Yg Vw))) U3)
    (Jr (Je [] (Yz (V8 (Vd (Ua (cr_all rfl) Pe rfl g_all PyProof.Rows.boot_all (J4 (G5 [(("piece" : Str),2)] rfl sc.nd (show BlkOk ["value","fields","piece","kind","word"] (defScope sZ0i) _ [(("piece" : Str),2)] from blkOk_by (by decide +kernel)) (W6 (qv 0)) (fun _ _ _ _ _=>(V3 (i:=2) sc.nd rfl (by first | exact Or.inl rfl | exact Or.inr rfl) (show 2 ∉ ([0,1] : List Nat) from by decide))) (fun _ _ _ _ _=>Ks) (fun _ _ _ _ _=>(U1 cZ0j (hr.mono (by decide)) rfl Ov (J4 (qv 2) (J4 (qv 1) Jc)))) (show ∀ v ∈ ([2] : List Nat),v ∉ ([0,1] : List Nat) from by decide) (show ∀ i ∈ ([2] : List Nat),i ∈ ([2] : List Nat) from by decide)) Jc)))) (Y3 (Je [] (Yg Vw))) U3))
    (Y3 (Je [] (Yg (Zf (or_eq hu) s_eq (Ua (JGb rfl hu) JFn rfl g_sorted PyProof.Rows.boot_sorted (J4 (G5 [(("kind" : Str),3),(("word" : Str),4)] rfl sc.nd (show BlkOk ["value","fields","piece","kind","word"] (defScope sZ0i) _ [(("kind" : Str),3),(("word" : Str),4)] from blkOk_by (by decide +kernel)) (W6 (qv 0)) (fun _ _ _ _ _=>(JVu rfl (Gr (V3 (i:=3) sc.nd rfl (by first | exact Or.inl rfl | exact Or.inr rfl) (show 3 ∉ ([0,1] : List Nat) from by decide)) (Gr (V3 (i:=4) sc.nd rfl (by first | exact Or.inl rfl | exact Or.inr rfl) (show 4 ∉ ([0,1] : List Nat) from by decide)) Ew)))) (fun _ _ _ _ _=>(O6 (Yr (or_eq hu) s_eq (qv 3) Jj (nomark _)))) (fun _ _ _ _ _=>(qv 4)) (show ∀ v ∈ ([3,4] : List Nat),v ∉ ([0,1] : List Nat) from by decide) (show ∀ i ∈ ([3,4] : List Nat),i ∈ ([3,4] : List Nat) from by decide)) Jc)) (Ua (JLq hu) JKu rfl g_sorted PyProof.Rows.boot_sorted (J4 (qv 1) Jc)) (nomark _)))))))
abbrev sZ0a : Stmt:=W0 13 2
theorem scZ0a : FnScope ["self","word"] ["self","word"] (defScope sZ0a):=⟨rfl,rfl,rfl,by decide +kernel,rfl,by decide +kernel,by decide +kernel⟩
theorem wkZ0a {f : Addr} {fd : FuncData} {sp : ASp} {J1 Jk : Addr} (cl_Form : Cls K J1) (na_Form__shapes : NoAttr K J1 ("_shapes" : Str)) (ra_BadForm : Rai Pr w K mg base ("BadForm" : Str) Jk ("value" : Str) 1) (g_isinstance : mg ("isinstance" : Str) = none) (g_str : mg ("str" : Str) = none) (u_WORDS : mg ("WORDS" : Str) = some (.ref (He.ga K ("WORDS" : Str)))) (t_WORDS : GTup K (He.ga K ("WORDS" : Str)) [.str ("row" : Str),.str ("fix" : Str),.str ("gone" : Str)]) (F : FnP K ("shape" : Str) ("Form.shape" : Str) sZ0a [] f fd) (hlen : ∀ xs,sp.pre xs → xs.length = 2)
    (rd : ∀ xs,sp.pre xs → asZ0a K J1 Jk (U9 [0,1] sp xs) (Yn 2 xs)) : Fok Pr w K mg base 3 f fd ["self","word"] sp:=by
  refine Ux (N:=["self","word"]) (k:=2) [0,1] F scZ0a hlen (by decide) (fun cdv Ar outer s H E hr=>⟨asZ0a K J1 Jk,?_,rd⟩)
  have hx:=fun σ=>passAt (X:=cxOf (L2.CX Pr w) Pr w K mg base ["self","word"] ("Form.shape" : Str) (defScope sZ0a) f cdv Ar outer s H E) (W:=fun cls d _ H=>E cls d H) (takes_of rfl rfl rfl rfl) σ
  have hp : PassesOwn _ _ _ (cxOf (L2.CX Pr w) Pr w K mg base ["self","word"] ("Form.shape" : Str) (defScope sZ0a) f cdv Ar outer s H E).xe:=passes_of rfl
  have tk:=takes_of (X:=cxOf (L2.CX Pr w) Pr w K mg base ["self","word"] ("Form.shape" : Str) (defScope sZ0a) f cdv Ar outer s H E) rfl rfl rfl rfl
  have hu:=hr.units
  have sc:=scZ0a
  exact (Jr (Yz (Vt (Vl (V8 (Vd (Wf rfl g_isinstance (qv 1) (Vq rfl g_str Bf)))) (Wn (Yr (JB0 hu) Ph (qv 1) (Oa u_WORDS t_WORDS rfl rfl) (by rfl))))) (Y3 (Je [] (JY6 ra_BadForm rfl tk (hr.mono (by decide)) rfl (qv 1)))) U3)
    (Y3 (Je [] (Yg (Yi hu (Pz cl_Form na_Form__shapes (qv 0)) (qv 1))))))
abbrev sZ09 : Stmt:=top 21
theorem scZ09 : FnScope ["_law_stream_here","_law_word","_law_signs_here","_law_often","_law_most","_law_pieces","_law_field"] ["_law_stream_here","_law_word","_law_signs_here","_law_often","_law_most"] (defScope sZ09):=⟨rfl,rfl,rfl,by decide +kernel,rfl,by decide +kernel,by decide +kernel⟩
theorem wkZ09 {f : Addr} {fd : FuncData} {sp : ASp} {spZ0b : ASp} (cZ0b : Cal Pr w K mg base ("_law_order" : Str) 2 ["_law_stream_here","_law_items"] spZ0b) {spZ07 : ASp} (cZ07 : Cal Pr w K mg base ("_law_fields" : Str) 1 ["_law_word"] spZ07) {spZ0e : ASp} (cZ0e : Cal Pr w K mg base ("_law_draw" : Str) 1 ["_law_stream_here","_law_many"] spZ0e) {spZ0d : ASp} (cZ0d : Cal Pr w K mg base ("_law_mark" : Str) 2 ["_law_stream_here","_law_signs_here","_law_most"] spZ0d) (F : FnP K ("_law_shape" : Str) ("_law_shape" : Str) sZ09 [] f fd) (hlen : ∀ xs,sp.pre xs → xs.length = 5)
    (rd : ∀ xs,sp.pre xs → asZ09 spZ0b spZ07 spZ0e spZ0d (U9 [0,1,2,3,4] sp xs) (Yn 7 xs)) : Fok Pr w K mg base 3 f fd ["_law_stream_here","_law_word","_law_signs_here","_law_often","_law_most"] sp:=by
  refine Ux (N:=["_law_stream_here","_law_word","_law_signs_here","_law_often","_law_most","_law_pieces","_law_field"]) (k:=2) [0,1,2,3,4] F scZ09 hlen (by decide) (fun cdv Ar outer s H E hr=>⟨asZ09 spZ0b spZ07 spZ0e spZ0d,?_,rd⟩)
  have hx:=fun σ=>passAt (X:=cxOf (L2.CX Pr w) Pr w K mg base ["_law_stream_here","_law_word","_law_signs_here","_law_often","_law_most","_law_pieces","_law_field"] ("_law_shape" : Str) (defScope sZ09) f cdv Ar outer s H E) (W:=fun cls d _ H=>E cls d H) (takes_of rfl rfl rfl rfl) σ
  have hp : PassesOwn _ _ _ (cxOf (L2.CX Pr w) Pr w K mg base ["_law_stream_here","_law_word","_law_signs_here","_law_often","_law_most","_law_pieces","_law_field"] ("_law_shape" : Str) (defScope sZ09) f cdv Ar outer s H E).xe:=passes_of rfl
  have tk:=takes_of (X:=cxOf (L2.CX Pr w) Pr w K mg base ["_law_stream_here","_law_word","_law_signs_here","_law_often","_law_most","_law_pieces","_law_field"] ("_law_shape" : Str) (defScope sZ09) f cdv Ar outer s H E) rfl rfl rfl rfl
  have hu:=hr.units
  have sc:=scZ09
  exact (Jr (Yo (i:=5) sc.nd rfl (by first | exact Or.inl rfl | exact Or.inr rfl) (Ur Jc) (show 5 ∉ ([0,1,2,3,4] : List Nat) from by decide))
    (Jr (Je [] (Za hp rfl (W6 (U1 cZ0b (hr.mono (by decide)) rfl hx (J4 (qr 0) (J4 (Wj (U1 cZ07 (hr.mono (by decide)) rfl hx (J4 (qv 1) Jc))) Jc)))) (V3 (i:=6) sc.nd rfl (by first | exact Or.inl rfl | exact Or.inr rfl) (show 6 ∉ ([0,1,2,3,4] : List Nat) from by decide)) (Xg [6] (Jr (Je [] (Yz (Yr op_lt F5 (U1 cZ0e (hr.mono (by decide)) rfl hx (J4 (qr 0) (J4 Jn Jc))) (qv 3) (nomark _)) (Y3 (Je [] (Zw (Ol (qr 5) (Ug (J4 Jj (J4 (U1 cZ0d (hr.mono (by decide)) rfl hx (J4 (qr 0) (J4 (qv 2) (J4 (qv 4) Jc)))) Jc))))))) U3))
    (Y3 (Je [] (Zw (Ol (qr 5) (Ug (J4 Jj (J4 (qv 6) Jc)))))))))))
    (Jr (Je [] (Yz (Yr op_lt F5 (U1 cZ0e (hr.mono (by decide)) rfl hx (J4 (qr 0) (J4 Jn Jc))) (qv 3) (nomark _)) (Y3 (Je [] (Zw (Ol (qr 5) (Ug (J4 Jj (J4 (U1 cZ0d (hr.mono (by decide)) rfl hx (J4 (qr 0) (J4 (qv 2) (J4 (qv 4) Jc)))) Jc))))))) U3))
    (Y3 (Je [] (Yg (qr 5)))))))
abbrev sZ05 : Stmt:=top 23
theorem scZ05 : FnScope ["_law_stream_here","_law_pieces","_law_row","_law_choice","_law_place","_law_more"] ["_law_stream_here","_law_pieces"] (defScope sZ05):=⟨rfl,rfl,rfl,by decide +kernel,rfl,by decide +kernel,by decide +kernel⟩
theorem wkZ05 {f : Addr} {fd : FuncData} {sp : ASp} {spZ0e : ASp} (cZ0e : Cal Pr w K mg base ("_law_draw" : Str) 1 ["_law_stream_here","_law_many"] spZ0e) {spZ0h : ASp} (cZ0h : Cal Pr w K mg base ("_law_odd" : Str) 2 ["_law_stream_here"] spZ0h) (g_list : mg ("list" : Str) = none) (g_len : mg ("len" : Str) = none) (F : FnP K ("_law_spoiled" : Str) ("_law_spoiled" : Str) sZ05 [] f fd) (hlen : ∀ xs,sp.pre xs → xs.length = 2)
    (rd : ∀ xs,sp.pre xs → asZ05 spZ0e spZ0h (U9 [0,1] sp xs) (Yn 6 xs)) : Fok Pr w K mg base 3 f fd ["_law_stream_here","_law_pieces"] sp:=by
  refine Ux (N:=["_law_stream_here","_law_pieces","_law_row","_law_choice","_law_place","_law_more"]) (k:=2) [0,1] F scZ05 hlen (by decide) (fun cdv Ar outer s H E hr=>⟨asZ05 spZ0e spZ0h,?_,rd⟩)
  have hx:=fun σ=>passAt (X:=cxOf (L2.CX Pr w) Pr w K mg base ["_law_stream_here","_law_pieces","_law_row","_law_choice","_law_place","_law_more"] ("_law_spoiled" : Str) (defScope sZ05) f cdv Ar outer s H E) (W:=fun cls d _ H=>E cls d H) (takes_of rfl rfl rfl rfl) σ
  have hp : PassesOwn _ _ _ (cxOf (L2.CX Pr w) Pr w K mg base ["_law_stream_here","_law_pieces","_law_row","_law_choice","_law_place","_law_more"] ("_law_spoiled" : Str) (defScope sZ05) f cdv Ar outer s H E).xe:=passes_of rfl
  have tk:=takes_of (X:=cxOf (L2.CX Pr w) Pr w K mg base ["_law_stream_here","_law_pieces","_law_row","_law_choice","_law_place","_law_more"] ("_law_spoiled" : Str) (defScope sZ05) f cdv Ar outer s H E) rfl rfl rfl rfl
  have hu:=hr.units
  have sc:=scZ05
  exact (Jr (Yo (i:=2) sc.nd rfl (by first | exact Or.inl rfl | exact Or.inr rfl) (W2 (Hv rfl) Lz rfl g_list PyProof.Rows.boot_list (J4 (qr 1) Jc)) (show 2 ∉ ([0,1] : List Nat) from by decide))
    (Jr (Je [] (Yo (i:=3) sc.nd rfl (by first | exact Or.inl rfl | exact Or.inr rfl) (U1 cZ0e (hr.mono (by decide)) rfl hx (J4 (qr 0) (J4 Jn Jc))) (show 3 ∉ ([0,1] : List Nat) from by decide)))
    (Jr (Je [] (Yo (i:=4) sc.nd rfl (by first | exact Or.inl rfl | exact Or.inr rfl) (U1 cZ0e (hr.mono (by decide)) rfl hx (J4 (qr 0) (J4 (Ua V9 V5 rfl g_len boot_len (J4 (qr 2) Jc)) Jc))) (show 4 ∉ ([0,1] : List Nat) from by decide)))
    (Jr (Je [] (Yz (Yr (or_eq hu) s_eq (qv 3) Jn (nomark _)) (Y3 (Je [2,3,4] (Yg (Yi hu (Ur (J4 Xk (J4 Jj (J4 P9 (J4 Jn (J4 (Ug Jc) Jc)))))) (U1 cZ0e (hr.mono (by decide)) rfl hx (J4 (qr 0) (J4 Jn Jc))))))) U3))
    (Jr (Je [] (Yz (Yr (or_eq hu) s_eq (qv 3) Jn (nomark _)) (Y3 (Je [3] (Yg (Ys Vh Vf (Bc (qr 2) B2 (Xp (qv 4))) (Bc (qr 2) (Xp (Ys Vh Vf (qv 4) Jn)) B2))))) U3))
    (Jr (Je [] (Yz (Yr (or_eq hu) s_eq (qv 3) Jn (nomark _)) (Y3 (Je [3] (Yg (Ys Vh Vf (Ys Vh Vf (Bc (qr 2) B2 (Xp (qv 4))) (Ur (J4 (Yi hu (qr 2) (qv 4)) Jc))) (Bc (qr 2) (Xp (qv 4)) B2))))) U3))
    (Jr (Je [] (Yz (Yr (or_eq hu) s_eq (qv 3) Jn (nomark _)) (Y3 (Je [] (H9 hu (U1 cZ0h (hr.mono (by decide)) rfl hx (J4 (qr 0) Jc)) (qr 2) (qv 4)))) U3))
    (Jr (Je [] (Yz (Yr (or_eq hu) s_eq (qv 3) Jn (nomark _)) (Y3 (Je [] (Zw (E3 (qr 2) (qv 4) (U1 cZ0h (hr.mono (by decide)) rfl hx (J4 (qr 0) Jc)))))) U3))
    (Jr (Je [] (Yz (Yr (or_eq hu) s_eq (qv 3) Jn (nomark _)) (Jr (Je [3] (Yo (i:=5) sc.nd rfl (by first | exact Or.inl rfl | exact Or.inr rfl) (Ys op_sub JG4 (Ys Vh Vf Jn (U1 cZ0e (hr.mono (by decide)) rfl hx (J4 (qr 0) (J4 Jn Jc)))) (Ua V9 V5 rfl g_len boot_len (J4 (qr 2) Jc))) (show 5 ∉ ([0,1] : List Nat) from by decide)))
    (Y3 (Je [] (Yo (i:=2) sc.nd rfl (by first | exact Or.inl rfl | exact Or.inr rfl) (Ys Vh Vf (Ys Vh Vf (Bc (qr 2) B2 (Xp (qv 4))) (Ys op_rep JHa (Ur (J4 (Ug (J4 Jj (J4 Jj Jc))) Jc)) (qv 5))) (Bc (qr 2) (Xp (qv 4)) B2)) (show 2 ∉ ([0,1] : List Nat) from by decide))))) U3))
    (Y3 (Je [3,4,5] (Yg (qr 2)))))))))))))
abbrev sZ00 : Stmt:=W0 13 0
theorem scZ00 : FnScope ["self","row","fix","gone","shapes","word"] ["self","row","fix","gone"] (defScope sZ00):=⟨rfl,rfl,rfl,by decide +kernel,rfl,by decide +kernel,by decide +kernel⟩
theorem wkZ00 {f : Addr} {fd : FuncData} {sp : ASp} {J1 Jk : Addr} {spZ0i : ASp} (cZ0i : Cal Pr w K mg base ("is_shape" : Str) 3 ["value","fields"] spZ0i) (cl_Form : Cls K J1) (na_Form__shapes : NoAttr K J1 ("_shapes" : Str)) (ra_BadForm : Rai Pr w K mg base ("BadForm" : Str) Jk ("value" : Str) 1) (g_tuple : mg ("tuple" : Str) = none) (u_WORDS : mg ("WORDS" : Str) = some (.ref (He.ga K ("WORDS" : Str)))) (t_WORDS : GTup K (He.ga K ("WORDS" : Str)) [.str ("row" : Str),.str ("fix" : Str),.str ("gone" : Str)]) (u_FIELDS : mg ("FIELDS" : Str) = some (.ref (He.ga K ("FIELDS" : Str)))) (t_FIELDS : GTab K w (He.ga K ("FIELDS" : Str)) T_FIELDS) (F : FnP K ("__init__" : Str) ("Form.__init__" : Str) sZ00 [] f fd) (hlen : ∀ xs,sp.pre xs → xs.length = 4)
    (rd : ∀ xs,sp.pre xs → asZ00 J1 Jk spZ0i (U9 [0,1,2,3] sp xs) (Yn 6 xs)) : Fok Pr w K mg base 4 f fd ["self","row","fix","gone"] sp:=by
  refine Ux (N:=["self","row","fix","gone","shapes","word"]) (k:=3) [0,1,2,3] F scZ00 hlen (by decide) (fun cdv Ar outer s H E hr=>⟨asZ00 J1 Jk spZ0i,?_,rd⟩)
  have hx:=fun σ=>passAt (X:=cxOf (L2.CX Pr w) Pr w K mg base ["self","row","fix","gone","shapes","word"] ("Form.__init__" : Str) (defScope sZ00) f cdv Ar outer s H E) (W:=fun cls d _ H=>E cls d H) (takes_of rfl rfl rfl rfl) σ
  have hp : PassesOwn _ _ _ (cxOf (L2.CX Pr w) Pr w K mg base ["self","row","fix","gone","shapes","word"] ("Form.__init__" : Str) (defScope sZ00) f cdv Ar outer s H E).xe:=passes_of rfl
  have tk:=takes_of (X:=cxOf (L2.CX Pr w) Pr w K mg base ["self","row","fix","gone","shapes","word"] ("Form.__init__" : Str) (defScope sZ00) f cdv Ar outer s H E) rfl rfl rfl rfl
  have hu:=hr.units
  have sc:=scZ00
  exact (Jr (Yo (i:=4) sc.nd rfl (by first | exact Or.inl rfl | exact Or.inr rfl) (Wj (JWu (Lo Jj (qv 1) (Lo Jj (qv 2) (Lo Jj (qv 3) Qj))) rfl rfl (by decide) (by decide))) (show 4 ∉ ([0,1,2,3] : List Nat) from by decide))
    (Jr (Je [] (Za hp rfl (W6 (Oa u_WORDS t_WORDS rfl rfl)) (V3 (i:=5) sc.nd rfl (by first | exact Or.inl rfl | exact Or.inr rfl) (show 5 ∉ ([0,1,2,3] : List Nat) from by decide)) (Y3 (Je [] (Yz (V8 (Vd (U1 cZ0i (hr.mono (by decide)) rfl hx (J4 (Yi hu (qv 4) (qv 5)) (J4 (JM5 u_FIELDS t_FIELDS rfl (qv 5) (by intro _ _; rfl)) Jc))))) (Y3 (Je [4] (JY6 ra_BadForm rfl tk (hr.mono (by decide)) rfl (qv 5)))) U3)))))
    (Y3 (Je [5] (JB9 cl_Form na_Form__shapes (JHb [(("word" : Str),5)] rfl sc.nd (show BlkOk ["self","row","fix","gone","shapes","word"] (defScope sZ00) _ [(("word" : Str),5)] from blkOk_by (by decide +kernel)) (W6 (Oa u_WORDS t_WORDS rfl rfl)) (fun _ _ _ _ _=>(V3 (i:=5) sc.nd rfl (by first | exact Or.inl rfl | exact Or.inr rfl) (show 5 ∉ ([0,1,2,3] : List Nat) from by decide))) (fun _ _ _ _ _=>Ks) (fun _ _ _ _ _=>(qv 5)) (fun _ _ _ _ _=>(W2 call_tuple_of Oi rfl g_tuple PyProof.Rows.boot_tuple (J4 (Yi hu (qv 4) (qv 5)) Jc))) (show ∀ v ∈ ([5] : List Nat),v ∉ ([0,1,2,3] : List Nat) from by decide) (show ∀ i ∈ ([5] : List Nat),i ∈ ([5] : List Nat) from by decide)) (qr 0))))))
abbrev sZ04 : Stmt:=top 27
theorem scZ04 : FnScope ["_law_form","_law_word","_law_refused","e"] ["_law_form","_law_word"] (defScope sZ04):=⟨rfl,rfl,rfl,by decide +kernel,rfl,by decide +kernel,by decide +kernel⟩
theorem wkZ04 {f : Addr} {fd : FuncData} {sp : ASp} {J1 Jk : Addr} {spZ0a : ASp} (m_Form_shape : CalM Pr w K mg base J1 ("shape" : Str) 3 ["self","word"] spZ0a) (cl_Form : Cls K J1) (xf_BadForm : XfC K Jk) (nx_BadForm : PySem.W.findIn K (.ref Jk) ("value" : Str) = some none) (gc_BadForm : mg ("BadForm" : Str) = some (.ref Jk)) (F : FnP K ("_law_unknown" : Str) ("_law_unknown" : Str) sZ04 [] f fd) (hlen : ∀ xs,sp.pre xs → xs.length = 2)
    (rd : ∀ xs,sp.pre xs → asZ04 K J1 Jk spZ0a (U9 [0,1] sp xs) (Yn 4 xs)) : Fok Pr w K mg base 4 f fd ["_law_form","_law_word"] sp:=by
  refine Ux (N:=["_law_form","_law_word","_law_refused","e"]) (k:=3) [0,1] F scZ04 hlen (by decide) (fun cdv Ar outer s H E hr=>⟨asZ04 K J1 Jk spZ0a,?_,rd⟩)
  have hx:=fun σ=>passAt (X:=cxOf (L2.CX Pr w) Pr w K mg base ["_law_form","_law_word","_law_refused","e"] ("_law_unknown" : Str) (defScope sZ04) f cdv Ar outer s H E) (W:=fun cls d _ H=>E cls d H) (takes_of rfl rfl rfl rfl) σ
  have hp : PassesOwn _ _ _ (cxOf (L2.CX Pr w) Pr w K mg base ["_law_form","_law_word","_law_refused","e"] ("_law_unknown" : Str) (defScope sZ04) f cdv Ar outer s H E).xe:=passes_of rfl
  have tk:=takes_of (X:=cxOf (L2.CX Pr w) Pr w K mg base ["_law_form","_law_word","_law_refused","e"] ("_law_unknown" : Str) (defScope sZ04) f cdv Ar outer s H E) rfl rfl rfl rfl
  have hu:=hr.units
  have sc:=scZ04
  exact (Jr (Yo (i:=2) sc.nd rfl (by first | exact Or.inl rfl | exact Or.inr rfl) Vw (show 2 ∉ ([0,1] : List Nat) from by decide))
    (Jr (Je [] (E6 (i:=3) rfl rfl sc.nd rfl rfl (show 3 ∉ ([0,1] : List Nat) from by decide) rfl gc_BadForm tk (fun W pn xe tk2 hp2=>have hx2:=fun σ=>passAt tk2 σ; (Y3 (Je [] (Zw (R0 (qv 0) cl_Form m_Form_shape (hr.mono (by decide)) hx2 (J4 (qv 1) Jc)))))) (fun a oe dd pn ws fs hz hfs=>(Y3 (Je [2] (Yo (i:=2) sc.nd rfl (by first | exact Or.inl rfl | exact Or.inr rfl) (Zf (Vs.OpR.or (or_eq hu) (JY0 hu)) (JBf s_eq JYc) (Sx xf_BadForm nx_BadForm hz hfs) (qv 1) (nomark _)) (show 2 ∉ ([3,0,1] : List Nat) from by decide)))))))
    (Y3 (Je [3] (Yg (qv 2))))))
abbrev sZ0f : Stmt:=top 28
theorem scZ0f : FnScope ["_law_form","_law_due","_law_word","_law_told_here","_law_at","_law_odd_here"] ["_law_form","_law_due"] (defScope sZ0f):=⟨rfl,rfl,rfl,by decide +kernel,rfl,by decide +kernel,by decide +kernel⟩
theorem wkZ0f {f : Addr} {fd : FuncData} {sp : ASp} {J1 : Addr} {spZ04 : ASp} (cZ04 : Cal Pr w K mg base ("_law_unknown" : Str) 4 ["_law_form","_law_word"] spZ04) {spZ0a : ASp} (m_Form_shape : CalM Pr w K mg base J1 ("shape" : Str) 3 ["self","word"] spZ0a) (cl_Form : Cls K J1) (g_isinstance : mg ("isinstance" : Str) = none) (g_tuple : mg ("tuple" : Str) = none) (g_len : mg ("len" : Str) = none) (g_range : mg ("range" : Str) = none) (g_all : mg ("all" : Str) = none) (F : FnP K ("_law_told" : Str) ("_law_told" : Str) sZ0f [] f fd) (hlen : ∀ xs,sp.pre xs → xs.length = 2)
    (rd : ∀ xs,sp.pre xs → asZ0f K J1 spZ04 spZ0a (U9 [0,1] sp xs) (Yn 6 xs)) : Fok Pr w K mg base 5 f fd ["_law_form","_law_due"] sp:=by
  refine Ux (N:=["_law_form","_law_due","_law_word","_law_told_here","_law_at","_law_odd_here"]) (k:=4) [0,1] F scZ0f hlen (by decide) (fun cdv Ar outer s H E hr=>⟨asZ0f K J1 spZ04 spZ0a,?_,rd⟩)
  have hx:=fun σ=>passAt (X:=cxOf (L2.CX Pr w) Pr w K mg base ["_law_form","_law_due","_law_word","_law_told_here","_law_at","_law_odd_here"] ("_law_told" : Str) (defScope sZ0f) f cdv Ar outer s H E) (W:=fun cls d _ H=>E cls d H) (takes_of rfl rfl rfl rfl) σ
  have hp : PassesOwn _ _ _ (cxOf (L2.CX Pr w) Pr w K mg base ["_law_form","_law_due","_law_word","_law_told_here","_law_at","_law_odd_here"] ("_law_told" : Str) (defScope sZ0f) f cdv Ar outer s H E).xe:=passes_of rfl
  have tk:=takes_of (X:=cxOf (L2.CX Pr w) Pr w K mg base ["_law_form","_law_due","_law_word","_law_told_here","_law_at","_law_odd_here"] ("_law_told" : Str) (defScope sZ0f) f cdv Ar outer s H E) rfl rfl rfl rfl
  have hu:=hr.units
  have sc:=scZ0f
  exact (Jr (Za hp rfl (W6 (Ur (J4 Jj (J4 Jj (J4 Jj Jc))))) (V3 (i:=2) sc.nd rfl (by first | exact Or.inl rfl | exact Or.inr rfl) (show 2 ∉ ([0,1] : List Nat) from by decide)) (Xg [2,3] (Jr (Je [] (Yo (i:=3) sc.nd rfl (by first | exact Or.inl rfl | exact Or.inr rfl) (Wj (R0 (qv 0) cl_Form m_Form_shape (hr.mono (by decide)) hx (J4 (qv 2) Jc))) (show 3 ∉ ([0,1] : List Nat) from by decide)))
    (Jr (Je [] (Yz (Vt (Vl (V8 (Vd (Wf rfl g_isinstance (qv 3) (Vq rfl g_tuple Fm)))) (Wn (Yr (Bv hu) Fb (Ua V9 V5 rfl g_len boot_len (J4 (qv 3) Jc)) (Ua V9 V5 rfl g_len boot_len (J4 (Yi hu (qr 1) (qv 2)) Jc)) (nomark _))))) (Y3 (Je [2,3] (Yg Vw))) U3))
    (Y3 (Je [] (Za hp rfl (JWj rfl g_range (J4 (Ua V9 V5 rfl g_len boot_len (J4 (qv 3) Jc)) Jc)) (V3 (i:=4) sc.nd rfl (by first | exact Or.inl rfl | exact Or.inr rfl) (show 4 ∉ ([0,1] : List Nat) from by decide)) (Xg [4] (Y3 (Je [] (Yz (Vt (Vl (V8 (Vd (Wf rfl g_isinstance (Yi hu (qv 3) (qv 4)) (Vq rfl g_tuple Fm)))) (Wn (Yr (Bv hu) Fb (Yi hu (qv 3) (qv 4)) (Yi hu (Yi hu (qr 1) (qv 2)) (qv 4)) (nomark _))))) (Y3 (Je [2,3,4] (Yg Vw))) U3)))))))))))
    (Y3 (Je [] (Yg (Ua (cr_all rfl) Pe rfl g_all PyProof.Rows.boot_all (J4 (G5 [(("_law_odd_here" : Str),5)] rfl sc.nd (show BlkOk ["_law_form","_law_due","_law_word","_law_told_here","_law_at","_law_odd_here"] (defScope sZ0f) _ [(("_law_odd_here" : Str),5)] from blkOk_by (by decide +kernel)) (W6 (Ur (J4 Jj (J4 Xk (J4 Jn (J4 Jj (J4 Vw (J4 (Ur Jc) (J4 P9 (J4 (Ur (J4 Jj Jc)) (J4 (Ug (J4 Jj Jc)) Jc))))))))))) (fun _ _ _ _ _=>(V3 (i:=5) sc.nd rfl (by first | exact Or.inl rfl | exact Or.inr rfl) (show 5 ∉ ([0,1] : List Nat) from by decide))) (fun _ _ _ _ _=>Ks) (fun _ _ _ _ _=>(U1 cZ04 (hr.mono (by decide)) rfl Ov (J4 (qv 0) (J4 (qv 5) Jc)))) (show ∀ v ∈ ([5] : List Nat),v ∉ ([0,1] : List Nat) from by decide) (show ∀ i ∈ ([5] : List Nat),i ∈ ([5] : List Nat) from by decide)) Jc))))))
abbrev sZ0g : Stmt:=top 26
theorem scZ0g : FnScope ["_law_shapes","_law_form","_law_refused","_law_below","e"] ["_law_shapes"] (defScope sZ0g):=⟨rfl,rfl,rfl,by decide +kernel,rfl,by decide +kernel,by decide +kernel⟩
theorem wkZ0g {f : Addr} {fd : FuncData} {sp : ASp} {J1 Jk Ub : Addr} {spZ00 : ASp} (mk_Form : CalK Pr w K mg base ("Form" : Str) J1 4 ["self","row","fix","gone"] spZ00) (xf_BadForm : XfC K Jk) (nx_BadForm : PySem.W.findIn K (.ref Jk) ("value" : Str) = some none) (ec_BadForm : ExcC K Jk) (gc_BadForm : mg ("BadForm" : Str) = some (.ref Jk)) (gc_HallError : mg ("HallError" : Str) = some (.ref Ub)) (g_isinstance : mg ("isinstance" : Str) = none) (F : FnP K ("_law_made" : Str) ("_law_made" : Str) sZ0g [] f fd) (hlen : ∀ xs,sp.pre xs → xs.length = 1)
    (rd : ∀ xs,sp.pre xs → asZ0g K J1 Jk Ub spZ00 (U9 [0] sp xs) (Yn 5 xs)) : Fok Pr w K mg base 6 f fd ["_law_shapes"] sp:=by
  refine Ux (N:=["_law_shapes","_law_form","_law_refused","_law_below","e"]) (k:=5) [0] F scZ0g hlen (by decide) (fun cdv Ar outer s H E hr=>⟨asZ0g K J1 Jk Ub spZ00,?_,rd⟩)
  have hx:=fun σ=>passAt (X:=cxOf (L2.CX Pr w) Pr w K mg base ["_law_shapes","_law_form","_law_refused","_law_below","e"] ("_law_made" : Str) (defScope sZ0g) f cdv Ar outer s H E) (W:=fun cls d _ H=>E cls d H) (takes_of rfl rfl rfl rfl) σ
  have hp : PassesOwn _ _ _ (cxOf (L2.CX Pr w) Pr w K mg base ["_law_shapes","_law_form","_law_refused","_law_below","e"] ("_law_made" : Str) (defScope sZ0g) f cdv Ar outer s H E).xe:=passes_of rfl
  have tk:=takes_of (X:=cxOf (L2.CX Pr w) Pr w K mg base ["_law_shapes","_law_form","_law_refused","_law_below","e"] ("_law_made" : Str) (defScope sZ0g) f cdv Ar outer s H E) rfl rfl rfl rfl
  have hu:=hr.units
  have sc:=scZ0g
  exact (Jr (Yo (i:=1) sc.nd rfl (by first | exact Or.inl rfl | exact Or.inr rfl) Xk (show 1 ∉ ([0] : List Nat) from by decide))
    (Jr (Je [] (Yo (i:=2) sc.nd rfl (by first | exact Or.inl rfl | exact Or.inr rfl) Jj (show 2 ∉ ([0] : List Nat) from by decide)))
    (Jr (Je [] (Yo (i:=3) sc.nd rfl (by first | exact Or.inl rfl | exact Or.inr rfl) Vw (show 3 ∉ ([0] : List Nat) from by decide)))
    (Jr (Wg [0] (Je [] (E6 (i:=4) rfl rfl sc.nd rfl rfl (show 4 ∉ ([0] : List Nat) from by decide) rfl gc_BadForm tk (fun W pn xe tk2 hp2=>have hx2:=fun σ=>passAt tk2 σ; (Y3 (Wg [0] (Je [] (Yo (i:=1) sc.nd rfl (by first | exact Or.inl rfl | exact Or.inr rfl) (Wj (Mi mk_Form (hr.mono (by decide)) rfl hx2 (J4 (Xt hu (qr 0) Jj) (J4 (Xt hu (qr 0) Jj) (J4 (Xt hu (qr 0) Jj) Jc))))) (show 1 ∉ ([0] : List Nat) from by decide)))))) (fun a oe dd pn ws fs hz hfs=>(Jr (Je [2,3] (Yo (i:=2) sc.nd rfl (by first | exact Or.inl rfl | exact Or.inr rfl) (Wj (Sx xf_BadForm nx_BadForm hz hfs)) (show 2 ∉ ([4,0] : List Nat) from by decide)))
    (Y3 (Je [] (Yo (i:=3) sc.nd rfl (by first | exact Or.inl rfl | exact Or.inr rfl) (JZy ec_BadForm hz hfs rfl g_isinstance (Ox rfl gc_HallError)) (show 3 ∉ ([4,0] : List Nat) from by decide)))))))))
    (Y3 (Wg [0] (Je [4] (Yg (Ug (J4 (qv 1) (J4 (qv 2) (J4 (qv 3) Jc))))))))))))
abbrev sZ0l : Stmt:=top 29
theorem scZ0l : FnScope ["_law_script","_law_shapes","_law_word","_law_stream_here","_law_pieces","_law_form","_law_refused","_law_below","_law_wrong","_law_due","_law_again","_law_other","_law_row"] ["_law_script"] (defScope sZ0l):=⟨rfl,rfl,rfl,by decide +kernel,rfl,by decide +kernel,by decide +kernel⟩
theorem wkZ0l {f : Addr} {fd : FuncData} {sp : ASp} {J1 : Addr} {spZ08 : ASp} (cZ08 : Cal Pr w K mg base ("_law_stream" : Str) 1 ["_law_script","_law_k"] spZ08) {spZ09 : ASp} (cZ09 : Cal Pr w K mg base ("_law_shape" : Str) 3 ["_law_stream_here","_law_word","_law_signs_here","_law_often","_law_most"] spZ09) {spZ0c : ASp} (cZ0c : Cal Pr w K mg base ("_law_signs" : Str) 1 [] spZ0c) {spZ0e : ASp} (cZ0e : Cal Pr w K mg base ("_law_draw" : Str) 1 ["_law_stream_here","_law_many"] spZ0e) {spZ05 : ASp} (cZ05 : Cal Pr w K mg base ("_law_spoiled" : Str) 3 ["_law_stream_here","_law_pieces"] spZ05) {spZ0g : ASp} (cZ0g : Cal Pr w K mg base ("_law_made" : Str) 6 ["_law_shapes"] spZ0g) {spZ01 : ASp} (cZ01 : Cal Pr w K mg base ("_law_is_shape" : Str) 2 ["_law_thing","_law_word"] spZ01) {spZ0f : ASp} (cZ0f : Cal Pr w K mg base ("_law_told" : Str) 5 ["_law_form","_law_due"] spZ0f) {spZ00 : ASp} (mk_Form : CalK Pr w K mg base ("Form" : Str) J1 4 ["self","row","fix","gone"] spZ00) {spZ06 : ASp} (eq_Form : EqC Pr w K mg base J1 1 spZ06) (gc_Form : mg ("Form" : Str) = some (.ref J1)) (g_isinstance : mg ("isinstance" : Str) = none) (g_list : mg ("list" : Str) = none) (g_tuple : mg ("tuple" : Str) = none) (g_len : mg ("len" : Str) = none) (g_dict : mg ("dict" : Str) = none) (F : FnP K ("law" : Str) ("law" : Str) sZ0l [] f fd) (hlen : ∀ xs,sp.pre xs → xs.length = 1)
    (rd : ∀ xs,sp.pre xs → asZ0l K J1 spZ08 spZ09 spZ0c spZ0e spZ05 spZ0g spZ01 spZ0f spZ00 spZ06 (U9 [0] sp xs) (Yn 13 xs)) : Fok Pr w K mg base 7 f fd ["_law_script"] sp:=by
  refine Ux (N:=["_law_script","_law_shapes","_law_word","_law_stream_here","_law_pieces","_law_form","_law_refused","_law_below","_law_wrong","_law_due","_law_again","_law_other","_law_row"]) (k:=6) [0] F scZ0l hlen (by decide) (fun cdv Ar outer s H E hr=>⟨asZ0l K J1 spZ08 spZ09 spZ0c spZ0e spZ05 spZ0g spZ01 spZ0f spZ00 spZ06,?_,rd⟩)
  have hx:=fun σ=>passAt (X:=cxOf (L2.CX Pr w) Pr w K mg base ["_law_script","_law_shapes","_law_word","_law_stream_here","_law_pieces","_law_form","_law_refused","_law_below","_law_wrong","_law_due","_law_again","_law_other","_law_row"] ("law" : Str) (defScope sZ0l) f cdv Ar outer s H E) (W:=fun cls d _ H=>E cls d H) (takes_of rfl rfl rfl rfl) σ
  have hp : PassesOwn _ _ _ (cxOf (L2.CX Pr w) Pr w K mg base ["_law_script","_law_shapes","_law_word","_law_stream_here","_law_pieces","_law_form","_law_refused","_law_below","_law_wrong","_law_due","_law_again","_law_other","_law_row"] ("law" : Str) (defScope sZ0l) f cdv Ar outer s H E).xe:=passes_of rfl
  have tk:=takes_of (X:=cxOf (L2.CX Pr w) Pr w K mg base ["_law_script","_law_shapes","_law_word","_law_stream_here","_law_pieces","_law_form","_law_refused","_law_below","_law_wrong","_law_due","_law_again","_law_other","_law_row"] ("law" : Str) (defScope sZ0l) f cdv Ar outer s H E) rfl rfl rfl rfl
  have hu:=hr.units
  have sc:=scZ0l
  exact (Jr (Wg [1] (Yo (i:=1) sc.nd rfl (by first | exact Or.inl rfl | exact Or.inr rfl) JG6 (show 1 ∉ ([0] : List Nat) from by decide)))
    (Jr (Wg [1] (Je [] (Za hp rfl (W6 (Ur (J4 Jj (J4 Jj (J4 Jj Jc))))) (V3 (i:=2) sc.nd rfl (by first | exact Or.inl rfl | exact Or.inr rfl) (show 2 ∉ ([0] : List Nat) from by decide)) (Nd [1] (Xg [4] (Jr (Je [] (Yo (i:=3) sc.nd rfl (by first | exact Or.inl rfl | exact Or.inr rfl) (U1 cZ08 (hr.mono (by decide)) rfl hx (J4 (qv 0) (J4 (Wj (JLy (Ur (J4 Jj (J4 Jj (J4 Jj Jc)))) (qv 2))) Jc))) (show 3 ∉ ([0] : List Nat) from by decide)))
    (Jr (Je [] (Yo (i:=4) sc.nd rfl (by first | exact Or.inl rfl | exact Or.inr rfl) (U1 cZ09 (hr.mono (by decide)) rfl hx (J4 (qr 3) (J4 (qv 2) (J4 (Wj (JN7 cZ0c (hr.mono (by decide)) rfl hx)) (J4 (U1 cZ0e (hr.mono (by decide)) rfl hx (J4 (qr 3) (J4 Jn Jc))) (J4 Jn Jc)))))) (show 4 ∉ ([0] : List Nat) from by decide)))
    (Jr (Je [] (Yz (Yr (or_eq hu) s_eq (U1 cZ0e (hr.mono (by decide)) rfl hx (J4 (qr 3) (J4 Jn Jc))) Jn (nomark _)) (Y3 (Je [] (Yo (i:=4) sc.nd rfl (by first | exact Or.inl rfl | exact Or.inr rfl) (U1 cZ05 (hr.mono (by decide)) rfl hx (J4 (qr 3) (J4 (qr 4) Jc))) (show 4 ∉ ([0] : List Nat) from by decide)))) U3))
    (Jr (Je [] (Yz (Vt (Gg (Vd (Wf rfl g_isinstance (qr 4) (Vq rfl g_list L9))) (K7 (Yr (or_eq hu) s_eq (U1 cZ0e (hr.mono (by decide)) rfl hx (J4 (qr 3) (J4 Jn Jc))) Jn (nomark _))))) (Y3 (Je [3] (Yo (i:=4) sc.nd rfl (by first | exact Or.inl rfl | exact Or.inr rfl) (W2 call_tuple_of Oi rfl g_tuple PyProof.Rows.boot_tuple (J4 (qr 4) Jc)) (show 4 ∉ ([0] : List Nat) from by decide)))) U3))
    (Y3 (Wg [1] (Je [3] (JX1 hu (qr 4) (qr 1) (qv 2))))))))))))))
    (Jr (Wg [1] (Je [] (JKn (U1 cZ0g (hr.mono (by decide)) rfl hx (J4 (qr 1) Jc)) (JVu rfl (Gr (V3 (i:=5) sc.nd rfl (by first | exact Or.inl rfl | exact Or.inr rfl) (show 5 ∉ ([0] : List Nat) from by decide)) (Gr (V3 (i:=6) sc.nd rfl (by first | exact Or.inl rfl | exact Or.inr rfl) (show 6 ∉ ([0] : List Nat) from by decide)) (Gr (V3 (i:=7) sc.nd rfl (by first | exact Or.inl rfl | exact Or.inr rfl) (show 7 ∉ ([0] : List Nat) from by decide)) Ew)))))))
    (Jr (Wg [1] (Je [2] (JX3 [(("_law_word" : Str),2)] rfl sc.nd (i:=8) rfl rfl (show 8 ∉ ([0] : List Nat) from by decide) (sw_true rfl rfl rfl rfl) (show BlkOk ["_law_script","_law_shapes","_law_word","_law_stream_here","_law_pieces","_law_form","_law_refused","_law_below","_law_wrong","_law_due","_law_again","_law_other","_law_row"] (defScope sZ0l) _ [(("_law_word" : Str),2)] from blkOk_by (by decide +kernel)) (W6 (Ur (J4 Jj (J4 Jj (J4 Jj Jc))))) (fun _ _ _ _ _=>(V3 (i:=2) sc.nd rfl (by first | exact Or.inl rfl | exact Or.inr rfl) (show 2 ∉ ([0] : List Nat) from by decide))) (fun _ _ _ _ _=>(O6 (V8 (Vd (JG3 cZ01 (hr.mono (by decide)) rfl Ov (J4 (Xt hu (qr 1) (qv 2)) (J4 (qv 2) Jc))))))) (fun _ _ _ _ _=>(qv 2)) (show ∀ v ∈ ([2] : List Nat),v ∉ ([0] : List Nat) from by decide) (show ∀ i ∈ ([2] : List Nat),i ∈ ([2] : List Nat) from by decide))))
    (Jr (Je [2] (Yz (Yr op_gt L4 (Ua V9 V5 rfl g_len boot_len (J4 (qv 8) Jc)) Jn (nomark _)) (Y3 (Je [1] (Yg (G6 (Zf op_isN JM6 (qv 5) Xk (nomark _)) (G6 (Zf (or_eq hu) s_eq (qv 6) (Yi hu (qv 8) Jn) (nomark _)) (O4 (qv 7))))))) U3))
    (Jr (Je [7,8] (Yo (i:=9) sc.nd rfl (by first | exact Or.inl rfl | exact Or.inr rfl) P9 (show 9 ∉ ([0] : List Nat) from by decide)))
    (Jr (Wg [1] (Je [] (Za hp rfl (W6 (Ur (J4 Jj (J4 Jj (J4 Jj Jc))))) (V3 (i:=2) sc.nd rfl (by first | exact Or.inl rfl | exact Or.inr rfl) (show 2 ∉ ([0] : List Nat) from by decide)) (Nd [1] (Xg [2] (Y3 (Wg [1] (Je [] (H9 hu (W2 call_tuple_of Oi rfl g_tuple PyProof.Rows.boot_tuple (J4 (Xt hu (qr 1) (qv 2)) Jc)) (qr 9) (qv 2))))))))))
    (Jr (Je [] (Yz (Vt (Vl (Yr (Bv hu) Fb (qv 6) Jj (nomark _)) (Vl (V8 (Vd (Wf rfl g_isinstance (qv 5) (Ox rfl gc_Form)))) (Wn (V8 (Vd (U1 cZ0f (hr.mono (by decide)) rfl hx (J4 (qv 5) (J4 (qr 9) Jc))))))))) (Y3 (Je [1,5,6,9] (Yg Vw))) U3))
    (Jr (Je [6] (Yo (i:=10) sc.nd rfl (by first | exact Or.inl rfl | exact Or.inr rfl) (Wj (Mi mk_Form (hr.mono (by decide)) rfl hx (J4 (W2 (Hv rfl) Lz rfl g_list PyProof.Rows.boot_list (J4 (Yi hu (qr 9) Jj) Jc)) (J4 (W2 (Hv rfl) Lz rfl g_list PyProof.Rows.boot_list (J4 (Yi hu (qr 9) Jj) Jc)) (J4 (W2 (Hv rfl) Lz rfl g_list PyProof.Rows.boot_list (J4 (Yi hu (qr 9) Jj) Jc)) Jc))))) (show 10 ∉ ([0] : List Nat) from by decide)))
    (Jr (Je [] (Yz (Vt (Vl (V8 (Yr (Ek eq_Form (hr.mono (by decide))) Ni (qv 5) (qv 10) (nomark _))) (Wn (Yr (JHg eq_Form (hr.mono (by decide))) Ni (qv 5) (qv 10) (nomark _))))) (Y3 (Je [1,5,9,10] (Yg Vw))) U3))
    (Jr (Wg [1] (Je [10] (Za hp rfl (W6 (Ur (J4 Jj (J4 Jj (J4 Jj Jc))))) (V3 (i:=2) sc.nd rfl (by first | exact Or.inl rfl | exact Or.inr rfl) (show 2 ∉ ([0] : List Nat) from by decide)) (Nd [1] (Xg [2,12] (Jr (Je [] (Yo (i:=11) sc.nd rfl (by first | exact Or.inl rfl | exact Or.inr rfl) (W2 call_dictD JKm rfl g_dict PyProof.Rows.boot_dict (J4 (qr 9) Jc)) (show 11 ∉ ([0] : List Nat) from by decide)))
    (Jr (Je [] (H9 hu (Ys Vh Vf (Ug (J4 (Ug (J4 Jj (J4 Jj Jc))) Jc)) (Bc (Yi hu (qr 9) (qv 2)) B2 (Xp Jn))) (qr 11) (qv 2)))
    (Jr (Je [] (Yz (Vt (Gg (Yr op_lt F5 (Ua V9 V5 rfl g_len boot_len (J4 (Yi hu (qr 9) (qv 2)) Jc)) Jn (nomark _)) (K7 (Yr (Ek eq_Form (hr.mono (by decide))) Ni (qv 5) (Wj (Mi mk_Form (hr.mono (by decide)) rfl hx (J4 (Yi hu (qr 11) Jj) (J4 (Yi hu (qr 11) Jj) (J4 (Yi hu (qr 11) Jj) Jc))))) (nomark _))))) (Y3 (Je [1,2,5,9,11] (Yg Vw))) U3))
    (Y3 (Wg [1] (Je [11] (Yz (Vd (JHd rfl g_isinstance (Xt hu (qr 1) (qv 2)) (Vq rfl g_list L9))) (Jr (Wg [1] (Je [] (Yo (i:=12) sc.nd rfl (by first | exact Or.inl rfl | exact Or.inr rfl) (Xt hu (qr 1) (qv 2)) (show 12 ∉ ([0] : List Nat) from by decide))))
    (Jr (Je [2] (Zw (JBv (qal 12) (Ug (J4 Jj (J4 Jj Jc))))))
    (Y3 (Je [] (Zw (JN0 (qal 12))))))) U3))))))))))))
    (Y3 (Je [1] (Yg (U1 cZ0f (hr.mono (by decide)) rfl hx (J4 (qv 5) (J4 (qr 9) Jc)))))))))))))))))
end
end Law
set_option maxHeartbeats 1000000
namespace Law
open PySem PySem.Spec PyProof.Rows L2 Vs
/-- the letters -/
def lets : Str:="abcdefghijklmnopqrstuvwxyz"
def JJj (x : Str) : Bool:=decide (1 ≤ x.length) && decide (x.length ≤ 8) && x.cps.toList.all fun c=>decide (c ∈ lets.cps.toList)
structure Sta where
  s : Str
  k : Str
  m : Int
  a : Int
inductive Ent where
  | row (i : Int) (s k : Str) (m a t : Int)
  | fix (i m a t : Int)
  | gone (i t : Int)
def Sta.d (x : Sta) : D:=.tup [.str x.s,.str x.k,.int x.m,.int x.a]
def Ent.d : Ent → D
  | .row i s k m a t=>.tup [.str ("row" : Str),.int i,.str s,.str k,.int m,.int a,.int t]
  | .fix i m a t=>.tup [.str ("fix" : Str),.int i,.int m,.int a,.int t]
  | .gone i t=>.tup [.str ("gone" : Str),.int i,.int t]
def Ent.i : Ent → Int
  | .row i _ _ _ _ _=>i
  | .fix i _ _ _=>i
  | .gone i _=>i
def Ent.t : Ent → Int
  | .row _ _ _ _ _ t=>t
  | .fix _ _ _ t=>t
  | .gone _ t=>t
theorem Ent.inj {e e' : Ent} (h : e.d = e'.d) : e = e':=by
  cases e <;> cases e' <;> simp [Ent.d] at h ⊢ <;> simp_all
abbrev Sts:=List (Int × Option Sta)
def Yu : Sts → Int → Option (Option Sta)
  | [],_=>none
  | (j,o) :: r,i=>if j = i then some o else Yu r i
def Fp (st : Sts) (i : Int) (o : Option Sta) : Sts:=if (st.any fun p=>decide (p.1 = i)) = true then st.map (fun p=>if p.1 = i then (p.1,o) else p) else st ++ [(i,o)]
theorem O3 : ∀ (st : Sts) (i : Int),(st.any fun p=>decide (p.1 = i)) = (Yu st i).isSome
  | [],_=>rfl
  | (j,o) :: r,i=>by
    simp only [List.any_cons,Yu,O3 r i]
    split <;> simp_all
def inT (m t l : Int) : Bool:=decide (m ≤ t) && decide (t ≤ m + l)
def Ent.ok : Ent → Bool
  | .row i s k _ _ _=>decide (0 ≤ i) && (JJj s && JJj k)
  | .fix i _ _ _=>decide (0 ≤ i)
  | .gone i _=>decide (0 ≤ i)
def Md (last : Option Int) (t : Int) : Bool:=match last with
  | none=>true
  | some x=>!decide (t < x)
def L3 (g : Str → Option Int) (st : Sts) (i t : Int) (k : Int → Bool) : Bool:=match Yu st i with
  | some (some o)=>(match g o.s with
    | some l=>!decide (o.m + l < t) && k l
    | none=>false)
  | _=>false
def good (g : Str → Option Int) (st : Sts) (last : Option Int) (e : Ent) : Bool:=e.ok && (Md last e.t && match e with
  | .row i s _ m _ t=>(Yu st i).isNone && (match g s with
    | some l=>inT m t l
    | none=>false)
  | .fix i m _ t=>L3 g st i t fun l=>inT m t l
  | .gone i t=>L3 g st i t fun _=>true)
def behind (st : Sts) : Ent → Option Sta
  | .row _ s k m a _=>some ⟨s,k,m,a⟩
  | .fix i m a _=>(match Yu st i with
    | some (some o)=>some ⟨o.s,o.k,m,a⟩
    | _=>none)
  | .gone _ _=>none
def after (st : Sts) (e : Ent) : Sts:=Fp st e.i (behind st e)
def JXz (st : Sts) (es : List Ent) : Sts:=es.foldl after st
def N0 (g : Str → Option Int) : Sts → Option Int → List Ent → Bool
  | _,_,[]=>true
  | st,last,e :: es=>good g st last e && N0 g (after st e) (some e.t) es
def JH0 (last : Option Int) (es : List Ent) : Option Int:=es.foldl (fun _ e=>some e.t) last
theorem Mp (st : Sts) (i j : Int) (o : Option Sta) : Yu (Fp st i o) j = if i = j then some o else Yu st j:=by
  have h1 : ∀ st : Sts,Yu (st.map fun p=>if p.1 = i then (p.1,o) else p) j = if i = j then (Yu st j).map fun _=>o else Yu st j:=by
    intro st
    induction st with
    | nil=>simp [Yu]
    | cons p r ih =>
      obtain ⟨a,b⟩:=p
      simp only [List.map_cons]
      by_cases e : a = i
      · subst e
        simp only [if_true,Yu]
        split
        · simp
        · rw [ih]
          rename_i ne
          simp [ne]
      · simp only [if_neg e,Yu]
        split
        · rename_i e2
          subst e2
          simp [Ne.symm e]
        · exact ih
  have h2 : ∀ st : Sts,Yu (st ++ [(i,o)]) j = (match Yu st j with
      | some x=>some x
      | none=>if i = j then some o else none):=by
    intro st
    induction st with
    | nil=>simp [Yu]
    | cons p r ih =>
      obtain ⟨a,b⟩:=p
      simp only [List.cons_append,Yu]
      split
      · rfl
      · exact ih
  unfold Fp
  rw [O3]
  by_cases h : (Yu st i).isSome = true
  · rw [if_pos h,h1]
    by_cases e : i = j
    · subst e
      obtain ⟨x,hx⟩:=Option.isSome_iff_exists.mp h
      simp [hx]
    · simp [e]
  · rw [if_neg h,h2]
    have hn : Yu st i = none:=by simpa using h
    by_cases e : i = j
    · subst e
      simp [hn]
    · simp only [e,if_false]
      cases Yu st j <;> rfl
theorem JMu (st : Sts) (i : Int) (o : Option Sta) : (Fp st i o).map (·.1) = if (Yu st i).isSome = true then st.map (·.1) else st.map (·.1) ++ [i]:=by
  unfold Fp
  rw [O3]
  split
  · rw [List.map_map]
    refine List.map_congr_left fun p _=>?_
    simp only [Function.comp]
    split <;> rfl
  · simp
theorem Nq : ∀ (st : Sts) (i : Int),Yu st i = none ↔ i ∉ st.map (·.1)
  | [],i=>by simp [Yu]
  | (j,o) :: r,i=>by
    simp only [Yu,List.map_cons,List.mem_cons,not_or]
    split
    · rename_i e
      simp [e]
    · rename_i e
      rw [Nq r i]
      exact ⟨fun h=>⟨fun z=>e z.symm,h⟩,fun h=>h.2⟩
theorem JHv {st : Sts} {i : Int} {o : Option Sta} (nd : (st.map (·.1)).Nodup) : ((Fp st i o).map (·.1)).Nodup:=by
  rw [JMu]
  split
  · exact nd
  · rename_i h
    have hn : Yu st i = none:=by simpa using h
    have:=(Nq st i).mp hn
    rw [List.nodup_append]
    refine ⟨nd,by simp,fun a ha b hb=>?_⟩
    have : b = i:=by simpa using hb
    subst this
    exact fun e=>(Nq st b).mp hn (e ▸ ha)
theorem Eg : ∀ {st : Sts} {i : Int} {o : Option Sta},(st.map (·.1)).Nodup → (i,o) ∈ st → Yu st i = some o
  | (j,x) :: r,i,o,nd,h=>by
    simp only [List.map_cons,List.nodup_cons] at nd
    simp only [Yu]
    rcases List.mem_cons.mp h with h | h
    · cases h
      simp
    · have ne : j ≠ i:=fun e=>nd.1 (by rw [e]; exact List.mem_map.mpr ⟨_,h,rfl⟩)
      rw [if_neg ne]
      exact Eg nd.2 h
theorem get_mem : ∀ {st : Sts} {i : Int} {o : Option Sta},Yu st i = some o → (i,o) ∈ st
  | (j,x) :: r,i,o,h=>by
    simp only [Yu] at h
    split at h
    · rename_i e
      cases h
      rw [e]
      exact List.mem_cons_self ..
    · exact List.mem_cons_of_mem _ (get_mem h)
/-- the states' streams are in the book -/
def StOk (g : Str → Option Int) (st : Sts) : Prop:=∀ i o,Yu st i = some (some o) → (g o.s).isSome = true
theorem Aw {g : Str → Option Int} {st : Sts} {i t : Int} {k : Int → Bool} (h : L3 g st i t k = true) : ∃ o l,Yu st i = some (some o) ∧ g o.s = some l ∧ t ≤ o.m + l ∧ k l = true:=by
  unfold L3 at h
  split at h
  · rename_i o ho
    split at h
    · rename_i l hl
      simp only [Bool.and_eq_true,Bool.not_eq_true',decide_eq_false_iff_not,Int.not_lt] at h
      exact ⟨o,l,ho,hl,h.1,h.2⟩
    · cases h
  · cases h
theorem StOk.after {g : Str → Option Int} {st : Sts} {last : Option Int} {e : Ent} (s : StOk g st) (h : good g st last e = true) : StOk g (after st e):=by
  intro j o ho
  unfold Law.after at ho
  rw [Mp] at ho
  split at ho
  · simp only [Option.some.injEq] at ho
    unfold good at h
    simp only [Bool.and_eq_true] at h
    obtain ⟨_,_,h⟩:=h
    cases e with
    | row i s k m a t =>
      simp only [behind,Option.some.injEq] at ho
      subst ho
      simp only [Bool.and_eq_true] at h
      cases hg : g s with
      | none=>rw [hg] at h; exact absurd h.2 (by simp)
      | some l=>rfl
    | fix i m a t =>
      obtain ⟨o',l,h1,h2,_⟩:=Aw h
      simp only [behind,h1,Option.some.injEq] at ho
      subst ho
      rw [h2]
      rfl
    | gone i t=>simp [behind] at ho
  · exact s _ _ ho
abbrev Row:=Int × Int × Int
def rowOf (s k : Str) (p : Int × Option Sta) : Option Row:=match p.2 with
  | some o=>if o.s = s ∧ o.k = k then some (o.m,p.1,o.a) else none
  | none=>none
def Na (st : Sts) (s k : Str) : List Row:=st.filterMap (rowOf s k)
end Law
namespace Law
open PySem PySem.Spec PyProof.Rows L2 Vs
variable {g : Str → Option Int} {st : Sts} {last : Option Int} {e : Ent} {es : List Ent}
/-- the states behind good entries -/
structure StG (g : Str → Option Int) (st : Sts) (last : Option Int) : Prop where
  nd : (st.map (·.1)).Nodup
  ok : StOk g st
  id : ∀ i,Yu st i ≠ none → 0 ≤ i
  mo : ∀ i o,Yu st i = some (some o) → ∃ t,last = some t ∧ o.m ≤ t
theorem JXt (h : good g st last e = true) : e.ok = true:=by
  unfold good at h
  simp only [Bool.and_eq_true] at h
  exact h.1
theorem JMk (h : good g st last e = true) : Md last e.t = true:=by
  unfold good at h
  simp only [Bool.and_eq_true] at h
  exact h.2.1
theorem JFf (h : e.ok = true) : 0 ≤ e.i:=by
  cases e <;> simp [Ent.ok] at h <;> first | exact h.1 | exact h
theorem inT_iff {m t l : Int} : inT m t l = true ↔ m ≤ t ∧ t ≤ m + l:=by simp [inT]
theorem StG.after (h : StG g st last) (hg : good g st last e = true) : StG g (after st e) (some e.t) where
  nd:=JHv h.nd
  ok:=h.ok.after hg
  id:=fun i hi=>by
    unfold Law.after at hi
    rw [Mp] at hi
    split at hi
    · rename_i e1
      rw [← e1]
      exact JFf (JXt hg)
    · exact h.id i hi
  mo:=fun i o ho=>by
    refine ⟨e.t,rfl,?_⟩
    have hl:=JMk hg
    unfold Law.after at ho
    rw [Mp] at ho
    split at ho
    · simp only [Option.some.injEq] at ho
      unfold good at hg
      simp only [Bool.and_eq_true] at hg
      obtain ⟨_,_,hg⟩:=hg
      cases e with
      | row i s k m a t =>
        simp only [behind,Option.some.injEq] at ho
        subst ho
        simp only [Bool.and_eq_true] at hg
        cases hs : g s with
        | none=>rw [hs] at hg; exact absurd hg.2 (by simp)
        | some l =>
          rw [hs] at hg
          exact (inT_iff.mp hg.2).1
      | fix i m a t =>
        obtain ⟨o',l,h1,h2,_,h3⟩:=Aw hg
        simp only [behind,h1,Option.some.injEq] at ho
        subst ho
        exact (inT_iff.mp h3).1
      | gone i t=>simp [behind] at ho
    · obtain ⟨t,rfl,ht⟩:=h.mo i o ho
      simp only [Md,Bool.not_eq_true',decide_eq_false_iff_not,Int.not_lt] at hl
      omega
theorem StG.run : ∀ {es : List Ent} {st : Sts} {last : Option Int},StG g st last → N0 g st last es = true → StG g (JXz st es) (JH0 last es)
  | [],_,_,h,_=>h
  | e :: es,st,last,h,hg=>by
    simp only [N0,Bool.and_eq_true] at hg
    exact StG.run (es:=es) (h.after hg.1) hg.2
theorem Ck (nd : (st.map (·.1)).Nodup) {s k : Str} {r : Row} : r ∈ Na st s k ↔ ∃ o,Yu st r.2.1 = some (some o) ∧ o.s = s ∧ o.k = k ∧ r.1 = o.m ∧ r.2.2 = o.a:=by
  unfold Na
  rw [List.mem_filterMap]
  constructor
  · rintro ⟨⟨i,o⟩,hp,hr⟩
    cases o with
    | none=>simp [rowOf] at hr
    | some o =>
      simp only [rowOf] at hr
      split at hr
      · rename_i h
        simp only [Option.some.injEq] at hr
        subst hr
        exact ⟨o,Eg nd hp,h.1,h.2,rfl,rfl⟩
      · cases hr
  · rintro ⟨o,h1,h2,h3,h4,h5⟩
    refine ⟨(r.2.1,some o),get_mem h1,?_⟩
    simp only [rowOf]
    rw [if_pos ⟨h2,h3⟩,← h4,← h5]
section
variable {s k : Str} {l h fresh : Int} {r : Row}
/-- what is still open at h can be changed at the next arrival -/
structure OpenAt (g : Str → Option Int) (st : Sts) (last : Option Int) (s k : Str) (r : Row) (l h : Int) : Prop where
  G : StG g st last
  hs : g s = some l
  r : r ∈ Na st s k
  la : ∃ t,last = some t ∧ t ≤ h
theorem OpenAt.id (H : OpenAt g st last s k r l h) : 0 ≤ r.2.1:=by
  obtain ⟨o,h1,_⟩:=(Ck H.G.nd).mp H.r
  exact H.G.id _ (by rw [h1]; simp)
theorem OpenAt.mo (H : OpenAt g st last s k r l h) : r.1 ≤ h:=by
  obtain ⟨o,h1,h2,h3,h4,h5⟩:=(Ck H.G.nd).mp H.r
  obtain ⟨t,e,ht⟩:=H.la
  obtain ⟨t',e',ht'⟩:=H.G.mo _ o h1
  rw [e] at e'
  cases e'
  omega
end
end Law
namespace Law
open PySem PySem.Spec PyProof.Rows L2 Vs
def sle (a b : Str) : Bool:=PySem.W.dataLe false pd (.str a) (.str b)
theorem Qv : PySem.W.TotalLe sle:=by
  have h:=PySem.W.sortLe_total (PyProof.Rows.listOrd PyProof.Rows.itemOrd) false fun r : Str=>PySem.W.keyToks (pd (.str r))
  exact h
theorem JZ2 {a b : Str} (h1 : sle a b = true) (h2 : sle b a = true) : a = b:=by
  have e : PySem.W.keyToks (pd (.str a)) = PySem.W.keyToks (pd (.str b)):=by
    have h1' : (!(PyProof.Rows.listOrd PyProof.Rows.itemOrd).blt (PySem.W.keyToks (pd (.str b))) (PySem.W.keyToks (pd (.str a)))) = true:=h1
    have h2' : (!(PyProof.Rows.listOrd PyProof.Rows.itemOrd).blt (PySem.W.keyToks (pd (.str a))) (PySem.W.keyToks (pd (.str b)))) = true:=h2
    rw [Bool.not_eq_true'] at h1' h2'
    exact (PyProof.Rows.listOrd PyProof.Rows.itemOrd).total _ _ h2' h1'
  simp only [pd,PySem.W.keyToks,List.cons.injEq,Sum.inr.injEq,and_true] at e
  cases a; cases b
  simp only at e
  congr 1
  exact Array.toList_inj.mp e
theorem C6 (ss : List Str) : X8 (ss.map D.str) = (ss.mergeSort sle).map D.str:=(List.map_mergeSort (r:=sle) (s:=PySem.W.dataLe false pd) (f:=D.str) fun _ _ _ _=>rfl).symm
theorem JMv {xs ys : List Str} (h : xs.Perm ys) (h1 : xs.Pairwise (fun a b=>sle a b = true)) (h2 : ys.Pairwise (fun a b=>sle a b = true)) : xs = ys :=
  h.eq_of_pairwise (fun _ _ _ _=>JZ2) h1 h2
theorem JUv (rs : List Str) : PySem.W.AllAlike ((rs.map D.str).map pd):=by
  intro a ha b hb
  simp only [List.map_map,List.mem_map,Function.comp] at ha hb
  obtain ⟨x,_,rfl⟩:=ha
  obtain ⟨y,_,rfl⟩:=hb
  simp [pd,PySem.W.alike]
end Law
set_option maxHeartbeats 4000000
namespace Law
open PySem PySem.Spec PyProof.Rows L2 Vs
variable [Tbs]
set_option hygiene false in
local macro_rules | `(tactic| walk_at "vs1")=>`(tactic| ((with_reducible apply Qi)<;>intro hif))
set_option hygiene false in
local macro_rules | `(tactic| walk_at "vs1")=>`(tactic| ((with_reducible refine JWq ?_ ?_);(first|assumption|rfl)))
set_option hygiene false in
local macro_rules | `(tactic| walk_at "vs1")=>`(tactic| ((with_reducible refine Rk ?_ ?_);(first|assumption|rfl)))
set_option hygiene false in
local macro_rules | `(tactic| walk_at "vs1")=>`(tactic| (with_reducible apply D0))
set_option hygiene false in
local macro_rules | `(tactic| walk_at "vs1")=>`(tactic| (with_reducible apply JJl))
set_option hygiene false in
local macro_rules | `(tactic| walk_at "vs1")=>`(tactic| ((with_reducible apply Tw);(unfold CMul; first|decide|omega)))
set_option hygiene false in
local macro_rules | `(tactic| walk_at "vs1")=>`(tactic| ((with_reducible apply JJ5);(unfold CPow; decide)))
set_option hygiene false in
local macro_rules | `(tactic| walk_at "vs1")=>`(tactic| ((with_reducible apply E1);assumption))
set_option hygiene false in
local macro_rules | `(tactic| walk_at "vs1")=>`(tactic| ((with_reducible apply C5);assumption))
set_option hygiene false in
local macro_rules | `(tactic| walk_at "vs1")=>`(tactic| ((with_reducible apply Cu);assumption))
set_option hygiene false in
local macro_rules | `(tactic| walk_at "vs1")=>`(tactic| ((with_reducible apply JUd);assumption))
set_option hygiene false in
local macro_rules | `(tactic| walk_at "vs1")=>`(tactic| exact Ae)
set_option hygiene false in
local macro_rules | `(tactic| walk_at "vs1")=>`(tactic| exact JUw)
set_option hygiene false in
local macro_rules | `(tactic| walk_at "vs1")=>`(tactic| exact Ai)
set_option hygiene false in
local macro_rules | `(tactic| walk_at "vs1")=>`(tactic| exact B3)
set_option hygiene false in
local macro_rules | `(tactic| walk_at "vs1")=>`(tactic| exact S9)
set_option hygiene false in
local macro_rules | `(tactic| walk_at "vs1")=>`(tactic| ((with_reducible apply JYa);rfl;rfl;rfl;intro w))
set_option hygiene false in
local macro_rules | `(tactic| walk_at "vs1")=>`(tactic| ((with_reducible apply Hk);rfl;(first|exact Jh|exact Y2 rfl|exact Js|exact Ju rfl|exact Jv|exact Jy rfl|exact Jx|exact Y1 rfl|exact Y0 rfl rfl|exact Jz rfl rfl|exact Jw rfl rfl|exact Jp rfl rfl|exact Jt rfl rfl);rfl;rfl;rfl;intro w))
set_option hygiene false in
local macro_rules | `(tactic| walk_at "vs1")=>`(tactic| ((with_reducible apply JYr);rfl;(first|exact Jh|exact Y2 rfl|exact Js|exact Ju rfl|exact Jv|exact Jy rfl|exact Jx|exact Y1 rfl|exact Y0 rfl rfl|exact Jz rfl rfl|exact Jw rfl rfl|exact Jp rfl rfl|exact Jt rfl rfl);(first|exact (rfl : _ = some (0:Nat))|exact (rfl : _ = some (1:Nat))|exact (rfl : _ = some (2:Nat))|exact (rfl : _ = some (3:Nat))|exact (rfl : _ = some (4:Nat))|exact (rfl : _ = some (5:Nat)));rfl;rfl;intro w))
set_option hygiene false in
local macro_rules | `(tactic| walk_at "vs1")=>`(tactic| ((with_reducible apply JWl);rfl;(first|exact Jh|exact Y2 rfl|exact Js|exact Ju rfl|exact Jv|exact Jy rfl|exact Jx|exact Y1 rfl|exact Y0 rfl rfl|exact Jz rfl rfl|exact Jw rfl rfl|exact Jp rfl rfl|exact Jt rfl rfl);(first|exact (rfl : _ = some (0:Nat))|exact (rfl : _ = some (1:Nat))|exact (rfl : _ = some (2:Nat))|exact (rfl : _ = some (3:Nat))|exact (rfl : _ = some (4:Nat))|exact (rfl : _ = some (5:Nat)));rfl;rfl;intro w))
set_option hygiene false in
local macro_rules | `(tactic| walk_at "vs1")=>`(tactic| ((with_reducible apply Ee);exact Nat.le_of_ble_eq_true rfl))
set_option hygiene false in
local macro_rules | `(tactic| walk_at "vs1")=>`(tactic| ((with_reducible apply Qg);exact Nat.le_of_ble_eq_true rfl))
set_option hygiene false in
local macro_rules | `(tactic| walk_at "vs1")=>`(tactic| ((with_reducible apply Sr);rfl;rfl))
set_option hygiene false in
local macro_rules | `(tactic| walk_at "vs1")=>`(tactic| ((with_reducible apply Em);rfl;rfl))
set_option hygiene false in
local macro_rules | `(tactic| walk_at "vs1")=>`(tactic| ((with_reducible apply JW5);(first|exact Jh|exact Y2 rfl|exact Js|exact Ju rfl|exact Jv|exact Jy rfl|exact Jx|exact Y1 rfl|exact Y0 rfl rfl|exact Jz rfl rfl|exact Jw rfl rfl|exact Jp rfl rfl|exact Jt rfl rfl)))
set_option hygiene false in
local macro_rules | `(tactic| walk_at "vs1")=>`(tactic| ((with_reducible apply JWy);rfl;(first|assumption|simp);(first|assumption|rfl)))
set_option hygiene false in
local macro_rules | `(tactic| walk_at "vs1")=>`(tactic| ((with_reducible apply JJr);rfl;(first|assumption|simp);(first|assumption|rfl)))
set_option hygiene false in
local macro_rules | `(tactic| walk_at "vs1")=>`(tactic| ((with_reducible apply Es);(first|exact Jh|exact Y2 rfl|exact Js|exact Ju rfl|exact Jv|exact Jy rfl|exact Jx|exact Y1 rfl|exact Y0 rfl rfl|exact Jz rfl rfl|exact Jw rfl rfl|exact Jp rfl rfl|exact Jt rfl rfl)))
set_option hygiene false in
local macro_rules | `(tactic| walk_at "vs1")=>`(tactic| ((with_reducible apply JJf);(first|exact Jh|exact Y2 rfl|exact Js|exact Ju rfl|exact Jv|exact Jy rfl|exact Jx|exact Y1 rfl|exact Y0 rfl rfl|exact Jz rfl rfl|exact Jw rfl rfl|exact Jp rfl rfl|exact Jt rfl rfl);(first|exact Jh|exact Y2 rfl|exact Js|exact Ju rfl|exact Jv|exact Jy rfl|exact Jx|exact Y1 rfl|exact Y0 rfl rfl|exact Jz rfl rfl|exact Jw rfl rfl|exact Jp rfl rfl|exact Jt rfl rfl);rfl))
set_option hygiene false in
local macro_rules | `(tactic| walk_at "vs1")=>`(tactic| ((with_reducible apply Ah);(first|exact Jh|exact Y2 rfl|exact Js|exact Ju rfl|exact Jv|exact Jy rfl|exact Jx|exact Y1 rfl|exact Y0 rfl rfl|exact Jz rfl rfl|exact Jw rfl rfl|exact Jp rfl rfl|exact Jt rfl rfl)))
set_option hygiene false in
local macro_rules | `(tactic| walk_at "vs1")=>`(tactic| ((with_reducible apply JW4);(first|exact Jh|exact Y2 rfl|exact Js|exact Ju rfl|exact Jv|exact Jy rfl|exact Jx|exact Y1 rfl|exact Y0 rfl rfl|exact Jz rfl rfl|exact Jw rfl rfl|exact Jp rfl rfl|exact Jt rfl rfl)))
set_option hygiene false in
local macro_rules | `(tactic| walk_at "vs1")=>`(tactic| ((with_reducible apply Of);(first|exact Jh|exact Y2 rfl|exact Js|exact Ju rfl|exact Jv|exact Jy rfl|exact Jx|exact Y1 rfl|exact Y0 rfl rfl|exact Jz rfl rfl|exact Jw rfl rfl|exact Jp rfl rfl|exact Jt rfl rfl)))
set_option hygiene false in
local macro_rules | `(tactic| walk_at "vs1")=>`(tactic| ((with_reducible apply L6);(first|exact Jh|exact Y2 rfl|exact Js|exact Ju rfl|exact Jv|exact Jy rfl|exact Jx|exact Y1 rfl|exact Y0 rfl rfl|exact Jz rfl rfl|exact Jw rfl rfl|exact Jp rfl rfl|exact Jt rfl rfl)))
set_option hygiene false in
local macro_rules | `(tactic| walk_at "vs1")=>`(tactic| ((with_reducible apply JYz);rfl))
set_option hygiene false in
local macro_rules | `(tactic| walk_at "vs1")=>`(tactic| ((with_reducible apply JWp);rfl))
set_option hygiene false in
local macro_rules | `(tactic| walk_at "vs1")=>`(tactic| ((with_reducible apply Df);rfl))
set_option hygiene false in
local macro_rules | `(tactic| walk_at "vs1")=>`(tactic| ((with_reducible apply Qs);rfl;exact Nat.le_of_ble_eq_true rfl))
set_option hygiene false in
local macro_rules | `(tactic| walk_at "vs1")=>`(tactic| ((with_reducible first|apply JJa|apply As);(first|exact Jh|exact Y2 rfl|exact Js|exact Ju rfl|exact Jv|exact Jy rfl|exact Jx|exact Y1 rfl|exact Y0 rfl rfl|exact Jz rfl rfl|exact Jw rfl rfl|exact Jp rfl rfl|exact Jt rfl rfl);(first|exact Jh|exact Y2 rfl|exact Js|exact Ju rfl|exact Jv|exact Jy rfl|exact Jx|exact Y1 rfl|exact Y0 rfl rfl|exact Jz rfl rfl|exact Jw rfl rfl|exact Jp rfl rfl|exact Jt rfl rfl);(first|exact Jh|exact Y2 rfl|exact Js|exact Ju rfl|exact Jv|exact Jy rfl|exact Jx|exact Y1 rfl|exact Y0 rfl rfl|exact Jz rfl rfl|exact Jw rfl rfl|exact Jp rfl rfl|exact Jt rfl rfl)))
set_option hygiene false in
local macro_rules | `(tactic| walk_at "vs1")=>`(tactic| ((with_reducible first|apply Tx|apply Et);rfl;(first|assumption|rfl)))
set_option hygiene false in
local macro_rules | `(tactic| walk_at "vs1")=>`(tactic| ((with_reducible apply JUi);(first|exact Jh|exact Y2 rfl|exact Js|exact Ju rfl|exact Jv|exact Jy rfl|exact Jx|exact Y1 rfl|exact Y0 rfl rfl|exact Jz rfl rfl|exact Jw rfl rfl|exact Jp rfl rfl|exact Jt rfl rfl);(first|exact Jh|exact Y2 rfl|exact Js|exact Ju rfl|exact Jv|exact Jy rfl|exact Jx|exact Y1 rfl|exact Y0 rfl rfl|exact Jz rfl rfl|exact Jw rfl rfl|exact Jp rfl rfl|exact Jt rfl rfl);(first|assumption|rfl);(first|assumption|rfl)))
set_option hygiene false in
local macro_rules | `(tactic| walk_at "vs1")=>`(tactic| ((with_reducible apply Af);rfl;(first|assumption|simp);(repeat' first|exact Hu|exact fs_own _|apply fs_put|apply JVz);exact Nat.le_of_ble_eq_true rfl))
set_option hygiene false in
local macro_rules | `(tactic| walk_at "vs1")=>`(tactic| ((with_reducible apply Sf);(first|exact Jh|exact Y2 rfl|exact Js|exact Ju rfl|exact Jv|exact Jy rfl|exact Jx|exact Y1 rfl|exact Y0 rfl rfl|exact Jz rfl rfl|exact Jw rfl rfl|exact Jp rfl rfl|exact Jt rfl rfl);(first|assumption|rfl);(first|assumption|rfl)))
set_option hygiene false in
local macro_rules | `(tactic| walk_at "vs1")=>`(tactic| ((with_reducible apply Rm);((try simp only [unts,U4,Xn,Z2,Bp,List.getElem?_cons_zero,List.getElem?_cons_succ,List.set_cons_zero,List.set_cons_succ]);rfl)))
set_option hygiene false in
local macro_rules | `(tactic| walk_at "vs1")=>`(tactic| ((with_reducible first|apply A0|apply Mm);(first|exact Jh|exact Y2 rfl|exact Js|exact Ju rfl|exact Jv|exact Jy rfl|exact Jx|exact Y1 rfl|exact Y0 rfl rfl|exact Jz rfl rfl|exact Jw rfl rfl|exact Jp rfl rfl|exact Jt rfl rfl);rfl;rfl))
set_option hygiene false in
local macro_rules | `(tactic| walk_at "vs1")=>`(tactic| ((with_reducible apply M4);rfl;(first|exact Jh|exact Y2 rfl|exact Js|exact Ju rfl|exact Jv|exact Jy rfl|exact Jx|exact Y1 rfl|exact Y0 rfl rfl|exact Jz rfl rfl|exact Jw rfl rfl|exact Jp rfl rfl|exact Jt rfl rfl);rfl;exact Nat.le_of_ble_eq_true rfl))
set_option hygiene false in
local macro_rules | `(tactic| walk_at "vs1")=>`(tactic| ((with_reducible apply Qo);rfl;(first|exact Jh|exact Y2 rfl|exact Js|exact Ju rfl|exact Jv|exact Jy rfl|exact Jx|exact Y1 rfl|exact Y0 rfl rfl|exact Jz rfl rfl|exact Jw rfl rfl|exact Jp rfl rfl|exact Jt rfl rfl);(first|exact (rfl : _ = some (0:Nat))|exact (rfl : _ = some (1:Nat))|exact (rfl : _ = some (2:Nat))|exact (rfl : _ = some (3:Nat))|exact (rfl : _ = some (4:Nat))|exact (rfl : _ = some (5:Nat)))))
set_option hygiene false in
local macro_rules | `(tactic| walk_at "vs1")=>`(tactic| ((with_reducible apply Cc);rfl;rfl;(first|exact Jh|exact Y2 rfl|exact Js|exact Ju rfl|exact Jv|exact Jy rfl|exact Jx|exact Y1 rfl|exact Y0 rfl rfl|exact Jz rfl rfl|exact Jw rfl rfl|exact Jp rfl rfl|exact Jt rfl rfl)))
set_option hygiene false in
local macro_rules | `(tactic| walk_at "vs1")=>`(tactic| ((with_reducible first|apply P7|apply Oo);rfl;(first|exact Jh|exact Y2 rfl|exact Js|exact Ju rfl|exact Jv|exact Jy rfl|exact Jx|exact Y1 rfl|exact Y0 rfl rfl|exact Jz rfl rfl|exact Jw rfl rfl|exact Jp rfl rfl|exact Jt rfl rfl);rfl;rfl))
set_option hygiene false in
local macro_rules | `(tactic| walk_at "vs1")=>`(tactic| ((with_reducible apply P8);(first|assumption|rfl)))
set_option hygiene false in
local macro_rules | `(tactic| walk_at "vs1")=>`(tactic| ((with_reducible apply An);rfl;(first|exact Jh|exact Y2 rfl|exact Js|exact Ju rfl|exact Jv|exact Jy rfl|exact Jx|exact Y1 rfl|exact Y0 rfl rfl|exact Jz rfl rfl|exact Jw rfl rfl|exact Jp rfl rfl|exact Jt rfl rfl)))
set_option hygiene false in
local macro_rules | `(tactic| walk_at "vs1")=>`(tactic| ((with_reducible apply JJm);(first|exact Jh|exact Y2 rfl|exact Js|exact Ju rfl|exact Jv|exact Jy rfl|exact Jx|exact Y1 rfl|exact Y0 rfl rfl|exact Jz rfl rfl|exact Jw rfl rfl|exact Jp rfl rfl|exact Jt rfl rfl);(first|exact Jh|exact Y2 rfl|exact Js|exact Ju rfl|exact Jv|exact Jy rfl|exact Jx|exact Y1 rfl|exact Y0 rfl rfl|exact Jz rfl rfl|exact Jw rfl rfl|exact Jp rfl rfl|exact Jt rfl rfl);rfl))
set_option hygiene false in
local macro_rules | `(tactic| walk_at "vs1")=>`(tactic| ((with_reducible first|apply Ro|apply JUo|apply JYt);(first|exact Jh|exact Y2 rfl|exact Js|exact Ju rfl|exact Jv|exact Jy rfl|exact Jx|exact Y1 rfl|exact Y0 rfl rfl|exact Jz rfl rfl|exact Jw rfl rfl|exact Jp rfl rfl|exact Jt rfl rfl);(first|exact Jh|exact Y2 rfl|exact Js|exact Ju rfl|exact Jv|exact Jy rfl|exact Jx|exact Y1 rfl|exact Y0 rfl rfl|exact Jz rfl rfl|exact Jw rfl rfl|exact Jp rfl rfl|exact Jt rfl rfl);rfl;(first|assumption|rfl)))
set_option hygiene false in
local macro_rules | `(tactic| walk_at "vs1")=>`(tactic| ((with_reducible apply JU9);rfl;(first|exact Hu|exact D9);exact Nat.le_of_ble_eq_true rfl))
set_option hygiene false in
local macro_rules | `(tactic| walk_at "vs1")=>`(tactic| ((with_reducible apply JZ1);(first|exact Jh|exact Y2 rfl|exact Js|exact Ju rfl|exact Jv|exact Jy rfl|exact Jx|exact Y1 rfl|exact Y0 rfl rfl|exact Jz rfl rfl|exact Jw rfl rfl|exact Jp rfl rfl|exact Jt rfl rfl);rfl))
set_option hygiene false in
local macro_rules | `(tactic| walk_at "vs1")=>`(tactic| ((with_reducible first|apply Si|apply JWr|apply Dz|apply JVb|apply Tc);(first|exact Jh|exact Y2 rfl|exact Js|exact Ju rfl|exact Jv|exact Jy rfl|exact Jx|exact Y1 rfl|exact Y0 rfl rfl|exact Jz rfl rfl|exact Jw rfl rfl|exact Jp rfl rfl|exact Jt rfl rfl);(first|assumption|rfl)))
set_option hygiene false in
local macro_rules | `(tactic| walk_at "vs1")=>`(tactic| ((with_reducible apply Cz);((try simp only [Y7,give,List.set_cons_zero,List.set_cons_succ]);rfl)))
set_option hygiene false in
local macro_rules | `(tactic| walk_at "vs1")=>`(tactic| ((with_reducible first|apply C8|apply E8|apply Eo|apply Gp|apply JW1|apply JJ7);rfl;rfl))
set_option hygiene false in
local macro_rules | `(tactic| walk_at "vs1")=>`(tactic| ((with_reducible first|apply Sq|apply Kx);(first|exact Jh|exact Y2 rfl|exact Js|exact Ju rfl|exact Jv|exact Jy rfl|exact Jx|exact Y1 rfl|exact Y0 rfl rfl|exact Jz rfl rfl|exact Jw rfl rfl|exact Jp rfl rfl|exact Jt rfl rfl);(first|exact Li (by first|assumption|rfl) (by decide)|exact JUn (by first|assumption|rfl)|exact T9 (by assumption) (by assumption))))
set_option hygiene false in
local macro_rules | `(tactic| walk_at "vs1")=>`(tactic| ((with_reducible first|apply JVk|apply JJo|apply JYw|apply D5|apply JVa|apply Dm|apply JU5|apply D3|apply Qz|apply Ry|apply Kh|apply R1|apply JYh|apply JU8|apply JY3|apply Dh|apply JYe|apply JYp|apply R5|apply JYg|apply JVe|apply T4|apply Th|apply So|apply Sl);(first|exact Jh|exact Y2 rfl|exact Js|exact Ju rfl|exact Jv|exact Jy rfl|exact Jx|exact Y1 rfl|exact Y0 rfl rfl|exact Jz rfl rfl|exact Jw rfl rfl|exact Jp rfl rfl|exact Jt rfl rfl);(first|exact Jh|exact Y2 rfl|exact Js|exact Ju rfl|exact Jv|exact Jy rfl|exact Jx|exact Y1 rfl|exact Y0 rfl rfl|exact Jz rfl rfl|exact Jw rfl rfl|exact Jp rfl rfl|exact Jt rfl rfl)))
set_option hygiene false in
local macro_rules | `(tactic| walk_at "vs1")=>`(tactic| ((with_reducible first|apply Bz|apply Q7|apply JUm);(first|exact Jh|exact Y2 rfl|exact Js|exact Ju rfl|exact Jv|exact Jy rfl|exact Jx|exact Y1 rfl|exact Y0 rfl rfl|exact Jz rfl rfl|exact Jw rfl rfl|exact Jp rfl rfl|exact Jt rfl rfl);(first|exact Jh|exact Y2 rfl|exact Js|exact Ju rfl|exact Jv|exact Jy rfl|exact Jx|exact Y1 rfl|exact Y0 rfl rfl|exact Jz rfl rfl|exact Jw rfl rfl|exact Jp rfl rfl|exact Jt rfl rfl);(first|assumption|rfl)))
set_option hygiene false in
local macro_rules | `(tactic| walk_at "vs1")=>`(tactic| ((with_reducible first|apply JVr|apply Eb|apply JW2|apply N6|apply Dt|apply JJ8|apply El|apply JJ0|apply Sy|apply JV4|apply JYq|apply JYd|apply JVp|apply JYs);(first|exact Jh|exact Y2 rfl|exact Js|exact Ju rfl|exact Jv|exact Jy rfl|exact Jx|exact Y1 rfl|exact Y0 rfl rfl|exact Jz rfl rfl|exact Jw rfl rfl|exact Jp rfl rfl|exact Jt rfl rfl)))
set_option hygiene false in
local macro_rules | `(tactic| walk_at "vs1")=>`(tactic| ((with_reducible first|apply Cg|apply Eh|apply Qa|apply Ea|apply Tr|apply JYo|apply JV1|apply Rr|apply Sk|apply JJd|apply Sv|apply JW7|apply JYj|apply T8|apply JWz);rfl))
set_option hygiene false in
local macro_rules | `(tactic| walk_at "vs1")=>`(tactic| ((with_reducible apply Oe);rfl;(first|exact Jh|exact Y2 rfl|exact Js|exact Ju rfl|exact Jv|exact Jy rfl|exact Jx|exact Y1 rfl|exact Y0 rfl rfl|exact Jz rfl rfl|exact Jw rfl rfl|exact Jp rfl rfl|exact Jt rfl rfl);(first|assumption|rfl)))
set_option hygiene false in
local macro_rules | `(tactic| walk_at "vs1")=>`(tactic| ((with_reducible first|apply JL0|apply JN5|apply T7|apply JJ1|apply JWh|apply JMj|apply E9|apply JVs|apply Ds|apply JJw|apply JXe|apply Cv|apply JY7|apply Av|apply Qr|apply K3|apply Hr|apply Ct|apply Ei|apply Ss|apply Tp|apply JJh|apply JJe|apply JYb|apply Qh|apply i_c|apply JWd|apply Dw|apply D8|apply Qc|apply JVj|apply JUy|apply R8|apply A3|apply Qd|apply Tf|apply JV9|apply JV6|apply C0|apply Du|apply JV7|apply Eu|apply E4|apply E2|apply Do|apply Rg|apply Rv|apply JUz|apply Cj|apply JUc|apply JUt|apply Rh|apply JWs|apply K0|apply JY4|apply Qb|apply JUu|apply Q8|apply JWb|apply Qx|apply JUg|apply Am|apply Qn|apply Qp|apply Aq|apply Sb|apply Ed|apply Dx|apply Ex|apply Td|apply A8|apply Ri|apply Ez|apply C9|apply D7|apply JJ4|apply Ej|apply Dg|apply JUb|apply JJv|apply JJg|apply E7|apply Cf|apply JW3|apply O7|apply JV3|apply JYm|apply Ci|apply JY1|apply JV2|apply R4|apply Rn|apply JUa|apply Ef|apply Ey|apply Ay|apply Cq|apply Tq|apply Tg|apply To|apply JWe|apply JU3|apply Ab|apply JJk|apply Ru|apply JJ2|apply JUs|apply De|apply D2|apply JUp|apply JYv|apply Tj|apply A7|apply JVh|apply A1|apply Qt|apply Ec|apply Qk|apply T6|apply JVn|apply JY2|apply Re|apply A5)))
set_option hygiene false in
local macro_rules | `(tactic| walk_at "vs2")=>`(tactic| ((with_reducible apply Qi)<;>intro hif))
set_option hygiene false in
local macro_rules | `(tactic| walk_at "vs2")=>`(tactic| ((with_reducible refine JWq ?_ ?_);(first|assumption|rfl)))
set_option hygiene false in
local macro_rules | `(tactic| walk_at "vs2")=>`(tactic| ((with_reducible refine Rk ?_ ?_);(first|assumption|rfl)))
set_option hygiene false in
local macro_rules | `(tactic| walk_at "vs2")=>`(tactic| (with_reducible apply D0))
set_option hygiene false in
local macro_rules | `(tactic| walk_at "vs2")=>`(tactic| (with_reducible apply JJl))
set_option hygiene false in
local macro_rules | `(tactic| walk_at "vs2")=>`(tactic| ((with_reducible apply Tw);(unfold CMul; first|decide|omega)))
set_option hygiene false in
local macro_rules | `(tactic| walk_at "vs2")=>`(tactic| ((with_reducible apply JJ5);(unfold CPow; decide)))
set_option hygiene false in
local macro_rules | `(tactic| walk_at "vs2")=>`(tactic| ((with_reducible apply E1);assumption))
set_option hygiene false in
local macro_rules | `(tactic| walk_at "vs2")=>`(tactic| ((with_reducible apply C5);assumption))
set_option hygiene false in
local macro_rules | `(tactic| walk_at "vs2")=>`(tactic| ((with_reducible apply Cu);assumption))
set_option hygiene false in
local macro_rules | `(tactic| walk_at "vs2")=>`(tactic| ((with_reducible apply JUd);assumption))
set_option hygiene false in
local macro_rules | `(tactic| walk_at "vs2")=>`(tactic| exact Ae)
set_option hygiene false in
local macro_rules | `(tactic| walk_at "vs2")=>`(tactic| exact JUw)
set_option hygiene false in
local macro_rules | `(tactic| walk_at "vs2")=>`(tactic| exact Ai)
set_option hygiene false in
local macro_rules | `(tactic| walk_at "vs2")=>`(tactic| exact B3)
set_option hygiene false in
local macro_rules | `(tactic| walk_at "vs2")=>`(tactic| exact S9)
set_option hygiene false in
local macro_rules | `(tactic| walk_at "vs2")=>`(tactic| ((with_reducible apply JYa);rfl;rfl;rfl;intro w))
set_option hygiene false in
local macro_rules | `(tactic| walk_at "vs2")=>`(tactic| ((with_reducible apply Hk);rfl;(first|exact Jh|exact Y2 rfl|exact Js|exact Ju rfl|exact Jv|exact Jy rfl|exact Jx|exact Y1 rfl|exact Y0 rfl rfl|exact Jz rfl rfl|exact Jw rfl rfl|exact Jp rfl rfl|exact Jt rfl rfl);rfl;rfl;rfl;intro w))
set_option hygiene false in
local macro_rules | `(tactic| walk_at "vs2")=>`(tactic| ((with_reducible apply JYr);rfl;(first|exact Jh|exact Y2 rfl|exact Js|exact Ju rfl|exact Jv|exact Jy rfl|exact Jx|exact Y1 rfl|exact Y0 rfl rfl|exact Jz rfl rfl|exact Jw rfl rfl|exact Jp rfl rfl|exact Jt rfl rfl);(first|exact (rfl : _ = some (0:Nat))|exact (rfl : _ = some (1:Nat))|exact (rfl : _ = some (2:Nat))|exact (rfl : _ = some (3:Nat))|exact (rfl : _ = some (4:Nat))|exact (rfl : _ = some (5:Nat)));rfl;rfl;intro w))
set_option hygiene false in
local macro_rules | `(tactic| walk_at "vs2")=>`(tactic| ((with_reducible apply JWl);rfl;(first|exact Jh|exact Y2 rfl|exact Js|exact Ju rfl|exact Jv|exact Jy rfl|exact Jx|exact Y1 rfl|exact Y0 rfl rfl|exact Jz rfl rfl|exact Jw rfl rfl|exact Jp rfl rfl|exact Jt rfl rfl);(first|exact (rfl : _ = some (0:Nat))|exact (rfl : _ = some (1:Nat))|exact (rfl : _ = some (2:Nat))|exact (rfl : _ = some (3:Nat))|exact (rfl : _ = some (4:Nat))|exact (rfl : _ = some (5:Nat)));rfl;rfl;intro w))
set_option hygiene false in
local macro_rules | `(tactic| walk_at "vs2")=>`(tactic| ((with_reducible apply Ee);exact Nat.le_of_ble_eq_true rfl))
set_option hygiene false in
local macro_rules | `(tactic| walk_at "vs2")=>`(tactic| ((with_reducible apply Qg);exact Nat.le_of_ble_eq_true rfl))
set_option hygiene false in
local macro_rules | `(tactic| walk_at "vs2")=>`(tactic| ((with_reducible apply Sr);rfl;rfl))
set_option hygiene false in
local macro_rules | `(tactic| walk_at "vs2")=>`(tactic| ((with_reducible apply Em);rfl;rfl))
set_option hygiene false in
local macro_rules | `(tactic| walk_at "vs2")=>`(tactic| ((with_reducible apply JW5);(first|exact Jh|exact Y2 rfl|exact Js|exact Ju rfl|exact Jv|exact Jy rfl|exact Jx|exact Y1 rfl|exact Y0 rfl rfl|exact Jz rfl rfl|exact Jw rfl rfl|exact Jp rfl rfl|exact Jt rfl rfl)))
set_option hygiene false in
local macro_rules | `(tactic| walk_at "vs2")=>`(tactic| ((with_reducible apply JWy);rfl;(first|assumption|simp);(first|assumption|rfl)))
set_option hygiene false in
local macro_rules | `(tactic| walk_at "vs2")=>`(tactic| ((with_reducible apply JJr);rfl;(first|assumption|simp);(first|assumption|rfl)))
set_option hygiene false in
local macro_rules | `(tactic| walk_at "vs2")=>`(tactic| ((with_reducible apply Es);(first|exact Jh|exact Y2 rfl|exact Js|exact Ju rfl|exact Jv|exact Jy rfl|exact Jx|exact Y1 rfl|exact Y0 rfl rfl|exact Jz rfl rfl|exact Jw rfl rfl|exact Jp rfl rfl|exact Jt rfl rfl)))
set_option hygiene false in
local macro_rules | `(tactic| walk_at "vs2")=>`(tactic| ((with_reducible apply JJf);(first|exact Jh|exact Y2 rfl|exact Js|exact Ju rfl|exact Jv|exact Jy rfl|exact Jx|exact Y1 rfl|exact Y0 rfl rfl|exact Jz rfl rfl|exact Jw rfl rfl|exact Jp rfl rfl|exact Jt rfl rfl);(first|exact Jh|exact Y2 rfl|exact Js|exact Ju rfl|exact Jv|exact Jy rfl|exact Jx|exact Y1 rfl|exact Y0 rfl rfl|exact Jz rfl rfl|exact Jw rfl rfl|exact Jp rfl rfl|exact Jt rfl rfl);rfl))
set_option hygiene false in
local macro_rules | `(tactic| walk_at "vs2")=>`(tactic| ((with_reducible apply Ah);(first|exact Jh|exact Y2 rfl|exact Js|exact Ju rfl|exact Jv|exact Jy rfl|exact Jx|exact Y1 rfl|exact Y0 rfl rfl|exact Jz rfl rfl|exact Jw rfl rfl|exact Jp rfl rfl|exact Jt rfl rfl)))
set_option hygiene false in
local macro_rules | `(tactic| walk_at "vs2")=>`(tactic| ((with_reducible apply JW4);(first|exact Jh|exact Y2 rfl|exact Js|exact Ju rfl|exact Jv|exact Jy rfl|exact Jx|exact Y1 rfl|exact Y0 rfl rfl|exact Jz rfl rfl|exact Jw rfl rfl|exact Jp rfl rfl|exact Jt rfl rfl)))
set_option hygiene false in
local macro_rules | `(tactic| walk_at "vs2")=>`(tactic| ((with_reducible apply Of);(first|exact Jh|exact Y2 rfl|exact Js|exact Ju rfl|exact Jv|exact Jy rfl|exact Jx|exact Y1 rfl|exact Y0 rfl rfl|exact Jz rfl rfl|exact Jw rfl rfl|exact Jp rfl rfl|exact Jt rfl rfl)))
set_option hygiene false in
local macro_rules | `(tactic| walk_at "vs2")=>`(tactic| ((with_reducible apply L6);(first|exact Jh|exact Y2 rfl|exact Js|exact Ju rfl|exact Jv|exact Jy rfl|exact Jx|exact Y1 rfl|exact Y0 rfl rfl|exact Jz rfl rfl|exact Jw rfl rfl|exact Jp rfl rfl|exact Jt rfl rfl)))
set_option hygiene false in
local macro_rules | `(tactic| walk_at "vs2")=>`(tactic| ((with_reducible apply JYz);rfl))
set_option hygiene false in
local macro_rules | `(tactic| walk_at "vs2")=>`(tactic| ((with_reducible apply JWp);rfl))
set_option hygiene false in
local macro_rules | `(tactic| walk_at "vs2")=>`(tactic| ((with_reducible apply Df);rfl))
set_option hygiene false in
local macro_rules | `(tactic| walk_at "vs2")=>`(tactic| ((with_reducible apply Qs);rfl;exact Nat.le_of_ble_eq_true rfl))
set_option hygiene false in
local macro_rules | `(tactic| walk_at "vs2")=>`(tactic| ((with_reducible first|apply JJa|apply As);(first|exact Jh|exact Y2 rfl|exact Js|exact Ju rfl|exact Jv|exact Jy rfl|exact Jx|exact Y1 rfl|exact Y0 rfl rfl|exact Jz rfl rfl|exact Jw rfl rfl|exact Jp rfl rfl|exact Jt rfl rfl);(first|exact Jh|exact Y2 rfl|exact Js|exact Ju rfl|exact Jv|exact Jy rfl|exact Jx|exact Y1 rfl|exact Y0 rfl rfl|exact Jz rfl rfl|exact Jw rfl rfl|exact Jp rfl rfl|exact Jt rfl rfl);(first|exact Jh|exact Y2 rfl|exact Js|exact Ju rfl|exact Jv|exact Jy rfl|exact Jx|exact Y1 rfl|exact Y0 rfl rfl|exact Jz rfl rfl|exact Jw rfl rfl|exact Jp rfl rfl|exact Jt rfl rfl)))
set_option hygiene false in
local macro_rules | `(tactic| walk_at "vs2")=>`(tactic| ((with_reducible first|apply Tx|apply Et);rfl;(first|assumption|rfl)))
set_option hygiene false in
local macro_rules | `(tactic| walk_at "vs2")=>`(tactic| ((with_reducible apply JUi);(first|exact Jh|exact Y2 rfl|exact Js|exact Ju rfl|exact Jv|exact Jy rfl|exact Jx|exact Y1 rfl|exact Y0 rfl rfl|exact Jz rfl rfl|exact Jw rfl rfl|exact Jp rfl rfl|exact Jt rfl rfl);(first|exact Jh|exact Y2 rfl|exact Js|exact Ju rfl|exact Jv|exact Jy rfl|exact Jx|exact Y1 rfl|exact Y0 rfl rfl|exact Jz rfl rfl|exact Jw rfl rfl|exact Jp rfl rfl|exact Jt rfl rfl);(first|assumption|rfl);(first|assumption|rfl)))
set_option hygiene false in
local macro_rules | `(tactic| walk_at "vs2")=>`(tactic| ((with_reducible apply Af);rfl;(first|assumption|simp);(repeat' first|exact Hu|exact fs_own _|apply fs_put|apply JVz);exact Nat.le_of_ble_eq_true rfl))
set_option hygiene false in
local macro_rules | `(tactic| walk_at "vs2")=>`(tactic| ((with_reducible apply Sf);(first|exact Jh|exact Y2 rfl|exact Js|exact Ju rfl|exact Jv|exact Jy rfl|exact Jx|exact Y1 rfl|exact Y0 rfl rfl|exact Jz rfl rfl|exact Jw rfl rfl|exact Jp rfl rfl|exact Jt rfl rfl);(first|assumption|rfl);(first|assumption|rfl)))
set_option hygiene false in
local macro_rules | `(tactic| walk_at "vs2")=>`(tactic| ((with_reducible apply Rm);((try simp only [unts,U4,Xn,Z2,Bp,List.getElem?_cons_zero,List.getElem?_cons_succ,List.set_cons_zero,List.set_cons_succ]);rfl)))
set_option hygiene false in
local macro_rules | `(tactic| walk_at "vs2")=>`(tactic| ((with_reducible first|apply A0|apply Mm);(first|exact Jh|exact Y2 rfl|exact Js|exact Ju rfl|exact Jv|exact Jy rfl|exact Jx|exact Y1 rfl|exact Y0 rfl rfl|exact Jz rfl rfl|exact Jw rfl rfl|exact Jp rfl rfl|exact Jt rfl rfl);rfl;rfl))
set_option hygiene false in
local macro_rules | `(tactic| walk_at "vs2")=>`(tactic| ((with_reducible apply M4);rfl;(first|exact Jh|exact Y2 rfl|exact Js|exact Ju rfl|exact Jv|exact Jy rfl|exact Jx|exact Y1 rfl|exact Y0 rfl rfl|exact Jz rfl rfl|exact Jw rfl rfl|exact Jp rfl rfl|exact Jt rfl rfl);rfl;exact Nat.le_of_ble_eq_true rfl))
set_option hygiene false in
local macro_rules | `(tactic| walk_at "vs2")=>`(tactic| ((with_reducible apply Qo);rfl;(first|exact Jh|exact Y2 rfl|exact Js|exact Ju rfl|exact Jv|exact Jy rfl|exact Jx|exact Y1 rfl|exact Y0 rfl rfl|exact Jz rfl rfl|exact Jw rfl rfl|exact Jp rfl rfl|exact Jt rfl rfl);(first|exact (rfl : _ = some (0:Nat))|exact (rfl : _ = some (1:Nat))|exact (rfl : _ = some (2:Nat))|exact (rfl : _ = some (3:Nat))|exact (rfl : _ = some (4:Nat))|exact (rfl : _ = some (5:Nat)))))
set_option hygiene false in
local macro_rules | `(tactic| walk_at "vs2")=>`(tactic| ((with_reducible apply Cc);rfl;rfl;(first|exact Jh|exact Y2 rfl|exact Js|exact Ju rfl|exact Jv|exact Jy rfl|exact Jx|exact Y1 rfl|exact Y0 rfl rfl|exact Jz rfl rfl|exact Jw rfl rfl|exact Jp rfl rfl|exact Jt rfl rfl)))
set_option hygiene false in
local macro_rules | `(tactic| walk_at "vs2")=>`(tactic| ((with_reducible first|apply P7|apply Oo);rfl;(first|exact Jh|exact Y2 rfl|exact Js|exact Ju rfl|exact Jv|exact Jy rfl|exact Jx|exact Y1 rfl|exact Y0 rfl rfl|exact Jz rfl rfl|exact Jw rfl rfl|exact Jp rfl rfl|exact Jt rfl rfl);rfl;rfl))
set_option hygiene false in
local macro_rules | `(tactic| walk_at "vs2")=>`(tactic| ((with_reducible apply P8);(first|assumption|rfl)))
set_option hygiene false in
local macro_rules | `(tactic| walk_at "vs2")=>`(tactic| ((with_reducible apply An);rfl;(first|exact Jh|exact Y2 rfl|exact Js|exact Ju rfl|exact Jv|exact Jy rfl|exact Jx|exact Y1 rfl|exact Y0 rfl rfl|exact Jz rfl rfl|exact Jw rfl rfl|exact Jp rfl rfl|exact Jt rfl rfl)))
set_option hygiene false in
local macro_rules | `(tactic| walk_at "vs2")=>`(tactic| ((with_reducible apply JJm);(first|exact Jh|exact Y2 rfl|exact Js|exact Ju rfl|exact Jv|exact Jy rfl|exact Jx|exact Y1 rfl|exact Y0 rfl rfl|exact Jz rfl rfl|exact Jw rfl rfl|exact Jp rfl rfl|exact Jt rfl rfl);(first|exact Jh|exact Y2 rfl|exact Js|exact Ju rfl|exact Jv|exact Jy rfl|exact Jx|exact Y1 rfl|exact Y0 rfl rfl|exact Jz rfl rfl|exact Jw rfl rfl|exact Jp rfl rfl|exact Jt rfl rfl);rfl))
set_option hygiene false in
local macro_rules | `(tactic| walk_at "vs2")=>`(tactic| ((with_reducible first|apply Ro|apply JUo|apply JYt);(first|exact Jh|exact Y2 rfl|exact Js|exact Ju rfl|exact Jv|exact Jy rfl|exact Jx|exact Y1 rfl|exact Y0 rfl rfl|exact Jz rfl rfl|exact Jw rfl rfl|exact Jp rfl rfl|exact Jt rfl rfl);(first|exact Jh|exact Y2 rfl|exact Js|exact Ju rfl|exact Jv|exact Jy rfl|exact Jx|exact Y1 rfl|exact Y0 rfl rfl|exact Jz rfl rfl|exact Jw rfl rfl|exact Jp rfl rfl|exact Jt rfl rfl);rfl;(first|assumption|rfl)))
set_option hygiene false in
local macro_rules | `(tactic| walk_at "vs2")=>`(tactic| ((with_reducible apply JU9);rfl;(first|exact Hu|exact D9);exact Nat.le_of_ble_eq_true rfl))
set_option hygiene false in
local macro_rules | `(tactic| walk_at "vs2")=>`(tactic| ((with_reducible apply JZ1);(first|exact Jh|exact Y2 rfl|exact Js|exact Ju rfl|exact Jv|exact Jy rfl|exact Jx|exact Y1 rfl|exact Y0 rfl rfl|exact Jz rfl rfl|exact Jw rfl rfl|exact Jp rfl rfl|exact Jt rfl rfl);rfl))
set_option hygiene false in
local macro_rules | `(tactic| walk_at "vs2")=>`(tactic| ((with_reducible first|apply Si|apply JWr|apply Dz|apply JVb|apply Tc);(first|exact Jh|exact Y2 rfl|exact Js|exact Ju rfl|exact Jv|exact Jy rfl|exact Jx|exact Y1 rfl|exact Y0 rfl rfl|exact Jz rfl rfl|exact Jw rfl rfl|exact Jp rfl rfl|exact Jt rfl rfl);(first|assumption|rfl)))
set_option hygiene false in
local macro_rules | `(tactic| walk_at "vs2")=>`(tactic| ((with_reducible apply Cz);((try simp only [Y7,give,List.set_cons_zero,List.set_cons_succ]);rfl)))
set_option hygiene false in
local macro_rules | `(tactic| walk_at "vs2")=>`(tactic| ((with_reducible first|apply C8|apply E8|apply Eo|apply Gp|apply JW1|apply JJ7);rfl;rfl))
set_option hygiene false in
local macro_rules | `(tactic| walk_at "vs2")=>`(tactic| ((with_reducible first|apply Sq|apply Kx);(first|exact Jh|exact Y2 rfl|exact Js|exact Ju rfl|exact Jv|exact Jy rfl|exact Jx|exact Y1 rfl|exact Y0 rfl rfl|exact Jz rfl rfl|exact Jw rfl rfl|exact Jp rfl rfl|exact Jt rfl rfl);(first|exact Li (by first|assumption|rfl) (by decide)|exact JUn (by first|assumption|rfl)|exact T9 (by assumption) (by assumption))))
set_option hygiene false in
local macro_rules | `(tactic| walk_at "vs2")=>`(tactic| ((with_reducible first|apply JVk|apply JJo|apply JYw|apply D5|apply JVa|apply Dm|apply JU5|apply D3|apply Qz|apply Ry|apply Kh|apply R1|apply JYh|apply JU8|apply JY3|apply Dh|apply JYe|apply JYp|apply R5|apply JYg|apply JVe|apply T4|apply Th|apply So|apply Sl);(first|exact Jh|exact Y2 rfl|exact Js|exact Ju rfl|exact Jv|exact Jy rfl|exact Jx|exact Y1 rfl|exact Y0 rfl rfl|exact Jz rfl rfl|exact Jw rfl rfl|exact Jp rfl rfl|exact Jt rfl rfl);(first|exact Jh|exact Y2 rfl|exact Js|exact Ju rfl|exact Jv|exact Jy rfl|exact Jx|exact Y1 rfl|exact Y0 rfl rfl|exact Jz rfl rfl|exact Jw rfl rfl|exact Jp rfl rfl|exact Jt rfl rfl)))
set_option hygiene false in
local macro_rules | `(tactic| walk_at "vs2")=>`(tactic| ((with_reducible first|apply Bz|apply Q7|apply JUm);(first|exact Jh|exact Y2 rfl|exact Js|exact Ju rfl|exact Jv|exact Jy rfl|exact Jx|exact Y1 rfl|exact Y0 rfl rfl|exact Jz rfl rfl|exact Jw rfl rfl|exact Jp rfl rfl|exact Jt rfl rfl);(first|exact Jh|exact Y2 rfl|exact Js|exact Ju rfl|exact Jv|exact Jy rfl|exact Jx|exact Y1 rfl|exact Y0 rfl rfl|exact Jz rfl rfl|exact Jw rfl rfl|exact Jp rfl rfl|exact Jt rfl rfl);(first|assumption|rfl)))
set_option hygiene false in
local macro_rules | `(tactic| walk_at "vs2")=>`(tactic| ((with_reducible first|apply JVr|apply Eb|apply JW2|apply N6|apply Dt|apply JJ8|apply El|apply JJ0|apply Sy|apply JV4|apply JYq|apply JYd|apply JVp|apply JYs);(first|exact Jh|exact Y2 rfl|exact Js|exact Ju rfl|exact Jv|exact Jy rfl|exact Jx|exact Y1 rfl|exact Y0 rfl rfl|exact Jz rfl rfl|exact Jw rfl rfl|exact Jp rfl rfl|exact Jt rfl rfl)))
set_option hygiene false in
local macro_rules | `(tactic| walk_at "vs2")=>`(tactic| ((with_reducible first|apply Cg|apply Eh|apply Qa|apply Ea|apply Tr|apply JYo|apply JV1|apply Rr|apply Sk|apply JJd|apply Sv|apply JW7|apply JYj|apply T8|apply JWz);rfl))
set_option hygiene false in
local macro_rules | `(tactic| walk_at "vs2")=>`(tactic| ((with_reducible apply Oe);rfl;(first|exact Jh|exact Y2 rfl|exact Js|exact Ju rfl|exact Jv|exact Jy rfl|exact Jx|exact Y1 rfl|exact Y0 rfl rfl|exact Jz rfl rfl|exact Jw rfl rfl|exact Jp rfl rfl|exact Jt rfl rfl);(first|assumption|rfl)))
set_option hygiene false in
local macro_rules | `(tactic| walk_at "vs2")=>`(tactic| ((with_reducible first|apply T7|apply JJ1|apply JWh|apply E9|apply JVs|apply Ds|apply JJw|apply Cv|apply JY7|apply Av|apply Qr|apply K3|apply Hr|apply Ct|apply Ei|apply Ss|apply Tp|apply JJh|apply JJe|apply JYb|apply Qh|apply i_c|apply JWd|apply Dw|apply D8|apply Qc|apply JVj|apply JUy|apply R8|apply A3|apply Qd|apply Tf|apply JV9|apply JV6|apply C0|apply Du|apply JV7|apply Eu|apply E4|apply E2|apply Do|apply Rg|apply Rv|apply JUz|apply Cj|apply JUc|apply JUt|apply Rh|apply JWs|apply K0|apply JY4|apply Qb|apply JUu|apply Q8|apply JWb|apply Qx|apply JUg|apply Am|apply Qn|apply Qp|apply Aq|apply Sb|apply Ed|apply Dx|apply Ex|apply Td|apply A8|apply Ri|apply Ez|apply C9|apply D7|apply JJ4|apply Ej|apply Dg|apply JUb|apply JJv|apply JJg|apply E7|apply Cf|apply JW3|apply O7|apply JV3|apply JYm|apply Ci|apply JY1|apply JV2|apply R4|apply Rn|apply JUa|apply Ef|apply Ey|apply Ay|apply Cq|apply Tq|apply Tg|apply To|apply JWe|apply JU3|apply Ab|apply JJk|apply Ru|apply JJ2|apply JUs|apply De|apply D2|apply JUp|apply JYv|apply Tj|apply A7|apply JVh|apply A1|apply Qt|apply Ec|apply Qk|apply T6|apply JVn|apply JY2|apply Re|apply A5)))
theorem JJ5 {i j : Int} (h : CPow i j) : CPow i j:=h
theorem Tw {i j : Int} (h : CMul i j) : CMul i j:=h
theorem F2 {i : Nat} {ρ : J0} (h : ρ[i]? = some none) : Wa [i] ρ:=fun v hv=>by
  have e : v = i:=by simpa using hv
  subst e
  exact h
section
variable {EA : AX} {ρ ρ' : J0} {Q : AK} {DA : AEnds} {g : Gm} [Gok g]
theorem JYd {x : A} {i : Int} (h1 : dat x ρ = some (.int i)) (k : Q (.v (.int (if i < 0 then -i else i))) ρ) : Lm [x] ρ Q:=⟨x,i,rfl,h1,k⟩
theorem JW5 {x : A} {b : Bool} (h : dat x ρ = some (.bl b)) (k : Q (.v (.int (if b then 1 else 0))) ρ) : Wz [x] ρ Q:=⟨x,rfl,.inr ⟨b,h,k⟩⟩
theorem JVz {k : Str} {d : D} {fs : List (Str × A)} (h : ∀ p ∈ fs,∃ d,p.2 = A.v d) : ∀ p ∈ (k,A.v d) :: fs,∃ d,p.2 = A.v d:=fun p hp=>by
  rcases List.mem_cons.mp hp with rfl | hp
  · exact ⟨d,rfl⟩
  · exact h p hp
/-- a loop whose going on is told of by a name -/
theorem X0 {α : Type} {G : J0 → Prop} {ag : AG} {ab : AS} (f : α → D) (W : List α → J0 → Prop) (h0 : ∀ ρ,W [] ρ → G ρ ∧ DA.nx ρ)
    (h1 : ∀ x xs ρ,W (x :: xs) ρ → ∀ K : J0 → Prop,(∀ ρ,W xs ρ → K ρ) → G ρ ∧ ag (f x) ρ fun ρ'=>ab { DA with nx:=K,ct:=K,bk:=DA.nx } ρ') : ∀ (xs : List α) (ρ : J0),W xs ρ → forA G ag ab DA (xs.map f) ρ
  | [],ρ,w=>h0 ρ w
  | x :: xs,ρ,w=>h1 x xs ρ w _ fun ρ' w'=>X0 f W h0 h1 xs ρ' w'
theorem JVt {i : Nat} {x y : Option A} : (ρ.set i x).set i y = ρ.set i y:=List.set_set ..
theorem JJs {i : Nat} {p : A} (hp : ρ[i]? = some (some p)) : pass [.loc i] ρ = some ([p],ρ.set i none):=by
  simp only [pass,hp]
theorem JJx {i : Nat} {p x : A} (hp : ρ[i]? = some (some p)) (hx : Y4 x = false) : pass [.loc i,x] ρ = some ([p,x],ρ.set i none):=by
  cases x <;> first | (simp only [pass,hp]; done) | (cases hx; done)
theorem JU1 {i : Nat} {p x y : A} (hp : ρ[i]? = some (some p)) (hx : Y4 x = false) (hy : Y4 y = false) : pass [.loc i,x,y] ρ = some ([p,x,y],ρ.set i none):=by
  cases x <;> cases y <;> first | (simp only [pass,hp]; done) | (cases hx; done) | (cases hy; done)
theorem Qy {i j : Int} (h : 0 < j) (h2 : j.natAbs < 2 ^ 200) : CDivW i j:=wide_div (b:=200) h h2 (by decide) (by decide)
theorem JMf {ns : List Int} {a : Int} (h0 : 0 ≤ a) (h1 : a < ns.length) : ∃ z,itD (.lst (ns.map .int)) (.int a) = some (.int z):=by
  obtain ⟨x,hx,e⟩:=Nl (xs:=ns.map D.int) h0 (by simpa using h1)
  obtain ⟨z,_,rfl⟩:=List.mem_map.mp hx
  exact ⟨z,e⟩
def stA (a b c : Int) : A:=.lst [.int a,.int b,.int c]
def U5 (x : A) : Prop:=∃ a b c : Int,x = stA a b c ∧ 0 ≤ a
theorem JM2 {ns : List Int} {k : Nat} (hl : ns.length ≤ 63) : Val (SZ08 g) [.v (.lst (ns.map .int)),.v (.int (k : Nat))] U5:=fnP rfl fun DA hR hN hX=>by
  show asZ08 DA [some (.v (.lst (ns.map .int))),some (.v (.int (k : Nat))),none]
  have hln : Uh (.lst (ns.map .int)) = some ns.length:=by simp [Uh]
  have fin : ∀ a : Int,0 ≤ a → rsZ08n3 DA [some (.v (.lst (ns.map .int))),some (.v (.int (k : Nat))),some (.v (.int a))]:=fun a ha=>by
    unfold rsZ08n3
    (repeat' walk_at "vs1")
    all_goals first | exact .inl (by decide) | skip
    exact hR _ _ _ rfl ⟨rfl,a,_,_,rfl,ha⟩
  unfold asZ08
  (repeat' walk_at "vs1")
  unfold rsZ08n2
  (repeat' walk_at "vs1")
  · obtain ⟨z,hz⟩:=JMf (ns:=ns) (a:=(k : Nat)) (by omega) (by simpa using hif)
    refine Bz Jh Jh hz ?_
    (repeat' walk_at "vs1")
    refine fin _ ?_
    split <;> omega
  · exact fin 0 (by omega)
theorem JMl {a b c m : Int} {o2 o3 : Option A} (hR : ∀ z p' o2 o3,0 ≤ z → z < m → U5 p' → DA.rt (.v (.int z)) [some p',some (.v (.int m)),o2,o3]) (ha : 0 ≤ a) (hm : 0 < m) : rsZ0en3 DA [some (stA a b c),some (.v (.int m)),o2,o3]:=by
  unfold rsZ0en3 rsZ0en4 rsZ0en5 rsZ0en6
  have h0 : ∀ x : Int,0 ≤ x % 2147483647 ∧ x % 2147483647 < 2147483647:=fun x=>⟨Int.emod_nonneg _ (by decide),Int.emod_lt_of_pos _ (by decide)⟩
  unfold stA
  (repeat' walk_at "vs1")
  all_goals first | assumption | exact Qy (by decide) (by decide) | decide | exact .inl (by decide) | exact .inr (by decide) | exact .inl ⟨by have:=h0 ((a + 7919 * c + 1) * 48271); omega,by have:=h0 ((a + 7919 * c + 1) * 48271); omega⟩ | skip
  all_goals first | (refine .inl ⟨?_,?_⟩ <;> (generalize ((a + 7919 * c + 1) * 48271 % 2147483647 * ((a + 7919 * c + 1) * 48271 % 2147483647 / 1009 + 69621)) = y; have:=h0 y; omega)) | skip
  exact hR _ _ _ _ (Int.emod_nonneg _ (by omega)) (Int.emod_lt_of_pos _ hm) ⟨a,b,c,rfl,ha⟩
theorem JK2 {p : A} {m : Int} (hp : U5 p) (hm : 0 < m) (hm2 : m.natAbs < 2 ^ 200) : Sat (SZ0e g) [p,.v (.int m)] (fun r o=>∃ z p',r = .v (.int z) ∧ 0 ≤ z ∧ z < m ∧ U5 p' ∧ o = [p',.v (.int m)]) noO:=by
  obtain ⟨a,b,c,rfl,ha⟩:=hp
  refine fnP rfl fun DA hR hN hX=>?_
  have hR' : ∀ z p' o2 o3,0 ≤ z → z < m → U5 p' → DA.rt (.v (.int z)) [some p',some (.v (.int m)),o2,o3]:=fun z p' o2 o3 h0 h1 h2=>hR _ _ _ (by simp [fin]) ⟨z,p',rfl,h0,h1,h2,rfl⟩
  show asZ0e _ [some (stA a b c),some (.v (.int m)),none,none]
  have g3 : ∀ {o2 o3},rsZ0en3 DA [some (stA a b (c + 1)),some (.v (.int m)),o2,o3]:=JMl hR' ha hm
  unfold asZ0e
  unfold stA at g3 ⊢
  (repeat' walk_at "vs1")
  unfold rsZ0en2
  (repeat' walk_at "vs1")
  all_goals first | assumption | exact Qy hm hm2 | exact g3 | skip
  exact hR' _ _ _ _ (Int.emod_nonneg _ (by omega)) (Int.emod_lt_of_pos _ hm) ⟨a / m,b,c + 1,rfl,Int.ediv_nonneg ha (by omega)⟩
theorem Vu {i : Nat} {p : A} {m : Int} (hp : ρ[i]? = some (some p)) (h : U5 p) (h0 : 0 < m) (h1 : m.natAbs < 2 ^ 200) (k : ∀ z p',0 ≤ z → z < m → U5 p' → Q (.v (.int z)) (ρ.set i (some p'))) : Yp (SZ0e g) [.loc i,.v (.int m)] EA ρ Q:=by
  refine Zs (ρ':=ρ.set i none) (JJx hp rfl) (JK2 h h0 h1) (fun r ys' q=>?_) (fun _ _ _ h=>h.elim)
  obtain ⟨z,p',rfl,hz0,hz1,hp',rfl⟩:=q
  show Q _ ((ρ.set i none).set i (some p'))
  rw [JVt]
  exact k z p' hz0 hz1 hp'
end
inductive Wd where
  | row | fix | gone
def Wd.s : Wd → Str
  | .row=>"row"
  | .fix=>"fix"
  | .gone=>"gone"
def Wd.fs : Wd → List Str
  | .row=>["id","stream","key","moment","amount","arrival"]
  | .fix=>["id","moment","amount","arrival"]
  | .gone=>["id","arrival"]
def wdsD : List D:=[.str ("row" : Str),.str ("fix" : Str),.str ("gone" : Str)]
inductive Pc where
  | mk (t : Str) | fd (f : Str) | ot (d : D)
def Pc.d : Pc → D
  | .mk t=>.tup [.str ("mark" : Str),.str t]
  | .fd f=>.tup [.str ("field" : Str),.str f]
  | .ot d=>d
def Uq (ps : List Pc) : List Str:=ps.filterMap fun p=>match p with
  | .fd f=>some f
  | _=>none
theorem N1 (a b : List Pc) : Uq (a ++ b) = Uq a ++ Uq b:=List.filterMap_append
def Y9 (ns : List Str) : List D:=ns.map .str
def J6 (ps : List Pc) : List D:=ps.map Pc.d
theorem JW6 {x : Str} {c : Nat} : (x ++ (⟨#[c]⟩ : Str)).cps.toList = x.cps.toList ++ [c]:=by
  show (x.cps ++ #[c]).toList = _
  simp
theorem str_len {x : Str} : x.length = x.cps.toList.length:=by simp [Str.length]
theorem JFm {x : Str} {a : Int} (hl : x.length ≤ 100000) (h0 : 0 ≤ a) (h1 : a < x.length) : ∃ c ∈ x.cps.toList,itD (.str x) (.int a) = some (.str ⟨#[c]⟩):=by
  have hl2 : a < x.cps.toList.length:=by rw [str_len] at h1; exact h1
  have ea : a = ((a.toNat : Nat) : Int):=by omega
  refine ⟨x.cps.toList[a.toNat]'(by omega),List.getElem_mem _,?_⟩
  have h:=Gk (xs:=x.cps.toList) (k:=a.toNat) (by omega)
  rw [← ea,List.getElem?_eq_getElem (by omega)] at h
  show (if x.length ≤ 100000 then (atI x.cps.toList a).map (fun ch=>D.str ⟨#[ch]⟩) else none) = _
  rw [if_pos hl,h]
  rfl
section
variable {EA : AX} {ρ ρ' : J0} {Q : AK} {DA : AEnds} {g : Gm} [Gok g]
theorem JGo (w : Wd) : Val (SZ07 g) [.v (.str w.s)] (fun r=>r = .lst (Y9 w.fs)):=fnP rfl fun DA hR hN hX=>by
  show asZ07 _ [some (.v (.str w.s))]
  unfold asZ07 rsZ07n2 rsZ07n3
  cases w
  all_goals
    simp only [Wd.s]
    (repeat' walk_at "vs1")
    all_goals first
      | exact hR _ _ _ rfl ⟨rfl,rfl⟩
      | (exfalso; revert hif; decide)
theorem JYy {w : Wd} {s : Str} (hs : s = w.s) (k : Q (.lst (Y9 w.fs)) ρ) : Yp (SZ07 g) [.v (.str s)] EA ρ Q:=by
  subst hs
  exact Wr rfl (JGo w) fun r e=>by subst e; exact k
theorem JKs {p : A} {xs : List Str} (hp : U5 p) (hl : xs.length ≤ 20) : Sat (SZ0b g) [p,.v (.lst (Y9 xs))] (fun r o=>∃ p' ys,U5 p' ∧ ys.Perm xs ∧ r = .lst (Y9 ys) ∧ o = [p',.v (.lst (Y9 xs))]) noO:=fnP (by obtain ⟨a,b,c,rfl,_⟩:=hp; rfl) fun DA hR hN hX=>by
  show asZ0b _ _ [some p,some (.v (.lst (Y9 xs))),none,none]
  unfold asZ0b rsZ0bn2 rsZ0bn3
  (repeat' walk_at "vs1")
  refine ⟨Y9 xs,rfl,?_⟩
  refine X0 (fun s : Str=>D.str s) (fun r ρ=>∃ p ds ys o,U5 p ∧ xs = ds ++ r ∧ ys.Perm ds ∧ ρ = [some p,some (.v (.lst (Y9 xs))),some (.lst (Y9 ys)),o]) ?_ ?_ xs _ ⟨p,[],[],_,hp,rfl,List.Perm.refl _,rfl⟩
  · rintro ρ ⟨p,ds,ys,o,hp,e,hd,rfl⟩
    refine ⟨trivial,?_⟩
    (repeat' walk_at "vs1")
    exact hR _ _ _ rfl ⟨p,ys,hp,by rw [e,List.append_nil]; exact hd,rfl,rfl⟩
  · rintro x r ρ ⟨p,ds,ys,o,hp,e,hd,rfl⟩ K ih
    refine ⟨trivial,?_⟩
    have hyl : ys.length ≤ 20:=by
      have h1:=hd.length_eq
      have h2:=congrArg List.length e
      simp at h2
      omega
    have hyl2 : (Y9 ys).length ≤ 20:=by simpa [Y9] using hyl
    unfold bdZ0bn1
    (repeat' first|((with_reducible apply Vu);rfl;assumption;(first|assumption|decide|omega);(first|assumption|decide|omega);intro zz pp hz0 hz1 hpp)|walk_at "vs1")
    · exact ⟨by assumption,by omega,by omega⟩
    (simp only [Y7,give,List.set_cons_zero,List.set_cons_succ])
    have e2 : (Y9 ys).take zz.toNat ++ [D.str x] ++ (Y9 ys).drop zz.toNat = Y9 (ys.take zz.toNat ++ [x] ++ ys.drop zz.toNat):=by simp [Y9]
    rw [e2]
    refine ih _ ⟨_,ds ++ [x],_,_,hpp,by rw [e]; simp,?_,rfl⟩
    have h1 : (ys.take zz.toNat ++ [x] ++ ys.drop zz.toNat).Perm (x :: ys):=by
      rw [List.append_assoc]
      refine List.perm_middle.trans (List.Perm.cons x ?_)
      show (ys.take zz.toNat ++ ys.drop zz.toNat).Perm ys
      rw [List.take_append_drop]
    exact h1.trans ((List.Perm.cons x hd).trans (List.perm_append_singleton x ds).symm)
/-- a mark as it is drawn -/
structure MkT (sg : Str) (most : Int) (t : Str) : Prop where
  lo : 1 ≤ t.length
  hi : (t.length : Int) ≤ most
  m : ∀ c ∈ t.cps.toList,c ∈ sg.cps.toList
theorem JY5 {p : A} {sg : Str} {most : Int} (hp : U5 p) (h0 : 1 ≤ most) (h1 : most ≤ 100) (s0 : 1 ≤ sg.length) (s1 : sg.length ≤ 1000) : Sat (SZ0d g) [p,.v (.str sg),.v (.int most)] (fun r o=>∃ p' t,U5 p' ∧ MkT sg most t ∧ r = .v (.str t) ∧ o = [p',.v (.str sg),.v (.int most)]) noO:=fnP (by obtain ⟨a,b,c,rfl,_⟩:=hp; rfl) fun DA hR hN hX=>by
  show asZ0d _ _ [some p,some (.v (.str sg)),some (.v (.int most)),none,none]
  have hln : Uh (.str sg) = some sg.length:=by simp only [Uh,if_pos (show sg.length ≤ 100000 by omega)]
  unfold asZ0d rsZ0dn2 rsZ0dn3
  (repeat' walk_at "vs1")
  refine JV0 ?_
  (repeat' first|((with_reducible apply Vu);rfl;assumption;(first|assumption|decide|omega);(first|assumption|decide|omega);intro zz pp hz0 hz1 hpp)|walk_at "vs1")
  refine ⟨_,1 + zz,rfl,rfl,by omega,by omega,?_⟩
  refine JUe (fun ys ρ=>∃ (p : A) (y : Str) (o : Option A),U5 p ∧ (∀ c ∈ y.cps.toList,c ∈ sg.cps.toList) ∧ (y.length : Int) + ys.length = 1 + zz ∧ ρ = [some p,some (.v (.str sg)),some (.v (.int most)),some (.v (.str y)),o]) ?_ ?_ _ _ ⟨pp,"",_,hpp,(fun c hc=>by
    have e : (Str.ofString "").cps.toList = []:=by decide
    rw [e] at hc
    cases hc),(by
    have e : (Str.ofString "").length = 0:=by decide
    rw [e]
    simp only [W7,List.length_map,List.length_range]
    omega),rfl⟩
  · rintro ρ ⟨p,y,o,hp,hy,hl,rfl⟩
    refine ⟨trivial,?_⟩
    (repeat' walk_at "vs1")
    exact hR _ _ _ rfl ⟨p,y,hp,⟨by simp at hl; omega,by simp at hl; omega,hy⟩,rfl,rfl⟩
  · rintro x ys ρ ⟨p,y,o,hp,hy,hl,rfl⟩ ih
    refine ⟨trivial,?_⟩
    unfold bdZ0dn1
    (repeat' walk_at "vs1")
    refine Vu rfl hp (by omega) (by omega) fun z2 p hz20 hz21 hp=>?_
    obtain ⟨c,hc,e⟩:=JFm (x:=sg) (by omega) hz20 hz21
    refine Bz Jh Jh e ?_
    (repeat' walk_at "vs1")
    · simp only [List.length_cons] at hl
      have : (⟨#[c]⟩ : Str).length = 1:=rfl
      omega
    (simp only [Y7,give,List.set_cons_zero,List.set_cons_succ])
    refine ih _ ⟨p,_,_,hp,fun d hd=>?_,?_,rfl⟩
    · rw [JW6,List.mem_append] at hd
      rcases hd with hd | hd
      · exact hy d hd
      · have : d = c:=by simpa using hd
        rw [this]
        exact hc
    · simp only [List.length_cons] at hl
      have e3 : (y ++ (⟨#[c]⟩ : Str)).length = y.length + 1:=by rw [str_len,JW6,str_len]; simp
      rw [e3]
      push_cast at hl ⊢
      omega
/-- a good shape as it is drawn -/
structure GS (sg : Str) (most : Int) (fs : List Str) (ps : List Pc) : Prop where
  f : (Uq ps).Perm fs
  m : ∀ p ∈ ps,(∃ f,p = .fd f) ∨ ∃ t,p = .mk t ∧ MkT sg most t
  n : ps.length ≤ 2 * fs.length + 1
theorem JMx {p : A} {w : Wd} {sg : Str} {often most : Int} (hp : U5 p) (h0 : 1 ≤ most) (h1 : most ≤ 100) (s0 : 1 ≤ sg.length) (s1 : sg.length ≤ 1000) : Sat (SZ09 g) [p,.v (.str w.s),.v (.str sg),.v (.int often),.v (.int most)] (fun r o=>∃ p' ps,U5 p' ∧ GS sg most w.fs ps ∧ r = .lst (J6 ps) ∧ o = [p',.v (.str w.s),.v (.str sg),.v (.int often),.v (.int most)]) noO:=fnP (by obtain ⟨a,b,c,rfl,_⟩:=hp; rfl) fun DA hR hN hX=>by
  show asZ09 _ _ _ _ _ [some p,some (.v (.str w.s)),some (.v (.str sg)),some (.v (.int often)),some (.v (.int most)),none,none]
  have hwl : w.fs.length ≤ 6:=by cases w <;> decide
  unfold asZ09 rsZ09n2 rsZ09n3 rsZ09n4
  (repeat' walk_at "vs1")
  refine JYy rfl ?_
  (repeat' walk_at "vs1")
  refine Zs (JJx rfl rfl) (JKs hp (by omega)) (fun r o z=>?_) fun _ _ _ z=>z.elim
  obtain ⟨p1,ys,hp1,hys,rfl,rfl⟩:=z
  (simp only [Y7,give,List.set_cons_zero,List.set_cons_succ])
  refine ⟨Y9 ys,rfl,?_⟩
  have hyl:=hys.length_eq
  refine X0 (fun s : Str=>D.str s) (fun r ρ=>∃ p ds ps o,U5 p ∧ ys = ds ++ r ∧ Uq ps = ds ∧ (∀ p ∈ ps,(∃ f,p = Pc.fd f) ∨ ∃ t,p = .mk t ∧ MkT sg most t) ∧ ps.length ≤ 2 * ds.length ∧ ρ = [some p,some (.v (.str w.s)),some (.v (.str sg)),some (.v (.int often)),some (.v (.int most)),some (.lst (J6 ps)),o]) ?_ ?_ ys _ ⟨p1,[],[],_,hp1,rfl,rfl,(fun _ h=>nomatch h),Nat.le_refl _,rfl⟩
  · rintro ρ ⟨p,ds,ps,o,hp,e,hd,hm,hn,rfl⟩
    refine ⟨trivial,?_⟩
    rw [List.append_nil] at e
    subst e
    have hpl : (J6 ps).length ≤ 100:=by simp only [J6,List.length_map]; omega
    (repeat' first|((with_reducible apply Vu);rfl;assumption;(first|assumption|decide|omega);(first|assumption|decide|omega);intro zz pp hz0 hz1 hpp)|walk_at "vs1")
    · refine Zs (JU1 rfl rfl rfl) (JY5 (by assumption) h0 h1 s0 s1) (fun r o z=>?_) fun _ _ _ z=>z.elim
      obtain ⟨p2,t,hp2,ht,rfl,rfl⟩:=z
      (simp only [Y7,give,List.set_cons_zero,List.set_cons_succ])
      (repeat' walk_at "vs1")
      · omega
      (simp only [Y7,give,List.set_cons_zero,List.set_cons_succ])
      have e2 : J6 ps ++ [D.tup [.str ("mark" : Str),.str t]] = J6 (ps ++ [.mk t]):=by simp [J6,Pc.d]
      rw [e2]
      refine hR _ _ _ rfl ⟨p2,_,hp2,⟨by rw [N1,hd]; simpa [Uq] using hys,fun q hq=>?_,by simp; omega⟩,rfl,rfl⟩
      rcases List.mem_append.mp hq with hq | hq
      · exact hm q hq
      · exact .inr ⟨t,by simpa using hq,ht⟩
    · exact hR _ _ _ rfl ⟨_,_,by assumption,⟨by rw [hd]; exact hys,hm,by omega⟩,rfl,rfl⟩
  · rintro x r ρ ⟨p,ds,ps,o,hp,e,hd,hm,hn,rfl⟩ K ih
    refine ⟨trivial,?_⟩
    have hyd:=congrArg List.length e
    simp only [List.length_append,List.length_cons] at hyd
    have hpl : (J6 ps).length ≤ 100:=by simp only [J6,List.length_map]; omega
    have fin : ∀ p qs,U5 p → Uq qs = [] → (∀ p ∈ qs,(∃ f,p = Pc.fd f) ∨ ∃ t,p = .mk t ∧ MkT sg most t) → qs.length ≤ 1 → K [some p,some (.v (.str w.s)),some (.v (.str sg)),some (.v (.int often)),some (.v (.int most)),some (.lst (J6 (ps ++ qs ++ [.fd x]))),none]:=fun p qs hp hd2 hm2 hn2=>by
      refine ih _ ⟨p,ds ++ [x],_,_,hp,by rw [e]; simp,?_,fun q hq=>?_,?_,rfl⟩
      · rw [N1,N1,hd,hd2]
        simp [Uq]
      · rcases List.mem_append.mp hq with hq | hq
        · rcases List.mem_append.mp hq with hq | hq
          · exact hm q hq
          · exact hm2 q hq
        · exact .inl ⟨x,by simpa using hq⟩
      · simp only [List.length_append,List.length_cons,List.length_nil]
        omega
    unfold bdZ09n1
    (repeat' first|((with_reducible apply Vu);rfl;assumption;(first|assumption|decide|omega);(first|assumption|decide|omega);intro zz pp hz0 hz1 hpp)|walk_at "vs1")
    · refine Zs (JU1 rfl rfl rfl) (JY5 (by assumption) h0 h1 s0 s1) (fun r o z=>?_) fun _ _ _ z=>z.elim
      obtain ⟨p2,t,hp2,ht,rfl,rfl⟩:=z
      (simp only [Y7,give,List.set_cons_zero,List.set_cons_succ])
      (repeat' walk_at "vs1")
      · omega
      · rw [List.length_append]
        simp only [List.length_cons,List.length_nil]
        omega
      have e2 : J6 ps ++ [D.tup [.str ("mark" : Str),.str t]] ++ [D.tup [.str ("field" : Str),.str x]] = J6 (ps ++ [.mk t] ++ [.fd x]):=by simp [J6,Pc.d]
      rw [e2]
      exact fin p2 [.mk t] hp2 rfl (fun q hq=>.inr ⟨t,by simpa using hq,ht⟩) (by simp)
    · omega
    · (simp only [Y7,give,List.set_cons_zero,List.set_cons_succ])
      have e2 : J6 ps ++ [D.tup [.str ("field" : Str),.str x]] = J6 (ps ++ [] ++ [.fd x]):=by simp [J6,Pc.d]
      rw [e2]
      exact fin _ [] (by assumption) rfl (fun _ h=>nomatch h) (by simp)
end
def gmk (t : Str) : Bool:=decide (1 ≤ t.length) && decide (t.length ≤ 6) && t.cps.toList.all fun c=>decide (32 ≤ c) && decide (c ≤ 126)
def Wv : D → Bool
  | .str t=>gmk t
  | _=>false
def Pc.ok (fs : List Str) : Pc → Bool
  | .mk t=>gmk t
  | .fd f=>decide (f ∈ fs)
  | .ot _=>false
/-- what is no piece -/
def otL : List D:=[.non,.bl true,.int 3,.str ("id" : Str),.tup [.str ("mark" : Str),.int 5],.lst [.str ("mark" : Str),.str ("a" : Str)],.tup [.str ("mark" : Str),.str ("a" : Str),.str ("b" : Str)],.tup [.str ("field" : Str),.non],.tup [.str ("field" : Str),.lst [.str ("id" : Str)]],.tup [.str ("field" : Str)],.tup [],.tup [.str ("Mark" : Str),.str ("a" : Str)],.tup [.non,.str ("a" : Str)],.dic [(.inr ("mark" : Str),.str ("a" : Str))],.tup [.str ("mark" : Str),.non]]
def Pc.Ok : Pc → Prop
  | .mk t=>t.length ≤ 1000
  | .fd f=>f.length ≤ 1000
  | .ot d=>d ∈ otL
section
variable {EA : AX} {ρ ρ' : J0} {Q : AK} {DA : AEnds} {g : Gm} [Gok g]
theorem JG7 {xs : List D} {d : D} {x y : A} (h1 : dat x ρ = some d) (h2 : dat y ρ = some (.tup xs)) (h3 : PlD 20 d) (h4 : ∀ z ∈ xs,PlD 20 z) (k : Q (.v (.bl (xs.any fun z=>deq z d))) ρ) : aIn false x y ρ Q:=⟨d,_,_,h1,h2,⟨h3,h4,rfl⟩,k⟩
theorem Qu {xs : List D} {d : D} {x y : A} (h1 : dat x ρ = some d) (h2 : dat y ρ = some (.tup xs)) (h3 : PlD 20 d) (h4 : ∀ z ∈ xs,PlD 20 z) (k : Q (.v (.bl (!xs.any fun z=>deq z d))) ρ) : aIn true x y ρ Q:=⟨d,_,_,h1,h2,⟨h3,h4,rfl⟩,k⟩
theorem Ke (ns : List Str) : ∀ z ∈ Y9 ns,PlD 20 z:=fun z hz=>by
  obtain ⟨n,_,rfl⟩:=List.mem_map.mp hz
  exact B3
theorem Cy {ns : List Str} {y : Str} : ((Y9 ns).any fun z=>deq z (.str y)) = decide (y ∈ ns):=by
  rw [Bool.eq_iff_iff,decide_eq_true_eq]
  simp only [Y9,List.any_map,List.any_eq_true,Function.comp]
  constructor
  · rintro ⟨x,hx,h⟩
    have : x = y:=by simpa [Nt] using h
    exact this ▸ hx
  · intro h
    exact ⟨y,h,by simp [Nt]⟩
theorem JZ9 {d : D} (hd : (tyN d).isSome = true) (hs : ∀ x,d = .str x → x.length ≤ 1000) : Val (SZ03 g) [.v d] (fun r=>r = .v (.bl (Wv d))):=fnP rfl fun DA hR hN hX=>by
  show asZ03 g.K DA [some (.v d),none]
  unfold asZ03
  cases d with
  | str x =>
    have hl : x.length ≤ 100000:=by have:=hs x rfl; omega
    have hln : Uh (.str x) = some x.length:=by simp only [Uh,if_pos hl]
    (repeat' walk_at "vs1")
    · refine hR _ _ _ rfl ⟨rfl,?_⟩
      simp [Wv,gmk] at hif ⊢
      omega
    · unfold rsZ03n2
      (repeat' walk_at "vs1")
      refine ⟨Zj x,rfl,F2 rfl,Dy (fun _=>true) (fun z=>.bl (match z with
        | .str y=>y.cps.toList.all fun c=>decide (32 ≤ c) && decide (c ≤ 126)
        | _=>false)) trivial (by simpa [Zj,Str.length] using hl) (fun z hz R N hR' hN'=>?_) ?_⟩
      · obtain ⟨c,hc,rfl⟩:=List.mem_map.mp hz
        (repeat' walk_at "vs1")
        · have h32 : 32 ≤ c:=by
            simp at hif
            omega
          have e : (D.bl (decide (((⟨#[c]⟩ : Str).cps.getD 0 0 : Nat) ≤ (126 : Int)))) = D.bl ((⟨#[c]⟩ : Str).cps.toList.all fun c=>decide (32 ≤ c) && decide (c ≤ 126)):=by simp [h32]; omega
          exact e ▸ hR' _ rfl rfl
        · have h32 : ¬ 32 ≤ c:=by
            simp at hif
            omega
          have e : D.bl false = D.bl ((⟨#[c]⟩ : Str).cps.toList.all fun c=>decide (32 ≤ c) && decide (c ≤ 126)):=by simp [h32]
          rw [e]
          exact hR' _ rfl rfl
      · rw [Dc]
        (repeat' walk_at "vs1")
        refine P5 (bs:=x.cps.toList.map fun c=>decide (32 ≤ c) && decide (c ≤ 126)) ?_ ?_
        · simp [Zj,dat,Function.comp_def,A.toD]
        · (repeat' walk_at "vs1")
          refine hR _ _ _ rfl ⟨rfl,?_⟩
          rename_i hif1
          simp at hif hif1
          have a1 : 1 ≤ x.length:=by omega
          have a2 : x.length ≤ 6:=by omega
          simp [Wv,gmk,a1,a2,List.all_map,Function.comp_def]
    · refine hR _ _ _ rfl ⟨rfl,?_⟩
      simp at hif
      have a1 : ¬1 ≤ x.length:=by omega
      simp only [Wv,gmk,a1,decide_false,Bool.false_and]
  | ty n=>cases hd
  | obj C fs=>cases hd
  | any=>cases hd
  | _ =>
    (repeat' walk_at "vs1")
    exact hR _ _ _ rfl ⟨rfl,rfl⟩
theorem R3 {d : D} (hd : (tyN d).isSome = true) (hs : ∀ x,d = .str x → x.length ≤ 1000) (k : Q (.v (.bl (Wv d))) ρ) : Yp (SZ03 g) [.v d] EA ρ Q:=Wr rfl (JZ9 hd hs) fun r e=>by subst e; exact k
theorem JKd {p : Pc} {fs : List Str} (hp : p.Ok) : Val (SZ0j g) [.v p.d,.v (.tup (Y9 fs))] (fun r=>r = .v (.bl (p.ok fs))):=fnP rfl fun DA hR hN hX=>by
  show asZ0j g.K _ DA [some (.v p.d),some (.v (.tup (Y9 fs)))]
  cases p with
  | mk t =>
    have h0 : itD (.tup [.str ("mark" : Str),.str t]) (.int 0) = some (.str ("mark" : Str)):=rfl
    have h1 : itD (.tup [.str ("mark" : Str),.str t]) (.int 1) = some (.str t):=rfl
    unfold asZ0j Pc.d
    (repeat' walk_at "vs1")
    unfold rsZ0jn2
    (repeat' walk_at "vs1")
    refine R3 rfl (fun x e=>by cases e; exact hp) ?_
    (repeat' walk_at "vs1")
    exact hR _ _ _ rfl ⟨rfl,rfl⟩
  | fd f =>
    have h0 : itD (.tup [.str ("field" : Str),.str f]) (.int 0) = some (.str ("field" : Str)):=rfl
    have h1 : itD (.tup [.str ("field" : Str),.str f]) (.int 1) = some (.str f):=rfl
    unfold asZ0j Pc.d
    (repeat' walk_at "vs1")
    unfold rsZ0jn2
    (repeat' walk_at "vs1")
    unfold rsZ0jn3
    (repeat' walk_at "vs1")
    refine JG7 Jh Jh B3 (Ke fs) ?_
    rw [Cy]
    (repeat' walk_at "vs1")
    exact hR _ _ _ rfl ⟨rfl,rfl⟩
  | ot d =>
    have hd : d ∈ otL:=hp
    show asZ0j g.K _ DA [some (.v d),some (.v (.tup (Y9 fs)))]
    have e : (Pc.ot d).ok fs = false:=rfl
    rw [e] at hR
    clear e hp
    have hR' : ∀ ρ,fin [0,1] 0 [.v d,.v (.tup (Y9 fs))] ρ = some [.v d,.v (.tup (Y9 fs))] → DA.rt (.v (.bl false)) ρ:=fun ρ h=>hR _ _ _ h ⟨rfl,rfl⟩
    clear hR
    unfold asZ0j rsZ0jn2 rsZ0jn3
    simp only [otL,List.mem_cons,List.not_mem_nil,or_false] at hd
    rcases hd with rfl | rfl | rfl | rfl | rfl | rfl | rfl | rfl | rfl | rfl | rfl | rfl | rfl | rfl | rfl
    all_goals
      (repeat' walk_at "vs1")
      all_goals first
        | exact hR' _ rfl
        | (refine R3 rfl (fun x e=>nomatch e) ?_
           (repeat' walk_at "vs1")
           exact hR' _ rfl)
        | (exfalso; revert hif; decide)
        | trace_state
end
/-- what is handed over as a shape -/
inductive Sh where
  | l (ps : List Pc) | t (ps : List Pc) | o (d : D)
def Sh.d : Sh → D
  | .l ps=>.lst (J6 ps)
  | .t ps=>.tup (J6 ps)
  | .o d=>d
def Sh.a : Sh → A
  | .l ps=>.lst (J6 ps)
  | .t ps=>.v (.tup (J6 ps))
  | .o d=>.v d
def shL : List D:=[.non,.str ("id" : Str),.dic [],.int 7]
def Sh.Ok : Sh → Prop
  | .l ps=>ps.length ≤ 1000 ∧ ∀ p ∈ ps,p.Ok
  | .t ps=>ps.length ≤ 1000 ∧ ∀ p ∈ ps,p.Ok
  | .o d=>d ∈ shL
def V0 (fs : List Str) (ps : List Pc) : Bool:=decide (1 ≤ ps.length) && decide (ps.length ≤ 15) && ps.all (Pc.ok fs) && decide ((Uq ps).mergeSort sle = fs.mergeSort sle)
def Sh.ok (fs : List Str) : Sh → Bool
  | .l ps=>V0 fs ps
  | .t ps=>V0 fs ps
  | .o _=>false
theorem JMb {xs ys : List Str} : xs.mergeSort sle = ys.mergeSort sle ↔ xs.Perm ys :=
  ⟨fun h=>(List.mergeSort_perm xs sle).symm.trans (h ▸ List.mergeSort_perm ys sle),fun h=>JMv (((List.mergeSort_perm xs sle).trans h).trans (List.mergeSort_perm ys sle).symm) (PySem.W.sort_pairwise Qv xs) (PySem.W.sort_pairwise Qv ys)⟩
theorem JHu {i j : Nat} {ρ : J0} (h : ρ[i]? = some none) (h2 : ρ[j]? = some none) : Wa [i,j] ρ:=fun v hv=>by
  rcases List.mem_cons.mp hv with e | hv
  · subst e
    exact h
  · have e : v = j:=by simpa using hv
    subst e
    exact h2
theorem Cw (rs : List Str) : PySem.W.Sortable ((rs.map D.str).map pd):=by
  refine .inr fun a ha=>?_
  simp only [List.map_map,List.mem_map,Function.comp] at ha
  obtain ⟨x,_,rfl⟩:=ha
  exact ⟨(fun e=>by simp [pd] at e),(fun xs e=>by simp [pd] at e)⟩
def Fq : Pc → Bool
  | .fd _=>true
  | _=>false
def Pc.nm : Pc → Str
  | .fd f=>f
  | _=>""
theorem Ku : ∀ ps : List Pc,(ps.filter Fq).map (fun p=>D.str p.nm) = Y9 (Uq ps)
  | []=>rfl
  | .mk t :: ps=>by
    have:=Ku ps
    simpa [Fq,Uq,Y9] using this
  | .fd t :: ps=>by
    have:=Ku ps
    have e : (Pc.fd t :: ps).filter Fq = Pc.fd t :: ps.filter Fq:=List.filter_cons_of_pos rfl
    rw [e,List.map_cons,this]
    rfl
  | .ot t :: ps=>by
    have:=Ku ps
    simpa [Fq,Uq,Y9] using this
theorem JLa {a b : List Str} : deq (.lst (Y9 a)) (.lst (Y9 b)) = decide (a = b):=by
  show We _ _ = _
  induction a generalizing b with
  | nil=>cases b <;> rfl
  | cons x a ih =>
    cases b with
    | nil=>rfl
    | cons y b =>
      show (deq (.str x) (.str y) && We (Y9 a) (Y9 b)) = _
      rw [ih,Nt]
      simp
section
variable {EA : AX} {ρ ρ' : J0} {Q : AK} {DA : AEnds} {g : Gm} [Gok g]
theorem JMh {d : D} (hd : (tyN d).isSome = true) : Val (SZ0k g) [.v d] (fun r=>r = .v (.bl (Vb d "list" || Vb d "tuple"))):=fnP rfl fun DA hR hN hX=>by
  show asZ0k g.K DA [some (.v d)]
  unfold asZ0k
  (repeat' walk_at "vs1")
  exact hR _ _ _ rfl ⟨rfl,rfl⟩
theorem Ad {d : D} (hd : (tyN d).isSome = true) (k : Q (.v (.bl (Vb d "list" || Vb d "tuple"))) ρ) : Yp (SZ0k g) [.v d] EA ρ Q:=Wr rfl (JMh hd) fun r e=>by subst e; exact k
theorem JGa {p : Pc} {d : D} {fs : List Str} (hd : d = p.d) (hp : p.Ok) (k : Q (.v (.bl (p.ok fs))) ρ) : Yp (SZ0j g) [.v d,.v (.tup (Y9 fs))] EA ρ Q:=by
  subst hd
  exact Wr rfl (JKd hp) fun r e=>by subst e; exact k
theorem Rf {ps : List Pc} {d : D} {fs : List Str} (hs : Zt d = some (J6 ps)) (hl : Uh d = some ps.length) (hr : (Vb d "list" || Vb d "tuple") = true) (ht : (tyN d).isSome = true) (h0 : ps.length ≤ 1000) (hp : ∀ p ∈ ps,p.Ok) : Val (SZ0i g) [.v d,.v (.tup (Y9 fs))] (fun r=>r = .v (.bl (V0 fs ps))):=fnP rfl fun DA hR hN hX=>by
  have hR' : ∀ b ρ,fin [0,1] 0 [.v d,.v (.tup (Y9 fs))] ρ = some [.v d,.v (.tup (Y9 fs))] → b = V0 fs ps → DA.rt (.v (.bl b)) ρ:=fun b ρ h e=>hR _ _ _ h ⟨rfl,by rw [e]⟩
  clear hR
  show asZ0i _ _ DA [some (.v d),some (.v (.tup (Y9 fs))),none,none,none]
  unfold asZ0i
  (repeat' walk_at "vs1")
  refine Ad ht ?_
  rw [hr]
  (repeat' walk_at "vs1")
  · refine hR' _ _ rfl ?_
    simp at hif
    have : ¬ ps.length ≤ 15:=by omega
    simp [V0,this]
  · unfold rsZ0in2
    (repeat' walk_at "vs1")
    refine ⟨J6 ps,hs,F2 rfl,Nv Pc.d (fun _=>true) (fun p=>.bl (p.ok fs)) (xs:=ps) trivial (by omega) (fun p hpm R N hR2 hN2=>?_) ?_⟩
    · (repeat' walk_at "vs1")
      refine JGa rfl (hp p hpm) ?_
      (repeat' walk_at "vs1")
      exact hR2 _ rfl rfl
    · have e : (ps.filter fun _=>true) = ps:=List.filter_eq_self.mpr fun _ _=>rfl
      rw [e]
      (repeat' walk_at "vs1")
      refine P5 (bs:=ps.map fun p=>p.ok fs) (by simp [dat,Function.comp_def,A.toD]) ?_
      (repeat' walk_at "vs1")
      · refine hR' _ _ rfl ?_
        have e2 : ps.all (Pc.ok fs) = false:=by
          simp only [List.all_map,Bool.not_eq_true'] at hif
          exact hif
        simp [V0,e2]
      · have hall : ∀ p ∈ ps,p.ok fs = true:=by
          simp only [List.all_map,Bool.not_eq_true',Bool.not_eq_false] at hif
          exact List.all_eq_true.mp hif
        unfold rsZ0in3
        (repeat' walk_at "vs1")
        refine ⟨J6 ps,hs,JHu rfl rfl,Nv Pc.d Fq (fun p=>.str p.nm) (xs:=ps) trivial (by omega) (fun p hpm R N hR2 hN2=>?_) ?_⟩
        · have hpo:=hall p hpm
          cases p with
          | ot d=>cases hpo
          | mk t =>
            unfold Pc.d
            (repeat' walk_at "vs1")
            exact hN2 _ rfl rfl
          | fd f =>
            unfold Pc.d
            (repeat' walk_at "vs1")
            exact hR2 _ rfl rfl
        · rw [Ku]
          (repeat' walk_at "vs1")
          refine JZ5 Js (Ke _) (JUv _) (Cw _) ?_
          (repeat' walk_at "vs1")
          refine JZ6 Jh (Ke _) (JUv _) (Cw _) ?_
          rw [Y9,Y9,C6,C6]
          have pl : ∀ xs : List Str,PlD 20 (.lst (xs.map D.str)):=fun xs z hz=>by
            obtain ⟨n,_,rfl⟩:=List.mem_map.mp hz
            trivial
          refine Kh Js Js (pl _) (pl _) ?_
          rw [← Y9,← Y9,JLa]
          (repeat' walk_at "vs1")
          refine hR' _ _ rfl ?_
          rename_i g1 g2
          simp at g1 g2
          have a1 : 1 ≤ ps.length:=by omega
          have a2 : ps.length ≤ 15:=by omega
          have a3 : ps.all (Pc.ok fs) = true:=List.all_eq_true.mpr hall
          simp only [V0,a1,a2,a3,decide_true,Bool.true_and]
  · refine hR' _ _ rfl ?_
    simp at hif
    have : ¬ 1 ≤ ps.length:=by omega
    simp [V0,this]
theorem TZ0i {s : Sh} {fs : List Str} (hs : s.Ok) : Val (SZ0i g) [.v s.d,.v (.tup (Y9 fs))] (fun r=>r = .v (.bl (s.ok fs))):=by
  cases s with
  | l ps=>exact Rf rfl (by simp [Uh,Sh.d,J6]) rfl rfl hs.1 hs.2
  | t ps=>exact Rf rfl (by simp [Uh,Sh.d,J6]) rfl rfl hs.1 hs.2
  | o d =>
    refine fnP rfl fun DA hR hN hX=>?_
    have hR' : ∀ ρ,fin [0,1] 0 [.v d,.v (.tup (Y9 fs))] ρ = some [.v d,.v (.tup (Y9 fs))] → DA.rt (.v (.bl false)) ρ:=fun ρ h=>hR _ _ _ h ⟨rfl,rfl⟩
    clear hR
    have hd : d ∈ shL:=hs
    show asZ0i _ _ DA [some (.v d),some (.v (.tup (Y9 fs))),none,none,none]
    unfold asZ0i
    simp only [shL,List.mem_cons,List.not_mem_nil,or_false] at hd
    rcases hd with rfl | rfl | rfl | rfl
    all_goals
      (repeat' walk_at "vs1")
      refine Ad rfl ?_
      (repeat' walk_at "vs1")
      exact hR' _ rfl
end
theorem JU0 : ∀ (l : List Str) (a : Str),l.eraseIdx (l.idxOf a) = l.erase a
  | [],a=>rfl
  | x :: l,a=>by
    rw [List.idxOf_cons,List.erase_cons]
    by_cases h : (x == a) = true
    · rw [h]
      rfl
    · have h' : (x == a) = false:=by simpa using h
      rw [h']
      simp only [cond_false,List.eraseIdx_cons_succ,JU0 l a]
      rfl
theorem lt1 {c d : Nat} : decide (([c] : List Nat) < [d]) = decide (c < d):=by
  rw [Bool.eq_iff_iff,decide_eq_true_eq,decide_eq_true_eq,List.cons_lt_cons_iff]
  simp
theorem Cr : ∀ l : List Nat,deq (.int ((l.filter fun c=>decide (c < 32) || decide (126 < c)).length : Nat)) (.int 0) = l.all fun c=>decide (32 ≤ c) && decide (c ≤ 126)
  | []=>rfl
  | c :: l=>by
    have ih:=Cr l
    rw [List.all_cons,← ih,List.filter_cons]
    by_cases h : (decide (c < 32) || decide (126 < c)) = true
    · rw [if_pos h]
      have h2 : (decide (32 ≤ c) && decide (c ≤ 126)) = false:=by
        simp at h ⊢
        omega
      rw [h2,Bool.false_and]
      simp only [deq,List.length_cons]
      rw [beq_eq_false_iff_ne]
      omega
    · rw [if_neg h]
      have h2 : (decide (32 ≤ c) && decide (c ≤ 126)) = true:=by
        simp at h ⊢
        omega
      rw [h2,Bool.true_and]
def okm : Pc → Bool
  | .mk t=>gmk t
  | .fd _=>true
  | .ot _=>false
def Vo : List Str → List Pc → Bool
  | left,[]=>decide (left.length = 0)
  | left,.mk t :: ps=>gmk t && Vo left ps
  | left,.fd f :: ps=>decide (f ∈ left) && Vo (left.eraseIdx (left.idxOf f)) ps
  | _,.ot _ :: _=>false
theorem Mn : ∀ (ps : List Pc) (left : List Str),Vo left ps = true ↔ ps.all okm = true ∧ (Uq ps).Perm left
  | [],left=>by
    simp only [Vo,List.all_nil,Uq,List.filterMap_nil,decide_eq_true_eq,true_and]
    constructor
    · intro h
      rw [List.eq_nil_of_length_eq_zero h]
    · intro h
      rw [← h.length_eq]
      rfl
  | .mk t :: ps,left=>by
    have ih:=Mn ps left
    have e : Uq (.mk t :: ps) = Uq ps:=rfl
    simp only [Vo,List.all_cons,okm,Bool.and_eq_true,ih,e,and_assoc]
  | .fd f :: ps,left=>by
    have ih:=Mn ps (left.eraseIdx (left.idxOf f))
    have e : Uq (.fd f :: ps) = f :: Uq ps:=rfl
    rw [Vo,Bool.and_eq_true,ih,e,List.cons_perm_iff_perm_erase,decide_eq_true_eq,JU0]
    simp only [List.all_cons,okm,Bool.true_and]
    constructor
    · rintro ⟨h1,h2,h3⟩
      exact ⟨h2,h1,h3⟩
    · rintro ⟨h2,h1,h3⟩
      exact ⟨h1,h2,h3⟩
  | .ot d :: ps,left=>by
    simp [Vo,okm]
theorem JKr {fs : List Str} {ps : List Pc} : (decide (1 ≤ ps.length) && decide (ps.length ≤ 15) && Vo fs ps) = V0 fs ps:=by
  rw [Bool.eq_iff_iff]
  simp only [V0,Bool.and_eq_true,Mn,decide_eq_true_eq,JMb,and_assoc]
  refine and_congr_right fun _=>and_congr_right fun _=>?_
  constructor
  · rintro ⟨h1,h2⟩
    refine ⟨?_,h2⟩
    rw [List.all_eq_true] at h1 ⊢
    intro p hp
    cases p with
    | mk t=>exact h1 _ hp
    | ot d=>exact h1 _ hp
    | fd f =>
      simp only [Pc.ok,decide_eq_true_eq]
      exact h2.subset (by
        simp only [Uq,List.mem_filterMap]
        exact ⟨_,hp,rfl⟩)
  · rintro ⟨h1,h2⟩
    refine ⟨?_,h2⟩
    rw [List.all_eq_true] at h1 ⊢
    intro p hp
    cases p with
    | mk t=>exact h1 _ hp
    | ot d=>exact h1 _ hp
    | fd f=>rfl
section
variable {EA : AX} {ρ ρ' : J0} {Q : AK} {DA : AEnds} {g : Gm} [Gok g]
theorem JGs {d : D} (hd : (tyN d).isSome = true) (hs : ∀ x,d = .str x → x.length ≤ 1000) : Val (SZ02 g) [.v d] (fun r=>r = .v (.bl (Wv d))):=fnP rfl fun DA hR hN hX=>by
  show asZ02 g.K DA [some (.v d),none]
  unfold asZ02
  cases d with
  | str x =>
    have hl : x.length ≤ 100000:=by have:=hs x rfl; omega
    have hln : Uh (.str x) = some x.length:=by simp only [Uh,if_pos hl]
    (repeat' walk_at "vs1")
    · refine hR _ _ _ rfl ⟨rfl,?_⟩
      simp at hif
      simp [Wv,gmk]
      omega
    · refine hR _ _ _ rfl ⟨rfl,?_⟩
      simp at hif
      simp [Wv,gmk]
      omega
    · unfold rsZ02n2
      (repeat' walk_at "vs1")
      refine ⟨Zj x,rfl,F2 rfl,Nv (fun c=>D.str ⟨#[c]⟩) (fun c=>decide (c < 32) || decide (126 < c)) (fun c=>.str ⟨#[c]⟩) (xs:=x.cps.toList) trivial (by rw [str_len] at hl; omega) (fun c hc R N hR' hN'=>?_) ?_⟩
      · have e1 : ((Str.ofString " ").cps.toList) = [32]:=by decide
        have e2 : ((Str.ofString "~").cps.toList) = [126]:=by decide
        (repeat' walk_at "vs1")
        · have h1 : c < 32:=by
            rw [e1] at hif
            rw [lt1] at hif
            simpa using hif
          exact hR' _ rfl (by simp [h1])
        · have h1 : 126 < c:=by
            rw [e2] at hif
            rw [lt1] at hif
            simpa using hif
          exact hR' _ rfl (by simp [h1])
        · refine hN' _ rfl ?_
          rename_i hif1
          rw [e2] at hif
          rw [e1] at hif1
          rw [lt1] at hif hif1
          simp at hif hif1
          simp
          omega
      · (repeat' walk_at "vs1")
        refine hR _ _ _ rfl ⟨rfl,?_⟩
        rename_i h1
        have a1 : 1 ≤ x.length:=by simp at h1; omega
        have a2 : x.length ≤ 6:=by simp at hif; omega
        simp only [Wv,gmk,a1,a2,decide_true,Bool.true_and,List.length_map]
        congr 2
        exact Cr x.cps.toList
  | ty n=>cases hd
  | obj C fs=>cases hd
  | any=>cases hd
  | _ =>
    (repeat' walk_at "vs1")
    exact hR _ _ _ rfl ⟨rfl,rfl⟩
theorem JJ3 {d : D} (hd : (tyN d).isSome = true) (hs : ∀ x,d = .str x → x.length ≤ 1000) (k : Q (.v (.bl (Wv d))) ρ) : Yp (SZ02 g) [.v d] EA ρ Q:=Wr rfl (JGs hd hs) fun r e=>by subst e; exact k
theorem Rw {ps : List Pc} {d : D} {w : Wd} (hs : Zt d = some (J6 ps)) (hl : Uh d = some ps.length) (hr : (Vb d "list" || Vb d "tuple") = true) (ht : (tyN d).isSome = true) (h0 : ps.length ≤ 1000) (hp : ∀ p ∈ ps,p.Ok) : Val (SZ01 g) [.v d,.v (.str w.s)] (fun r=>r = .v (.bl (V0 w.fs ps))):=fnP rfl fun DA hR hN hX=>by
  have hR' : ∀ b ρ,fin [0,1] 0 [.v d,.v (.str w.s)] ρ = some [.v d,.v (.str w.s)] → b = V0 w.fs ps → DA.rt (.v (.bl b)) ρ:=fun b ρ h e=>hR _ _ _ h ⟨rfl,by rw [e]⟩
  clear hR
  show asZ01 _ _ _ DA [some (.v d),some (.v (.str w.s)),none,none]
  unfold asZ01
  (repeat' walk_at "vs1")
  · rw [hr] at hif
    cases hif
  · refine hR' _ _ rfl ?_
    simp at hif
    have : ¬ 1 ≤ ps.length:=by omega
    simp [V0,this]
  · refine hR' _ _ rfl ?_
    simp at hif
    have : ¬ ps.length ≤ 15:=by omega
    simp [V0,this]
  · rename_i h1
    have a1 : 1 ≤ ps.length:=by simp at h1; omega
    have a2 : ps.length ≤ 15:=by simp at hif; omega
    unfold rsZ01n2
    (repeat' walk_at "vs1")
    refine JYy rfl ?_
    (repeat' walk_at "vs1")
    unfold rsZ01n3
    (repeat' walk_at "vs1")
    refine ⟨J6 ps,hs,?_⟩
    have hsh : V0 w.fs ps = Vo w.fs ps:=by rw [← JKr]; simp [a1,a2]
    rw [hsh] at hR'
    clear hsh hs hl h1 hif a1 a2 h0 hr
    refine X0 Pc.d (fun qs ρ=>∃ left,left.length ≤ 1000 ∧ (∀ q ∈ qs,q.Ok) ∧ Vo left qs = Vo w.fs ps ∧ ρ = [some (.v d),some (.v (.str w.s)),some (.lst (Y9 left)),none]) ?_ ?_ ps _ ⟨w.fs,by cases w <;> decide,hp,rfl,rfl⟩
    · rintro ρ ⟨left,hll,_,e,rfl⟩
      refine ⟨trivial,?_⟩
      unfold rsZ01n4
      (repeat' walk_at "vs1")
      refine hR' _ _ rfl ?_
      rw [← e]
      cases left with
      | nil=>rfl
      | cons a l=>simp [Vo,deq,Y9]; omega
    · rintro q qs ρ ⟨left,hll,hq,e,rfl⟩ K ih
      refine ⟨trivial,?_⟩
      have hq0:=hq q (List.mem_cons_self ..)
      have hq1 : ∀ q ∈ qs,q.Ok:=fun x hx=>hq x (List.mem_cons_of_mem _ hx)
      unfold bdZ01n1
      cases q with
      | mk t =>
        have h0 : itD (.tup [.str ("mark" : Str),.str t]) (.int 0) = some (.str ("mark" : Str)):=rfl
        have h1 : itD (.tup [.str ("mark" : Str),.str t]) (.int 1) = some (.str t):=rfl
        unfold Pc.d
        (repeat' walk_at "vs1")
        refine JJ3 rfl (fun x e=>by cases e; exact hq0) ?_
        (repeat' walk_at "vs1")
        · refine hR' _ _ rfl ?_
          have e3 : gmk t = false:=by simpa [Wv] using hif
          rw [← e,Vo,e3,Bool.false_and]
        · have e3 : gmk t = true:=by simpa [Wv] using hif
          refine ih _ ⟨left,hll,hq1,?_,rfl⟩
          rw [← e,Vo,e3,Bool.true_and]
      | fd f =>
        have h0 : itD (.tup [.str ("field" : Str),.str f]) (.int 0) = some (.str ("field" : Str)):=rfl
        have h1 : itD (.tup [.str ("field" : Str),.str f]) (.int 1) = some (.str f):=rfl
        unfold Pc.d
        (repeat' walk_at "vs1")
        refine JN8 Jh (Ju rfl) B3 (Ke left) ?_
        rw [Cy]
        (repeat' walk_at "vs1")
        · have hf : f ∈ left:=of_decide_eq_true hif
          refine JBe rfl Jh hf ?_
          (simp only [Y7,give,List.set_cons_zero,List.set_cons_succ])
          refine ih _ ⟨_,?_,hq1,?_,rfl⟩
          · exact Nat.le_trans (List.length_eraseIdx_le ..) hll
          · rw [← e,Vo,hif,Bool.true_and]
        · refine hR' _ _ rfl ?_
          have e3 : decide (f ∈ left) = false:=by simpa using hif
          rw [← e,Vo,e3,Bool.false_and]
      | ot x =>
        have hx : x ∈ otL:=hq0
        have e2 : Vo left (.ot x :: qs) = false:=rfl
        rw [e2] at e
        show Ui 3 x _ _
        simp only [otL,List.mem_cons,List.not_mem_nil,or_false] at hx
        rcases hx with rfl | rfl | rfl | rfl | rfl | rfl | rfl | rfl | rfl | rfl | rfl | rfl | rfl | rfl | rfl
        all_goals
          (repeat' walk_at "vs1")
          all_goals first
            | exact hR' _ _ rfl e
            | (refine JJ3 rfl (fun x e=>nomatch e) ?_
               (repeat' walk_at "vs1")
               exact hR' _ _ rfl e)
            | trace_state
end
def Sh.ps : Sh → List Pc
  | .l ps=>ps
  | .t ps=>ps
  | .o _=>[]
abbrev Shs:=Wd → Sh
def X6 (S : Shs) : List (Key × D):=[(.inr ("row" : Str),(S .row).d),(.inr ("fix" : Str),(S .fix).d),(.inr ("gone" : Str),(S .gone).d)]
def fmK (F : Wd → List Pc) : List (Key × D):=[(.inr ("row" : Str),.tup (J6 (F .row))),(.inr ("fix" : Str),.tup (J6 (F .fix))),(.inr ("gone" : Str),.tup (J6 (F .gone)))]
def Xo (F : Wd → List Pc) : List (Str × A):=[("_shapes",.v (.dic (fmK F)))]
def Ya (C : Addr) (F : Wd → List Pc) : D:=.obj C [("_shapes",.dic (fmK F))]
def Shs.ps (S : Shs) : Wd → List Pc:=fun w=>(S w).ps
/-- the first word whose shape is none -/
def Va (S : Shs) : Option Wd:=if (S .row).ok Wd.row.fs = false then some .row else if (S .fix).ok Wd.fix.fs = false then some .fix else if (S .gone).ok Wd.gone.fs = false then some .gone else none
theorem Ql (S : Shs) (w : Wd) : itD (.dic (X6 S)) (.str w.s) = some (S w).d:=by cases w <;> rfl
theorem JB4 (w : Wd) : T_FIELDS.lookup w.s = some (Y9 w.fs):=by cases w <;> rfl
def wrds : List Wd:=[.row,.fix,.gone]
section
variable {EA : AX} {ρ ρ' : J0} {Q : AK} {DA : AEnds} {g : Gm} [Gok g]
theorem kZ0i {s : Sh} {d : D} {fs : List Str} {ds : List D} (hd : d = s.d) (he : ds = Y9 fs) (hs : s.Ok) (k : Q (.v (.bl (s.ok fs))) ρ) : Yp (SZ0i g) [.v d,.v (.tup ds)] EA ρ Q:=by
  subst hd he
  exact Wr rfl (TZ0i hs) fun r e=>by subst e; exact k
theorem JWv {s : Sh} {fs : List Str} {ρ : J0} {Q : AK} (hw : s.ok fs = true) (k : Q (.v (.tup (J6 s.ps))) ρ) : Zu [.v s.d] ρ Q:=by
  cases s with
  | o d=>cases hw
  | l ps=>exact L6 Jh k
  | t ps=>exact Of Jh k
theorem JF5 {S : Shs} (hok : ∀ w,(S w).ok w.fs = true) {o5 : Option A} (k : ∀ o5 ρ,ρ = [some (.obj g.J1 (Xo S.ps)),some (.v (S .row).d),some (.v (S .fix).d),some (.v (S .gone).d),some (.v (.dic (X6 S))),o5] → DA.nx ρ) : rsZ00n3 g.J1 g.Jk (SZ0i g) DA [some (.obj g.J1 []),some (.v (S .row).d),some (.v (S .fix).d),some (.v (S .gone).d),some (.v (.dic (X6 S))),o5]:=by
  unfold rsZ00n3
  (repeat' walk_at "vs1")
  refine ⟨wdsD,rfl,F2 rfl,Cn (W:=fun acc r ρ=>ρ = [some (.obj g.J1 []),some (.v (S .row).d),some (.v (S .fix).d),some (.v (S .gone).d),some (.v (.dic (X6 S))),none] ∧ ∃ dn rs : List Wd,wrds = dn ++ rs ∧ r = rs.map (fun w=>D.str w.s) ∧ acc = dn.map fun w=>(.inr w.s,D.tup (J6 (S w).ps))) (fun acc ρ ⟨e,zs,rs,h1,h2,h3⟩=>?_) (fun acc x r ρ ⟨e,zs,rs,h1,h2,h3⟩ ih=>?_) _ _ _ ⟨rfl,[],wrds,rfl,rfl,rfl⟩⟩
  · subst e h3
    have : rs = []:=by cases rs with
      | nil=>rfl
      | cons _ _=>simp at h2
    subst this
    rw [List.append_nil] at h1
    subst h1
    refine ⟨trivial,?_⟩
    (repeat' walk_at "vs1")
    exact k _ _ rfl
  · subst e h3
    cases rs with
    | nil=>cases h2
    | cons w rs =>
      simp only [List.map_cons,List.cons.injEq] at h2
      obtain ⟨rfl,rfl⟩:=h2
      refine ⟨trivial,?_⟩
      have hat:=Ql S w
      have hput : putD (zs.map fun w=>((.inr w.s : Key),D.tup (J6 (S w).ps))) (.inr w.s) (.tup (J6 (S w).ps)) = (zs ++ [w]).map fun w=>(.inr w.s,D.tup (J6 (S w).ps)):=by
        have hz : zs = [] ∧ w = .row ∨ zs = [.row] ∧ w = .fix ∨ zs = [.row,.fix] ∧ w = .gone:=by
          rcases zs with _ | ⟨z1,_ | ⟨z2,_ | ⟨z3,z4⟩⟩⟩ <;> simp [wrds] at h1 ⊢ <;> simp [h1]
        rcases hz with ⟨rfl,rfl⟩ | ⟨rfl,rfl⟩ | ⟨rfl,rfl⟩ <;> rfl
      have hzl : (zs.map fun w=>((.inr w.s : Key),D.tup (J6 (S w).ps))).length ≤ 100000:=by
        have:=congrArg List.length h1
        simp [wrds] at this
        simp
        omega
      have hw:=hok w
      (repeat' walk_at "vs1")
      refine JWv hw ?_
      (repeat' walk_at "vs1")
      refine ⟨.str w.s,.inr w.s,rfl,rfl,hzl,?_⟩
      rw [hput]
      exact ih _ _ ⟨rfl,zs ++ [w],rs,by rw [h1]; simp,rfl,rfl⟩
theorem JG2 {S : Shs} (hO : ∀ w,(S w).Ok) {o5 : Option A} (k : Va S = none → ∀ o5 ρ,ρ = [some (.obj g.J1 (Xo S.ps)),some (.v (S .row).d),some (.v (S .fix).d),some (.v (S .gone).d),some (.v (.dic (X6 S))),o5] → DA.nx ρ)
    (kx : ∀ w,Va S = some w → ∀ ρ o4 o5,ρ = [some (.obj g.J1 []),some (.v (S .row).d),some (.v (S .fix).d),some (.v (S .gone).d),o4,o5] → DA.ex g.Jk [("value",.str w.s)] ρ) : rsZ00n2 g.J1 g.Jk (SZ0i g) DA [some (.obj g.J1 []),some (.v (S .row).d),some (.v (S .fix).d),some (.v (S .gone).d),some (.v (.dic (X6 S))),o5]:=by
  unfold rsZ00n2
  (repeat' walk_at "vs1")
  refine ⟨wdsD,rfl,?_⟩
  refine X0 (fun w : Wd=>D.str w.s) (fun r ρ=>∃ dn o,wrds = dn ++ r ∧ (∀ w ∈ dn,(S w).ok w.fs = true) ∧ ρ = [some (.obj g.J1 []),some (.v (S .row).d),some (.v (S .fix).d),some (.v (S .gone).d),some (.v (.dic (X6 S))),o]) ?_ ?_ wrds _ ⟨[],_,rfl,(fun _ h=>nomatch h),rfl⟩
  · rintro ρ ⟨dn,o,e,hd,rfl⟩
    refine ⟨trivial,?_⟩
    rw [List.append_nil] at e
    subst e
    have hall : ∀ w,(S w).ok w.fs = true:=fun w=>hd w (by cases w <;> simp [wrds])
    refine JF5 hall fun o5 ρ e=>k ?_ _ _ e
    unfold Va
    rw [if_neg (by rw [hall]; simp),if_neg (by rw [hall]; simp),if_neg (by rw [hall]; simp)]
  · rintro w r ρ ⟨dn,o,e,hd,rfl⟩ K ih
    refine ⟨trivial,?_⟩
    have hat:=Ql S w
    have hft:=JB4 w
    unfold bdZ00n1
    (repeat' walk_at "vs1")
    refine JXx ?_
    (repeat' walk_at "vs1")
    refine ⟨w.s,Y9 w.fs,rfl,hft,?_⟩
    (repeat' walk_at "vs1")
    refine kZ0i rfl rfl (hO w) ?_
    (repeat' walk_at "vs1")
    · refine kx w ?_ _ _ _ rfl
      have hw : (S w).ok w.fs = false:=by simpa using hif
      have hz : dn = [] ∧ w = .row ∨ dn = [.row] ∧ w = .fix ∨ dn = [.row,.fix] ∧ w = .gone:=by
        rcases dn with _ | ⟨z1,_ | ⟨z2,_ | ⟨z3,z4⟩⟩⟩ <;> simp [wrds] at e ⊢ <;> simp [e]
      unfold Va
      rcases hz with ⟨rfl,rfl⟩ | ⟨rfl,rfl⟩ | ⟨rfl,rfl⟩
      · rw [if_pos hw]
      · rw [if_neg (by rw [hd .row (by simp)]; simp),if_pos hw]
      · rw [if_neg (by rw [hd .row (by simp)]; simp),if_neg (by rw [hd .fix (by simp)]; simp),if_pos hw]
    · refine ih _ ⟨dn ++ [w],_,by rw [e]; simp,fun x hx=>?_,rfl⟩
      rcases List.mem_append.mp hx with hx | hx
      · exact hd x hx
      · have : x = w:=by simpa using hx
        rw [this]
        simpa using hif
/-- what the makers hand over -/
def Mg (S : Shs) : List A:=[.v (S .row).d,.v (S .fix).d,.v (S .gone).d]
theorem F8 {S : Shs} (hO : ∀ w,(S w).Ok) : Sat (SZ00 g) (.obj g.J1 [] :: Mg S) (fun r o=>Va S = none ∧ r = .v .non ∧ o = .obj g.J1 (Xo S.ps) :: Mg S) (fun C fs o=>∃ w,Va S = some w ∧ C = g.Jk ∧ fs = [(("value" : Str),D.str w.s)] ∧ o = .obj g.J1 [] :: Mg S):=fnP rfl fun DA hR hN hX=>by
  show asZ00 g.J1 g.Jk _ DA [some (.obj g.J1 []),some (.v (S .row).d),some (.v (S .fix).d),some (.v (S .gone).d),none,none]
  unfold asZ00
  (repeat' walk_at "vs1")
  have em : M7 [(Sum.inr ("row" : Str),(S .row).d),(Sum.inr ("fix" : Str),(S .fix).d),(Sum.inr ("gone" : Str),(S .gone).d)] = X6 S:=rfl
  rw [em]
  refine JG2 hO (fun hb o5 ρ e=>?_) fun w hb ρ o4 o5 e=>?_
  · subst e
    exact hN _ _ rfl ⟨hb,rfl,rfl⟩
  · subst e
    exact hX _ _ _ _ rfl ⟨w,hb,rfl,rfl,rfl⟩
end
def Bj : List D:=[.str ("Row" : Str),.non,.int 0,.str ("" : Str),.bl true,.lst [],.dic [],.lst [.str ("row" : Str)],.tup [.str ("row" : Str)]]
theorem Zl (F : Wd → List Pc) (w : Wd) : itD (.dic (fmK F)) (.str w.s) = some (.tup (J6 (F w))):=by cases w <;> rfl
theorem L7 {p : Pc} {fs : List Str} (h : p.ok fs = true) : ∃ x y,p.d = .tup [.str x,.str y]:=by
  cases p with
  | ot d=>cases h
  | mk t=>exact ⟨_,_,rfl⟩
  | fd t=>exact ⟨_,_,rfl⟩
theorem JG0 {x y : Str} : PlD 20 (.tup [.str x,.str y]):=fun z hz=>by
  simp at hz
  rcases hz with rfl | rfl <;> trivial
/-- the pieces of a form -/
def FOk (F : Wd → List Pc) : Prop:=∀ w,V0 w.fs (F w) = true
theorem FOk.pc {F : Wd → List Pc} (h : FOk F) {w : Wd} {p : Pc} (hp : p ∈ F w) : p.ok w.fs = true:=by
  have:=h w
  simp only [V0,Bool.and_eq_true,List.all_eq_true] at this
  exact this.1.2 p hp
theorem FOk.len {F : Wd → List Pc} (h : FOk F) (w : Wd) : 1 ≤ (F w).length ∧ (F w).length ≤ 15:=by
  have:=h w
  simp only [V0,Bool.and_eq_true,decide_eq_true_eq] at this
  exact this.1.1
section
variable {EA : AX} {ρ ρ' : J0} {Q : AK} {DA : AEnds} {g : Gm} [Gok g]
theorem JB1 {F : Wd → List Pc} {w : Wd} : Val (SZ0a g) [.v (Ya g.J1 F),.v (.str w.s)] (fun r=>r = .v (.tup (J6 (F w)))):=fnP rfl fun DA hR hN hX=>by
  have cl:=Gok.Gb (g:=g)
  show asZ0a g.K g.J1 g.Jk DA [some (.v (Ya g.J1 F)),some (.v (.str w.s))]
  have hat:=Zl F w
  have hin : (wdsD.any fun z=>deq z (.str w.s)) = true:=by cases w <;> rfl
  have hpl : ∀ z ∈ wdsD,PlD 20 z:=fun z hz=>by
    simp only [wdsD,List.mem_cons,List.not_mem_nil,or_false] at hz
    rcases hz with rfl | rfl | rfl <;> trivial
  unfold wdsD at hin hpl
  unfold asZ0a Ya
  (repeat' walk_at "vs1")
  refine Qu Jh Jh B3 hpl ?_
  rw [hin]
  (repeat' walk_at "vs1")
  unfold rsZ0an2
  (repeat' walk_at "vs1")
  exact hR _ _ _ rfl ⟨rfl,rfl⟩
theorem JKx {F : Wd → List Pc} {w : Wd} {s : Str} (hs : s = w.s) (k : Q (.v (.tup (J6 (F w)))) ρ) : Yp (SZ0a g) [.v (Ya g.J1 F),.v (.str s)] EA ρ Q:=by
  subst hs
  exact Wr rfl JB1 fun r e=>by subst e; exact k
theorem JFb {F : Wd → List Pc} {d : D} (hd : d ∈ Bj) : Rz (SZ0a g) [.v (Ya g.J1 F),.v d] g.Jk [("value",d)]:=fnP rfl fun DA hR hN hX=>by
  show asZ0a g.K g.J1 g.Jk DA [some (.v (Ya g.J1 F)),some (.v d)]
  have hX' : ∀ ρ,fin [0,1] 0 [.v (Ya g.J1 F),.v d] ρ = some [.v (Ya g.J1 F),.v d] → DA.ex g.Jk [("value",d)] ρ:=fun ρ h=>hX _ _ _ _ h ⟨rfl,rfl,rfl⟩
  clear hX hR hN
  unfold asZ0a
  simp only [Bj,List.mem_cons,List.not_mem_nil,or_false] at hd
  rcases hd with rfl | rfl | rfl | rfl | rfl | rfl | rfl | rfl | rfl
  all_goals
    (repeat' walk_at "vs1")
    all_goals first
      | exact hX' _ rfl
      | (refine Qu Jh Jh B3 (fun z hz=>by simp at hz; rcases hz with rfl | rfl | rfl <;> trivial) ?_
         (repeat' walk_at "vs1")
         all_goals first
           | exact hX' _ rfl
           | (exfalso; revert hif; decide))
theorem JMi {F : Wd → List Pc} {d : D} (hd : d ∈ Bj) : Ev (SZ04 g) [.v (Ya g.J1 F),.v d] (.v (.bl true)):=evI rfl fun DA hR hN=>by
  show asZ04 g.K g.J1 g.Jk _ DA [some (.v (Ya g.J1 F)),some (.v d),none,none]
  have T:=JFb (g:=g) (F:=F) hd
  have hR' : ∀ o2 o3,DA.rt (.v (.bl true)) [some (.v (Ya g.J1 F)),some (.v d),o2,o3]:=fun o2 o3=>hR _ _ rfl rfl
  unfold asZ04
  (repeat' walk_at "vs1")
  unfold rsZ04n2
  (repeat' walk_at "vs1")
  refine kRz rfl T ?_
  refine JWx (Gok.JUf (g:=g)) (fun z=>nomatch z) (Nat.le_of_ble_eq_true rfl) ?_
  (simp only [Y7,give,List.set_cons_zero,List.set_cons_succ])
  have eqd : ∀ (ρ : J0) (Q : AK),Q (.v (.bl true)) ρ → Fo (.v d) (.v d) ρ Q:=fun ρ Q k=>by
    by_cases he : d = .dic []
    · subst he
      exact JG1 (JW0 Jh Jh (fun _ h=>nomatch h) (fun _ h=>nomatch h) List.nodup_nil k)
    · have hp : PlD 20 d:=by
        simp only [Bj,List.mem_cons,List.not_mem_nil,or_false] at hd
        rcases hd with rfl | rfl | rfl | rfl | rfl | rfl | rfl | rfl | rfl
        all_goals first
          | trivial
          | exact absurd rfl he
          | (intro x hx; simp at hx; done)
          | (intro x hx; simp at hx; subst hx; trivial)
      refine JHc (Kh Jh Jh hp hp ?_)
      rw [Fi _ _ hp]
      exact k
  (repeat' walk_at "vs1")
  refine eqd _ _ ?_
  (repeat' walk_at "vs1")
  unfold rsZ04n3
  (repeat' walk_at "vs1")
  exact hR' _ _
theorem JFq {F : Wd → List Pc} {d : D} (hd : d ∈ Bj) (k : Q (.v (.bl true)) ρ) : Yp (SZ04 g) [.v (Ya g.J1 F),.v d] EA ρ Q:=kEv rfl (JMi hd) k
theorem JMn {F : Wd → List Pc} (hF : FOk F) : Val (SZ0f g) [.v (Ya g.J1 F),.dic (fmK F)] (fun r=>r = .v (.bl true)):=fnP rfl fun DA hR hN hX=>by
  show asZ0f g.K g.J1 _ _ DA [some (.v (Ya g.J1 F)),some (.dic (fmK F)),none,none,none,none]
  have hR' : ∀ ρ,fin [0,1] 0 [.v (Ya g.J1 F),.dic (fmK F)] ρ = some [.v (Ya g.J1 F),.dic (fmK F)] → DA.rt (.v (.bl true)) ρ:=fun ρ h=>hR _ _ _ h ⟨rfl,rfl⟩
  clear hR hN hX
  have cl:=Gok.Gb (g:=g)
  unfold asZ0f
  (repeat' walk_at "vs1")
  refine ⟨wdsD,rfl,?_⟩
  refine X0 (fun w : Wd=>D.str w.s) (fun r ρ=>∃ o2 o3 o4,ρ = [some (.v (Ya g.J1 F)),some (.dic (fmK F)),o2,o3,o4,none]) ?_ ?_ wrds _ ⟨_,_,_,rfl⟩
  · rintro ρ ⟨o2,o3,o4,rfl⟩
    refine ⟨trivial,?_⟩
    unfold rsZ0fn2
    (repeat' walk_at "vs1")
    refine ⟨Bj,rfl,F2 rfl,Dy (fun _=>true) (fun _=>.bl true) (xs:=Bj) trivial (by decide) (fun d hd R N hR2 hN2=>?_) ?_⟩
    · (repeat' walk_at "vs1")
      refine JFq hd ?_
      (repeat' walk_at "vs1")
      exact hR2 _ rfl rfl
    · rw [Dc]
      (repeat' walk_at "vs1")
      refine P5 (bs:=[true,true,true,true,true,true,true,true,true]) rfl ?_
      (repeat' walk_at "vs1")
      exact hR' _ rfl
  · rintro w r ρ ⟨o2,o3,o4,rfl⟩ K ih
    refine ⟨trivial,?_⟩
    have hat:=Zl F w
    have hln : Uh (.tup (J6 (F w))) = some (F w).length:=by simp [Uh,J6]
    have hl15:=(hF.len w).2
    unfold bdZ0fn2
    (repeat' walk_at "vs1")
    refine JKx rfl ?_
    (repeat' walk_at "vs1")
    · exfalso
      simp [deq] at hif
    refine JV0 ?_
    (repeat' walk_at "vs1")
    refine ⟨_,((F w).length : Nat),rfl,rfl,by omega,by omega,?_⟩
    have e0 : W7 0 (Int.toNat ((F w).length : Nat)) = W7 0 (F w).length:=by simp
    rw [e0]
    refine JF2 (n:=(F w).length) (fun k ρ=>∃ o4,ρ = [some (.v (Ya g.J1 F)),some (.dic (fmK F)),some (.v (.str w.s)),some (.v (.tup (J6 (F w)))),o4,none]) ?_ ?_ ⟨_,rfl⟩
    · rintro ρ ⟨o4,rfl⟩
      refine ⟨trivial,?_⟩
      (simp only [Y7,give,List.set_cons_zero,List.set_cons_succ])
      exact ih _ ⟨_,_,_,rfl⟩
    · rintro k ρ hk ⟨o4,rfl⟩ K2 ih2
      refine ⟨trivial,?_⟩
      obtain ⟨p,hp⟩ : ∃ p,(F w)[k]? = some p:=⟨_,List.getElem?_eq_getElem hk⟩
      have hpm:=List.mem_of_getElem? hp
      have hit : itD (.tup (J6 (F w))) (.int (k : Nat)) = some p.d:=by
        show atI _ _ = _
        rw [Gk (by simpa [J6] using hk)]
        simp [J6,hp]
      obtain ⟨x,y,e⟩:=L7 (hF.pc hpm)
      rw [e] at hit
      have hpl : PlD 20 (.tup [.str x,.str y]):=JG0
      unfold bdZ0fn1
      (repeat' walk_at "vs1")
      · exfalso
        rw [Fi _ _ hpl] at hif
        cases hif
      · exact ih2 _ ⟨_,rfl⟩
theorem Ao {i : Nat} {F : Wd → List Pc} (hF : FOk F) (hi : ρ[i]? = some (some (.dic (fmK F)))) (k : Q (.v (.bl true)) ρ) : Yp (SZ0f g) [.v (Ya g.J1 F),.loc i] EA ρ Q:=by
  refine Wr (ρ':=ρ.set i none) (by simp only [pass,hi]) (JMn hF) fun r e=>?_
  subst e
  exact k
end
abbrev Tgs:=Wd → Option V
def itS (s : Sh) (t : Option V) : A:=match s,t with
  | .l ps,some w=>.cel w (.lst (J6 ps))
  | s,_=>s.a
def shK (S : Shs) (T : Tgs) : List (Key × A):=[(.inr ("row" : Str),itS (S .row) (T .row)),(.inr ("fix" : Str),itS (S .fix) (T .fix)),(.inr ("gone" : Str),itS (S .gone) (T .gone))]
def shN (S : Shs) (T : Tgs) : A:=.nd (shK S T)
def noT : Tgs:=fun _=>none
noncomputable def Tgs.set (T : Tgs) (w : Wd) (v : V) : Tgs:=fun w'=>@ite _ (w' = w) (Classical.propDecidable _) (some v) (T w')
theorem set_same {ρ : J0} {j : Nat} {x : A} (h : ρ[j]? = some (some x)) : ρ.set j (some x) = ρ:=by
  refine List.ext_getElem? fun i=>?_
  by_cases e : j = i
  · subst e
    rw [List.getElem?_set_self (by obtain ⟨h1,_⟩:=List.getElem?_eq_some_iff.mp h; exact h1),h]
  · rw [List.getElem?_set_ne e]
theorem Lu (s : Sh) : itS s none = s.a:=by cases s <;> rfl
theorem JBw (s : Sh) (t : Option V) : U4 (itS s t) = s.a:=by cases s <;> cases t <;> rfl
theorem Wk (S : Shs) (T : Tgs) : U4 (shN S T) = shN S noT:=by
  show A.nd [(_,U4 _),(_,U4 _),(_,U4 _)] = A.nd [(_,itS _ none),(_,itS _ none),(_,itS _ none)]
  simp only [JBw,Lu]
theorem Bh (S : Shs) (T : Tgs) (w : Wd) : itN (shN S T) (.k (.inr w.s)) = some (itS (S w) (T w)):=by cases w <;> rfl
theorem JLx (S : Shs) (T : Tgs) (w : Wd) (v : V) {ps : List Pc} (h : S w = .l ps) : V2 (shN S T) (.k (.inr w.s)) (.cel v (.lst (J6 ps))) = shN S (T.set w v):=by
  have e : itS (S w) (T.set w v w) = .cel v (.lst (J6 ps)):=by
    rw [h]
    simp [Tgs.set,itS]
  have n : ∀ w',w' ≠ w → T.set w v w' = T w':=fun w' hw=>by simp [Tgs.set,hw]
  rw [← e]
  cases w
  · show A.nd [_,_,_] = A.nd [_,_,_]
    rw [n .fix (fun h=>nomatch h),n .gone (fun h=>nomatch h)]
  · show A.nd [_,_,_] = A.nd [_,_,_]
    rw [n .row (fun h=>nomatch h),n .gone (fun h=>nomatch h)]
  · show A.nd [_,_,_] = A.nd [_,_,_]
    rw [n .row (fun h=>nomatch h),n .fix (fun h=>nomatch h)]
/-- what a name or an argument tells of the shape of a word -/
def RefS (S : Shs) (j : Nat) (w : Wd) (T : Tgs) (x : A) : Prop:=(x = .v (S w).d ∧ (S w).a = .v (S w).d) ∨ ∃ v ps,x = .pth j [.k (.inr w.s)] v ∧ S w = .l ps ∧ T w = some v
theorem RefS.up {S : Shs} {j : Nat} {w : Wd} {T T' : Tgs} {x : A} (h : RefS S j w T x) (ht : ∀ w v,T w = some v → T' w = some v) : RefS S j w T' x:=by
  rcases h with h | ⟨v,ps,h1,h2,h3⟩
  · exact .inl h
  · exact .inr ⟨v,ps,h1,h2,ht _ _ h3⟩
section
variable {EA : AX} {ρ ρ' : J0} {Q : AK} {DA : AEnds} {g : Gm} [Gok g]
theorem RefS.lend {S : Shs} {j : Nat} {w : Wd} {T : Tgs} {x : A} (h : RefS S j w T x) (hj : ρ[j]? = some (some (shN S T))) : Wp x ρ = some (S w).d:=by
  rcases h with ⟨rfl,_⟩ | ⟨v,ps,rfl,h2,h3⟩
  · rfl
  · have h1 : (shN S T).at [.k (.inr w.s)] = some (.cel v (.lst (J6 ps))):=by
      show (itN (shN S T) _).bind _ = _
      rw [Bh,h2,h3]
      rfl
    rw [h2]
    exact JKc hj h1 rfl rfl
theorem RefS.lend0 {S : Shs} {j : Nat} {w : Wd} {T : Tgs} {x : A} (h : RefS S j w T x) (hj : ρ[j]? = some (some (shN S T))) : Wx x ρ = some (S w).d:=by
  rcases h with ⟨rfl,_⟩ | ⟨v,ps,rfl,h2,h3⟩
  · rfl
  · have h1 : (shN S T).at [.k (.inr w.s)] = some (.cel v (.lst (J6 ps))):=by
      show (itN (shN S T) _).bind _ = _
      rw [Bh,h2,h3]
      rfl
    rw [h2]
    exact JKb hj h1 rfl
theorem Xu {S : Shs} {j : Nat} {w : Wd} {T : Tgs} {y : A} (hj : ρ[j]? = some (some (shN S T))) (hy : dat y ρ = some (.str w.s)) (k : ∀ x T',RefS S j w T' x → (∀ w v,T w = some v → T' w = some v) → Q x (ρ.set j (some (shN S T')))) : Vi (.loc j) y ρ Q:=by
  have same : ρ.set j (some (shN S T)) = ρ:=set_same hj
  have val : (S w).a = .v (S w).d → Vi (.loc j) y ρ Q:=fun e=>by
    refine P7 (st:=.k (.inr w.s)) hj hy rfl ?_ (same ▸ k (.v (S w).d) T (.inl ⟨rfl,e⟩) fun _ _ h=>h)
    rw [Bh]
    cases hs : S w with
    | l ps=>rw [hs] at e; cases e
    | t ps=>rfl
    | o d=>rfl
  cases hs : S w with
  | t ps=>exact val (by rw [hs]; rfl)
  | o d=>exact val (by rw [hs]; rfl)
  | l ps =>
    cases ht : T w with
    | some v =>
      refine Oo (st:=.k (.inr w.s)) (z:=.lst (J6 ps)) hj hy rfl ?_ (same ▸ k _ T (.inr ⟨v,ps,rfl,hs,ht⟩) fun _ _ h=>h)
      rw [Bh,hs,ht]
      rfl
    | none =>
      refine Hk (st:=.k (.inr w.s)) (z:=.lst (J6 ps)) hj hy rfl ?_ rfl fun v=>?_
      · rw [Bh,hs,ht]
        rfl
      · rw [JLx S T w v hs]
        refine k _ _ (.inr ⟨v,ps,rfl,hs,by simp [Tgs.set]⟩) fun w' v' h'=>?_
        have : w' ≠ w:=fun e=>by
          subst e
          rw [ht] at h'
          cases h'
        simp [Tgs.set,this,h']
theorem Ng {S : Shs} (hO : ∀ w,(S w).Ok) (hb : Va S = none) : Mks (SZ00 g) g.J1 ([(S .row).d,(S .fix).d,(S .gone).d].map A.v) (.obj g.J1 (Xo S.ps)) :=
  ⟨(F8 (g:=g) hO).pre,fun r o p=>((F8 (g:=g) hO).po r o p).2,fun C fs o p=>by
    obtain ⟨w,hw,_⟩:=(F8 (g:=g) hO).ex C fs o p
    rw [hb] at hw
    cases hw⟩
theorem JHe {S : Shs} {w : Wd} (hO : ∀ w,(S w).Ok) (hb : Va S = some w) : Sat (SZ00 g) (.obj g.J1 [] :: [(S .row).d,(S .fix).d,(S .gone).d].map A.v) (fun _ _=>False) (fun C' fs' o=>C' = g.Jk ∧ fs' = [(("value" : Str),D.str w.s)] ∧ o = .obj g.J1 [] :: [(S .row).d,(S .fix).d,(S .gone).d].map A.v) :=
  ⟨(F8 (g:=g) hO).pre,(fun r o p=>by
    have:=((F8 (g:=g) hO).po r o p).1
    rw [hb] at this
    cases this),fun C fs o p=>by
    obtain ⟨w',hw,h⟩:=(F8 (g:=g) hO).ex C fs o p
    rw [hb] at hw
    cases hw
    exact h⟩
theorem JYx {fs : List Str} : ∀ {ps : List Pc},(∀ p ∈ ps,p.ok fs = true) → X5 (J6 ps) = true
  | [],_=>rfl
  | p :: ps,h=>by
    obtain ⟨x,y,e⟩:=L7 (h p (List.mem_cons_self ..))
    have ih:=JYx (ps:=ps) fun q hq=>h q (List.mem_cons_of_mem _ hq)
    show (nlD p.d && X5 (J6 ps)) = true
    rw [ih,e]
    rfl
theorem Oz {S : Shs} (h : Va S = none) (w : Wd) : (S w).ok w.fs = true:=by
  unfold Va at h
  split at h
  · cases h
  · split at h
    · cases h
    · split at h
      · cases h
      · rename_i h1 h2 h3
        cases w
        · simpa using h1
        · simpa using h2
        · simpa using h3
theorem Ac {S : Shs} (h : Va S = none) : FOk S.ps:=fun w=>by
  have:=Oz h w
  show V0 w.fs (S w).ps = true
  cases hs : S w with
  | o d=>rw [hs] at this; cases this
  | l ps=>rw [hs] at this; exact this
  | t ps=>rw [hs] at this; exact this
theorem Nz {C : Addr} {F : Wd → List Pc} (h : FOk F) : nlA (.obj C (Xo F)) = true:=by
  have e : ∀ w,X5 (J6 (F w)) = true:=fun w=>JYx fun p hp=>h.pc hp
  simp [nlA,Gj,Xo,nlD,F0,fmK,e]
def Zb (C : Addr) (S : Shs) : D:=match Va S with
  | none=>.tup [Ya C S.ps,.str ("" : Str),.bl true]
  | some w=>.tup [.non,.str w.s,.bl true]
theorem JMp {S : Shs} (hO : ∀ w,(S w).Ok) : Val (SZ0g g) [shN S noT] (fun r=>r = .v (Zb g.J1 S)):=fnP rfl fun DA hR hN hX=>by
  show asZ0g g.K g.J1 g.Jk g.Ub _ DA [some (shN S noT),none,none,none,none]
  have hR' : ∀ ρ,fin [0] 0 [shN S noT] ρ = some [shN S noT] → DA.rt (.v (Zb g.J1 S)) ρ:=fun ρ h=>hR _ _ _ h ⟨rfl,rfl⟩
  clear hR hN hX
  unfold asZ0g
  (repeat' walk_at "vs1")
  unfold rsZ0gn2
  (repeat' walk_at "vs1")
  unfold rsZ0gn3
  (repeat' walk_at "vs1")
  unfold rsZ0gn4
  (repeat' walk_at "vs1")
  simp only [Wk]
  refine Xu (w:=.row) rfl Jh fun x1 T1 h1 m1=>?_
  (repeat' walk_at "vs1")
  refine Xu (w:=.fix) rfl Jh fun x2 T2 h2 m2=>?_
  (repeat' walk_at "vs1")
  refine Xu (w:=.gone) rfl Jh fun x3 T3 h3 m3=>?_
  (repeat' walk_at "vs1")
  have g1 : RefS S 0 .row T3 x1:=(h1.up m2).up m3
  have g2 : RefS S 0 .fix T3 x2:=h2.up m3
  have hd:=X2 (ρ:=[some (shN S T3),some (A.v .non),some (.v (.str ("" : Str))),some (.v (.bl true)),none]) (g1.lend rfl) (X2 (g2.lend rfl) (X2 (h3.lend rfl) Pl))
  cases hb : Va S with
  | none =>
    have e : Zb g.J1 S = .tup [Ya g.J1 S.ps,.str ("" : Str),.bl true]:=by
      unfold Zb
      rw [hb]
    rw [e] at hR'
    refine O1 hd (Ng hO hb) (Nz (Ac hb)) ?_
    (repeat' walk_at "vs1")
    unfold rsZ0gn5
    (repeat' walk_at "vs1")
    simp only [Wk]
    exact hR' _ rfl
  | some w =>
    have e : Zb g.J1 S = .tup [.non,.str w.s,.bl true]:=by
      unfold Zb
      rw [hb]
    rw [e] at hR'
    refine JLp hd (JHe hO hb) rfl rfl ?_
    refine JWx (Gok.JUf (g:=g)) (fun z=>nomatch z) (Nat.le_of_ble_eq_true rfl) ?_
    (simp only [Y7,give,List.set_cons_zero,List.set_cons_succ])
    (repeat' walk_at "vs1")
    refine P8 (Gok.JW9 (g:=g)) ?_
    (repeat' walk_at "vs1")
    unfold rsZ0gn5
    (repeat' walk_at "vs1")
    simp only [Wk]
    exact hR' _ rfl
end
def Bs : List Pc:=[.ot .non,.ot (.bl true),.ot (.int 3),.ot (.str ("id" : Str)),.fd "when",.mk "",.mk "aaaaaaa",.mk "a\n",.ot (.tup [.str ("mark" : Str),.int 5]),.ot (.lst [.str ("mark" : Str),.str ("a" : Str)]),.ot (.tup [.str ("mark" : Str),.str ("a" : Str),.str ("b" : Str)]),.ot (.tup [.str ("field" : Str),.non]),.ot (.tup [.str ("field" : Str),.lst [.str ("id" : Str)]]),.ot (.tup [.str ("field" : Str)]),.ot (.tup []),.ot (.tup [.str ("Mark" : Str),.str ("a" : Str)]),.ot (.tup [.non,.str ("a" : Str)]),.ot (.dic [(.inr ("mark" : Str),.str ("a" : Str))]),.fd "stream",.fd "id",.ot (.tup [.str ("mark" : Str),.non]),.mk "\t"]
theorem Cb : ∀ p ∈ Bs,p.Ok:=fun p hp=>by
  simp only [Bs,List.mem_cons,List.not_mem_nil,or_false] at hp
  rcases hp with rfl | rfl | rfl | rfl | rfl | rfl | rfl | rfl | rfl | rfl | rfl | rfl | rfl | rfl | rfl | rfl | rfl | rfl | rfl | rfl | rfl | rfl
  all_goals first
    | (simp only [Pc.Ok,otL,List.mem_cons,true_or,or_true]; done)
    | (show Str.length _ ≤ 1000; decide)
section
variable {EA : AX} {ρ ρ' : J0} {Q : AK} {DA : AEnds} {g : Gm} [Gok g]
theorem JB2 {p : A} (hp : U5 p) : Sat (SZ0h g) [p] (fun r o=>∃ z ∈ Bs,∃ p',U5 p' ∧ r = .v z.d ∧ o = [p']) noO:=fnP (by obtain ⟨a,b,c,rfl,_⟩:=hp; rfl) fun DA hR hN hX=>by
  show asZ0h _ DA [some p,none]
  have fin : ∀ o,o = some (A.v (.lst (J6 Bs))) → rsZ0hn4 (SZ0e g) DA [some p,o]:=fun o e=>by
    subst e
    unfold rsZ0hn4
    (repeat' first|((with_reducible apply Vu);rfl;assumption;(first|assumption|decide|omega);(first|assumption|decide|omega);intro zz pp hz0 hz1 hpp)|walk_at "vs1")
    obtain ⟨x,hx,e⟩:=Nl (xs:=J6 Bs) hz0 (by simpa [J6,Bs] using hz1)
    obtain ⟨z,hz,rfl⟩:=List.mem_map.mp hx
    refine Bz Jh Jh e ?_
    (repeat' walk_at "vs1")
    exact hR _ _ _ rfl ⟨z,hz,_,hpp,rfl,rfl⟩
  unfold asZ0h
  (repeat' walk_at "vs1")
  unfold rsZ0hn2
  (repeat' walk_at "vs1")
  all_goals first | exact Nat.le_of_ble_eq_true rfl | skip
  unfold rsZ0hn3
  (repeat' walk_at "vs1")
  all_goals first | exact Nat.le_of_ble_eq_true rfl | skip
  exact fin _ rfl
theorem JVv {i : Nat} {p : A} (hi : ρ[i]? = some (some p)) (hp : U5 p) (k : ∀ z p',z ∈ Bs → U5 p' → Q (.v z.d) (ρ.set i (some p'))) : Yp (SZ0h g) [.loc i] EA ρ Q:=by
  refine Zs (ρ':=ρ.set i none) (JJs hi) (JB2 hp) (fun r ys' q=>?_) (fun _ _ _ h=>h.elim)
  obtain ⟨z,hz,p',hp',rfl,rfl⟩:=q
  show Q _ ((ρ.set i none).set i (some p'))
  rw [JVt]
  exact k z p' hz hp'
theorem S8 (ps : List Pc) (k : Nat) : Vs.cutD (J6 ps) none (some (k : Int)) = J6 (ps.take k):=by
  have h1 : HT.sIx (J6 ps).length 0 none = 0:=rfl
  have h2 : HT.sIx (J6 ps).length (J6 ps).length (some (k : Int)) = min k (J6 ps).length:=HT.sIx_nat _ _ _
  unfold Vs.cutD
  rw [h1,h2]
  simp only [List.drop_zero,Nat.sub_zero,J6,List.length_map,← List.map_take]
  congr 1
  rcases Nat.le_total k ps.length with h | h
  · rw [Nat.min_eq_left h]
  · rw [Nat.min_eq_right h,List.take_of_length_le (Nat.le_refl _),List.take_of_length_le h]
theorem JY9 (ps : List Pc) (k : Nat) (hk : k ≤ ps.length) : Vs.cutD (J6 ps) (some (k : Int)) none = J6 (ps.drop k):=by
  have h1 : HT.sIx (J6 ps).length 0 (some (k : Int)) = min k (J6 ps).length:=HT.sIx_nat _ _ _
  have h2 : HT.sIx (J6 ps).length (J6 ps).length none = (J6 ps).length:=rfl
  have h3 : (J6 ps).length = ps.length:=by simp [J6]
  unfold Vs.cutD
  rw [h1,h2,h3,Nat.min_eq_left hk,List.take_of_length_le (by simp [J6])]
  simp [J6,List.map_drop]
theorem L1 {ps : List Pc} (h : ∀ p ∈ ps,p.Ok) (k : Nat) : ∀ p ∈ ps.take k,p.Ok:=fun p hp=>h p (List.mem_of_mem_take hp)
theorem Kd {ps : List Pc} (h : ∀ p ∈ ps,p.Ok) (k : Nat) : ∀ p ∈ ps.drop k,p.Ok:=fun p hp=>h p (List.mem_of_mem_drop hp)
theorem Be {ps qs : List Pc} (h : ∀ p ∈ ps,p.Ok) (h2 : ∀ p ∈ qs,p.Ok) : ∀ p ∈ ps ++ qs,p.Ok:=fun p hp=>by
  rcases List.mem_append.mp hp with hp | hp
  · exact h p hp
  · exact h2 p hp
theorem Qf {p : Pc} (h : p.Ok) : ∀ q ∈ [p],q.Ok:=fun q hq=>by
  have e : q = p:=by simpa using hq
  rw [e]
  exact h
/-- what may come of a shape -/
def Sh.Sp : Sh → Prop
  | .l ps=>ps.length ≤ 20 ∧ ∀ p ∈ ps,p.Ok
  | .t ps=>ps = []
  | .o d=>d ∈ shL
theorem JGc {p : A} {ps : List Pc} (hp : U5 p) (h0 : 1 ≤ ps.length) (h1 : ps.length ≤ 13) (hok : ∀ p ∈ ps,p.Ok) : Sat (SZ05 g) [p,.lst (J6 ps)] (fun r o=>∃ p' s,U5 p' ∧ Sh.Sp s ∧ r = s.a ∧ o = [p',.lst (J6 ps)]) noO:=fnP (by obtain ⟨a,b,c,rfl,_⟩:=hp; rfl) fun DA hR hN hX=>by
  show asZ05 _ _ DA [some p,some (.lst (J6 ps)),none,none,none,none]
  have hln : (J6 ps).length = ps.length:=by simp [J6]
  have hRl : ∀ p qs o2 o3 o4 o5,U5 p → qs.length ≤ 20 → (∀ p ∈ qs,p.Ok) → DA.rt (.lst (J6 qs)) [some p,some (.lst (J6 ps)),o2,o3,o4,o5]:=fun p qs o2 o3 o4 o5 h1 h2 h3=>hR _ _ _ rfl ⟨p,.l qs,h1,⟨h2,h3⟩,rfl,rfl⟩
  have hRs : ∀ p s o2 o3 o4 o5,U5 p → Sh.Sp s → DA.rt s.a [some p,some (.lst (J6 ps)),o2,o3,o4,o5]:=fun p s o2 o3 o4 o5 h1 h2=>hR _ _ _ rfl ⟨p,s,h1,h2,rfl,rfl⟩
  unfold asZ05
  (repeat' walk_at "vs1")
  unfold rsZ05n2
  (repeat' walk_at "vs1")
  refine Vu rfl hp (by decide) (by decide) fun c p hc0 hc1 hp=>?_
  (repeat' walk_at "vs1")
  unfold rsZ05n3
  (repeat' walk_at "vs1")
  refine Vu rfl hp (by omega) (by omega) fun z p hz0 hz1 hp=>?_
  (repeat' walk_at "vs1")
  obtain ⟨k,rfl⟩ : ∃ k : Nat,z = (k : Nat):=⟨z.toNat,by omega⟩
  have hk : k < ps.length:=by omega
  obtain ⟨q,hq⟩ : ∃ q,ps[k]? = some q:=⟨_,List.getElem?_eq_getElem hk⟩
  have hqm:=List.mem_of_getElem? hq
  have hit : itD (.lst (J6 ps)) (.int (k : Nat)) = some q.d:=by
    show atI _ _ = _
    rw [Gk (by omega)]
    simp [J6,hq]
  have ct:=S8 ps k
  have cd:=JY9 ps k (by omega)
  have cd1 : Vs.cutD (J6 ps) (some ((k : Int) + 1)) none = J6 (ps.drop (k + 1)):=by
    have:=JY9 ps (k + 1) (by omega)
    push_cast at this
    exact this
  have lt : (J6 (ps.take k)).length ≤ 13:=by simp [J6]; omega
  have ld : (J6 (ps.drop k)).length ≤ 13:=by simp [J6]; omega
  have ld1 : (J6 (ps.drop (k + 1))).length ≤ 13:=by simp [J6]; omega
  have hqo:=hok q hqm
  have hc : c = 0 ∨ c = 1 ∨ c = 2 ∨ c = 3 ∨ c = 4 ∨ c = 5:=by omega
  unfold rsZ05n4
  rcases hc with rfl | rfl | rfl | rfl | rfl | rfl
  · (repeat' first|((with_reducible apply Vu);rfl;assumption;(first|assumption|decide|omega);(first|assumption|decide|omega);intro zz pp hz0 hz1 hpp)|walk_at "vs1")
    obtain ⟨d,hd,e⟩:=Nl (xs:=[D.non,.str ("id" : Str),.dic [],.int 7,.tup []]) hz0 (by simpa using hz1)
    refine Bz Js Jh e ?_
    (repeat' walk_at "vs1")
    have hd2 : d ∈ shL ∨ d = .tup []:=by
      simp only [List.mem_cons,List.not_mem_nil,or_false] at hd
      rcases hd with rfl | rfl | rfl | rfl | rfl <;> simp [shL]
    rcases hd2 with hd2 | rfl
    · exact hRs _ (.o d) _ _ _ _ hpp hd2
    · exact hRs _ (.t []) _ _ _ _ hpp rfl
  · (repeat' walk_at "vs1")
    unfold rsZ05n5
    (repeat' first|((with_reducible apply Vu);rfl;assumption;(first|assumption|decide|omega);(first|assumption|decide|omega);intro zz pp hz0 hz1 hpp)|walk_at "vs1")
    · rw [ct,cd1]
      omega
    rw [ct,cd1]
    have e : J6 (ps.take k) ++ J6 (ps.drop (k + 1)) = J6 (ps.take k ++ ps.drop (k + 1)):=by simp [J6]
    rw [e]
    exact hRl _ _ _ _ _ _ hp (by simp; omega) (Be (L1 hok _) (Kd hok _))
  · (repeat' walk_at "vs1")
    unfold rsZ05n5
    (repeat' walk_at "vs1")
    unfold rsZ05n6
    (repeat' first|((with_reducible apply Vu);rfl;assumption;(first|assumption|decide|omega);(first|assumption|decide|omega);intro zz pp hz0 hz1 hpp)|walk_at "vs1")
    · rw [ct]
      simp only [List.length_cons,List.length_nil]
      omega
    · rw [ct,cd,List.length_append]
      simp only [List.length_cons,List.length_nil]
      omega
    rw [ct,cd]
    have e : J6 (ps.take k) ++ [q.d] ++ J6 (ps.drop k) = J6 (ps.take k ++ [q] ++ ps.drop k):=by simp [J6]
    rw [e]
    exact hRl _ _ _ _ _ _ hp (by simp; omega) (Be (Be (L1 hok _) (Qf hqo)) (Kd hok _))
  · (repeat' walk_at "vs1")
    unfold rsZ05n5
    (repeat' walk_at "vs1")
    unfold rsZ05n6
    (repeat' walk_at "vs1")
    unfold rsZ05n7
    (repeat' first|((with_reducible apply Vu);rfl;assumption;(first|assumption|decide|omega);(first|assumption|decide|omega);intro zz pp hz0 hz1 hpp)|walk_at "vs1")
    refine JVv rfl hp fun z p hz hp=>?_
    (repeat' walk_at "vs1")
    refine Oe rfl Jh (y':=.lst (J6 (ps.set k z))) ?_ ?_ ?_
    · show B6 (.lst (J6 ps)) (.int (k : Nat)) z.d = _
      have hx : ixN (J6 ps).length (k : Int) = some k:=by
        unfold ixN
        rw [if_pos (by omega),if_pos (by omega)]
        simp
      simp only [B6,hx,Option.map_some]
      simp [J6,List.map_set]
    · show 0 ≤ 100000
      omega
    (simp only [Y7,give,List.set_cons_zero,List.set_cons_succ])
    unfold rsZ05n8
    (repeat' walk_at "vs1")
    unfold rsZ05n9
    (repeat' walk_at "vs1")
    unfold rsZ05n10
    (repeat' walk_at "vs1")
    exact hRl _ _ _ _ _ _ hp (by simp; omega) fun x hx=>by
      rcases List.mem_or_eq_of_mem_set hx with hx | hx
      · exact hok x hx
      · rw [hx]
        exact Cb z hz
  · (repeat' walk_at "vs1")
    unfold rsZ05n5
    (repeat' walk_at "vs1")
    unfold rsZ05n6
    (repeat' walk_at "vs1")
    unfold rsZ05n7
    (repeat' walk_at "vs1")
    unfold rsZ05n8
    (repeat' first|((with_reducible apply Vu);rfl;assumption;(first|assumption|decide|omega);(first|assumption|decide|omega);intro zz pp hz0 hz1 hpp)|walk_at "vs1")
    refine JVv rfl hp fun z p hz hp=>?_
    (repeat' walk_at "vs1")
    · exact ⟨by omega,by omega,by omega⟩
    (simp only [Y7,give,List.set_cons_zero,List.set_cons_succ])
    have e : List.take ((k : Int)).toNat (J6 ps) ++ [z.d] ++ List.drop ((k : Int)).toNat (J6 ps) = J6 (ps.take k ++ [z] ++ ps.drop k):=by simp [J6]
    rw [e]
    unfold rsZ05n9
    (repeat' walk_at "vs1")
    unfold rsZ05n10
    (repeat' walk_at "vs1")
    exact hRl _ _ _ _ _ _ hp (by simp; omega) (Be (Be (L1 hok _) (Qf (Cb z hz))) (Kd hok _))
  · (repeat' walk_at "vs1")
    unfold rsZ05n5
    (repeat' walk_at "vs1")
    unfold rsZ05n6
    (repeat' walk_at "vs1")
    unfold rsZ05n7
    (repeat' walk_at "vs1")
    unfold rsZ05n8
    (repeat' walk_at "vs1")
    unfold rsZ05n9
    (repeat' first|((with_reducible apply Vu);rfl;assumption;(first|assumption|decide|omega);(first|assumption|decide|omega);intro zz pp hz0 hz1 hpp)|walk_at "vs1")
    · rw [hln]
      simp only [List.length_cons,List.length_nil]
      omega
    all_goals obtain ⟨m,hm⟩ : ∃ m : Nat,(15 + zz - ↑(J6 ps).length).toNat = m:=⟨_,rfl⟩
    all_goals
      have hm16 : m + ps.length ≤ 16:=by omega
      have efl : (List.replicate m [D.tup [D.str ("mark" : Str),D.str ("a" : Str)]]).flatten = J6 (List.replicate m (.mk "a")):=by
        simp [J6,List.flatten_replicate_singleton,Pc.d]
      have lrl : (J6 (List.replicate m (.mk "a"))).length = m:=by simp [J6]
      rw [hm,efl]
    · rw [ct,lrl]
      omega
    · rw [ct,cd,List.length_append,lrl]
      omega
    rw [ct,cd]
    have e : J6 (ps.take k) ++ J6 (List.replicate m (.mk "a")) ++ J6 (ps.drop k) = J6 (ps.take k ++ List.replicate m (.mk "a") ++ ps.drop k):=by simp [J6]
    rw [e]
    (repeat' walk_at "vs1")
    unfold rsZ05n10
    (repeat' walk_at "vs1")
    refine hRl _ _ _ _ _ _ hpp (by simp; omega) (Be (Be (L1 hok _) fun x hx=>?_) (Kd hok _))
    rw [(List.mem_replicate.mp hx).2]
    show Str.length _ ≤ 1000
    decide
end
section
variable {EA : AX} {ρ ρ' : J0} {Q : AK} {DA : AEnds} {g : Gm} [Gok g]
def sgn : Str:=" !\"#$&'()*+,-./0123456789:;<=>?@ABCDEFGHIJKLMNOPQRSTUVWXYZ[\\]^_`abcdefghijklmnopqrstuvwxyz{|}~"
theorem JLw : Ev (SZ0c g) [] (.v (.str sgn)):=evI rfl fun DA hR hN=>by
  show asZ0c DA [none]
  unfold asZ0c
  (repeat' walk_at "vs1")
  unfold rsZ0cn2
  (repeat' walk_at "vs1")
  · decide
  exact hR _ _ rfl rfl
theorem JBs (k : Q (.v (.str sgn)) ρ) : Yp (SZ0c g) [] EA ρ Q:=kEv rfl JLw k
/-- of two forms -/
theorem JF7 {F G : Wd → List Pc} (hF : FOk F) (hG : FOk G) : Val (SZ06 g) [.v (Ya g.J1 F),.v (Ya g.J1 G)] (fun r=>r = .v (.bl (Xa (fmK F) (fmK G)))):=fnP rfl fun DA hR hN hX=>by
  have cl:=Gok.Gb (g:=g)
  have hk:=Gok.Te (g:=g)
  show asZ06 g.K g.J1 DA [some (.v (Ya g.J1 F)),some (.v (Ya g.J1 G))]
  unfold asZ06 Ya
  (repeat' walk_at "vs1")
  have pl : ∀ {F : Wd → List Pc},FOk F → ∀ p ∈ fmK F,PlD 20 p.2:=fun {F} h p hp=>by
    simp only [fmK,List.mem_cons,List.not_mem_nil,or_false] at hp
    have key : ∀ w,PlD 20 (.tup (J6 (F w))):=fun w x hx=>by
      obtain ⟨q,hq,rfl⟩:=List.mem_map.mp hx
      obtain ⟨a,b,e⟩:=L7 (h.pc hq)
      rw [e]
      intro z hz
      simp at hz
      rcases hz with rfl | rfl <;> trivial
    rcases hp with rfl | rfl | rfl
    · exact key .row
    · exact key .fix
    · exact key .gone
  have nd : ((fmK F).map (·.1)).Nodup:=by
    have : (fmK F).map (·.1) = [.inr ("row" : Str),.inr ("fix" : Str),.inr ("gone" : Str)]:=rfl
    rw [this]
    decide
  refine JW0 Jh Jh (pl hF) (pl hG) nd ?_
  (repeat' walk_at "vs1")
  exact hR _ _ _ rfl ⟨rfl,rfl⟩
theorem GS.ok {most : Int} {w : Wd} {ps : List Pc} (h : GS sgn most w.fs ps) (hm : most ≤ 100) : 1 ≤ ps.length ∧ ps.length ≤ 13 ∧ ∀ p ∈ ps,p.Ok:=by
  have hf : ∀ f ∈ w.fs,f.length ≤ 1000:=by cases w <;> decide
  have hl : 1 ≤ w.fs.length ∧ w.fs.length ≤ 6:=by cases w <;> decide
  have h1:=h.f.length_eq
  have h2 : (Uq ps).length ≤ ps.length:=List.length_filterMap_le ..
  refine ⟨by omega,by have:=h.n; omega,fun p hp=>?_⟩
  rcases h.m p hp with ⟨f,rfl⟩ | ⟨t,rfl,ht⟩
  · refine hf f (h.f.subset ?_)
    simp only [Uq,List.mem_filterMap]
    exact ⟨_,hp,rfl⟩
  · have:=ht.hi
    show t.length ≤ 1000
    omega
end
theorem Sh.Sp.ok {s : Sh} (h : s.Sp) : s.Ok:=by
  cases s with
  | l ps=>exact ⟨by have:=h.1; omega,h.2⟩
  | t ps =>
    have : ps = []:=h
    subst this
    exact ⟨by decide,fun _ h=>nomatch h⟩
  | o d=>exact h
section
variable {EA : AX} {ρ ρ' : J0} {Q : AK} {DA : AEnds} {g : Gm} [Gok g]
def scr (ns : List Int) : A:=.v (.lst (ns.map .int))
def dnK (S : Shs) (dn : List Wd) : List (Key × A):=dn.map fun w=>(.inr w.s,(S w).a)
noncomputable def Shs.put (S : Shs) (w : Wd) (s : Sh) : Shs:=fun x=>@ite _ (x = w) (Classical.propDecidable _) s (S x)
theorem Shs.put_eq {w : Wd} {s : Sh} (S : Shs) : S.put w s w = s:=by simp [Shs.put]
theorem Shs.put_ne {w x : Wd} {s : Sh} (S : Shs) (h : x ≠ w) : S.put w s x = S x:=by simp [Shs.put,h]
theorem JL1 (s : Sh) : U4 s.a = s.a:=by cases s <;> rfl
theorem Oh (S : Shs) : ∀ dn : List Wd,Z2 (dnK S dn) = dnK S dn
  | []=>rfl
  | w :: dn=>by
    show (_,U4 _) :: Z2 (dnK S dn) = (_,_) :: dnK S dn
    rw [JL1,Oh S dn]
theorem Po {dn r : List Wd} {w : Wd} (h : wrds = dn ++ w :: r) : dn = [] ∧ w = .row ∨ dn = [.row] ∧ w = .fix ∨ dn = [.row,.fix] ∧ w = .gone:=by
  rcases dn with _ | ⟨z1,_ | ⟨z2,_ | ⟨z3,z4⟩⟩⟩ <;> simp [wrds] at h ⊢ <;> simp [h]
theorem JX9 {dn r : List Wd} {w : Wd} (h : wrds = dn ++ w :: r) (hw : w ∈ dn) : False:=by
  rcases Po h with ⟨rfl,rfl⟩ | ⟨rfl,rfl⟩ | ⟨rfl,rfl⟩ <;> simp at hw
theorem JL4 {S : Shs} {dn r : List Wd} {w : Wd} {s : Sh} (h : wrds = dn ++ w :: r) : putN (.nd (dnK S dn)) (.str w.s) s.a = some (.nd (dnK (S.put w s) (dn ++ [w]))):=by
  have e:=S.put_eq (w:=w) (s:=s)
  rcases Po h with ⟨rfl,rfl⟩ | ⟨rfl,rfl⟩ | ⟨rfl,rfl⟩
  all_goals
    simp only [dnK,List.map_append,List.map_cons,List.map_nil,e]
    simp [Shs.put]
    rfl
theorem JZ7 {i : Nat} {p : A} {a b c e : D} (hp : ρ[i]? = some (some p)) : pass [.loc i,.v a,.v b,.v c,.v e] ρ = some ([p,.v a,.v b,.v c,.v e],ρ.set i none):=by simp only [pass,hp]
theorem JK7 {i j : Nat} {p q : A} (hp : ρ[i]? = some (some p)) (hq : (ρ.set i none)[j]? = some (some q)) : pass [.loc i,.loc j] ρ = some ([p,q],(ρ.set i none).set j none):=by simp only [pass,hp,hq]
theorem JMz {s : Sh} {i : Nat} {nx : J0 → Prop} (k : nx (ρ.set i (some s.a))) : Z6 s.a ρ i nx:=by
  cases s with
  | l ps=>exact Hr k
  | t ps=>exact K3 k
  | o d=>exact K3 k
theorem JLj {ns : List Int} (hl : ns.length ≤ 63) {dn r : List Wd} {w : Wd} {S : Shs} {o3 o4 : Option A} (hw : wrds = dn ++ w :: r)
    (k : ∀ S' : Shs,(∀ x ∈ dn,S' x = S x) → (S' w).Ok → DA.nx [some (scr ns),some (.nd (dnK S' (dn ++ [w]))),some (.v (.str w.s)),none,none,none,none,none,none,none,none,none,none]) :
    bdZ0ln1 g.K g.J1 (SZ08 g) (SZ09 g) (SZ0c g) (SZ0e g) (SZ05 g) (SZ0g g) (SZ01 g) (SZ0f g) (SZ00 g) (SZ06 g) DA [some (scr ns),some (.nd (dnK S dn)),some (.v (.str w.s)),o3,o4,none,none,none,none,none,none,none,none]:=by
  unfold bdZ0ln1 scr
  (repeat' walk_at "vs1")
  refine ⟨[("row" : Str),("fix" : Str),("gone" : Str)],w.s,rfl,rfl,by cases w <;> decide,?_⟩
  (repeat' walk_at "vs1")
  refine Wr rfl (JM2 (g:=g) hl) fun p hp=>?_
  obtain ⟨a,b,c,rfl,ha⟩:=hp
  have hp : U5 (stA a b c):=⟨a,b,c,rfl,ha⟩
  unfold stA at hp ⊢
  (repeat' walk_at "vs1")
  refine JBs ?_
  (repeat' walk_at "vs1")
  refine Vu rfl hp (by decide) (by decide) fun z p hz0 hz1 hp=>?_
  (repeat' walk_at "vs1")
  refine Zs (JZ7 rfl) (JMx hp (by decide) (by decide) (by decide) (by decide)) (fun r o q=>?_) fun _ _ _ z=>z.elim
  obtain ⟨p,ps,hp,hgs,rfl,rfl⟩:=q
  obtain ⟨h1,h13,hok⟩:=hgs.ok (by decide)
  (simp only [Y7,give,List.set_cons_zero,List.set_cons_succ])
  refine Hr ?_
  (simp only [Y7,give,List.set_cons_zero,List.set_cons_succ])
  with_reducible refine JLf (fun ρ=>∃ p s,U5 p ∧ Sh.Ok s ∧ ρ = [some (.v (.lst (ns.map .int))),some (.nd (dnK S dn)),some (.v (.str w.s)),some p,some s.a,none,none,none,none,none,none,none,none]) (fun k hk=>?_) ?_
  · (repeat' first|((with_reducible apply Vu);rfl;assumption;(first|assumption|decide|omega);(first|assumption|decide|omega);intro zz pp hz0 hz1 hpp)|walk_at "vs1")
    · refine Zs (JK7 rfl rfl) (JGc (by assumption) h1 h13 hok) (fun r o q=>?_) fun _ _ _ z=>z.elim
      obtain ⟨p,s,hp,hs,rfl,rfl⟩:=q
      (simp only [Y7,give,List.set_cons_zero,List.set_cons_succ])
      refine JMz ?_
      exact hk _ ⟨p,s,hp,hs.ok,rfl⟩
    · exact hk _ ⟨_,.l ps,by assumption,⟨by omega,hok⟩,rfl⟩
  · rintro ρ ⟨p,s,hp,hs,rfl⟩
    have fin : ∀ (s : Sh) (z4 : Option A),s.Ok → Fz (.loc 1) (.v (.str w.s)) s.a [some (A.v (D.lst (List.map D.int ns))),some (A.nd (Z2 (dnK S dn))),some (A.v (D.str w.s)),none,z4,none,none,none,none,none,none,none,none] (fun ρ=>DA.nx (unts [1] (List.set ρ 4 none))):=fun s z4 hs=>by
      rw [Oh]
      refine M4 (n':=.nd (dnK (S.put w s) (dn ++ [w]))) rfl Jh (JL4 hw) ?_ ?_
      · show (dnK S dn).length ≤ 100000
        have:=congrArg List.length hw
        simp [wrds] at this
        simp [dnK]
        omega
      · have e:=k (S.put w s) (fun x hx=>S.put_ne (fun e=>by subst e; exact JX9 hw hx)) (by rw [S.put_eq]; exact hs)
        show DA.nx [some (A.v (D.lst (List.map D.int ns))),some (.nd (Z2 (dnK (S.put w s) (dn ++ [w])))),some (A.v (D.str w.s)),none,none,none,none,none,none,none,none,none,none]
        rw [Oh]
        exact e
    cases s with
    | l ps =>
      unfold Sh.a
      (repeat' first|((with_reducible apply Vu);rfl;assumption;(first|assumption|decide|omega);(first|assumption|decide|omega);intro zz pp hz0 hz1 hpp)|walk_at "vs1")
      · exact fin (.t ps) _ ⟨hs.1,hs.2⟩
      · exact fin (.l ps) _ hs
    | t ps =>
      unfold Sh.a
      (repeat' walk_at "vs1")
      exact fin (.t ps) _ hs
    | o d =>
      have hd : d ∈ shL:=hs
      have ht : (tyN d).isSome = true ∧ Vb d "list" = false:=by
        simp only [shL,List.mem_cons,List.not_mem_nil,or_false] at hd
        rcases hd with rfl | rfl | rfl | rfl
        all_goals exact ⟨rfl,rfl⟩
      obtain ⟨ht,hf⟩:=ht
      show Jm _ _ _ [_,_,_,_,some (A.v d),_,_,_,_,_,_,_,_]
      (repeat' walk_at "vs1")
      exact fin (.o d) _ hs
end
theorem JWa {F G : Wd → List Pc} : Xa (fmK F) (fmK G) = (deq (.tup (J6 (F .row))) (.tup (J6 (G .row))) && (deq (.tup (J6 (F .fix))) (.tup (J6 (G .fix))) && (deq (.tup (J6 (F .gone))) (.tup (J6 (G .gone))) && true))):=rfl
theorem Om {F : Wd → List Pc} (h : FOk F) (w : Wd) : PlD 20 (.tup (J6 (F w))):=fun x hx=>by
  obtain ⟨q,hq,rfl⟩:=List.mem_map.mp hx
  obtain ⟨a,b,e⟩:=L7 (h.pc hq)
  rw [e]
  intro z hz
  simp at hz
  rcases hz with rfl | rfl <;> trivial
theorem JBr {F : Wd → List Pc} (h : FOk F) : Xa (fmK F) (fmK F) = true:=by
  rw [JWa,Fi _ _ (Om h _),Fi _ _ (Om h _),Fi _ _ (Om h _)]
  rfl
theorem JHq {F G : Wd → List Pc} {w : Wd} (h : (F w).length ≠ (G w).length) : Xa (fmK F) (fmK G) = false:=by
  have key : ∀ a b : List Pc,a.length ≠ b.length → deq (.tup (J6 a)) (.tup (J6 b)) = false:=fun a b hne=>by
    cases hq : deq (.tup (J6 a)) (.tup (J6 b)) with
    | false=>rfl
    | true =>
      have : (J6 a).length = (J6 b).length:=Ca hq
      simp [J6] at this
      exact absurd this hne
  rw [JWa]
  cases w
  · rw [key _ _ h]
    rfl
  · rw [key _ _ h]
    simp
  · rw [key _ _ h]
    simp
/-- one mark more ahead -/
noncomputable def W4 (F : Wd → List Pc) (w : Wd) : Wd → List Pc:=fun x=>@ite _ (x = w) (Classical.propDecidable _) (.mk "a" :: F x) (F x)
theorem JXr {F : Wd → List Pc} {w : Wd} (h : FOk F) (hl : (F w).length < 15) : FOk (W4 F w):=fun x=>by
  by_cases e : x = w
  · subst e
    have h1:=h x
    have h2 : W4 F x x = .mk "a" :: F x:=by simp [W4]
    rw [h2]
    simp only [V0,Bool.and_eq_true,decide_eq_true_eq,List.all_cons,List.length_cons] at h1 ⊢
    refine ⟨⟨⟨by omega,by omega⟩,⟨(show gmk "a" = true by decide),h1.1.2⟩⟩,?_⟩
    have e2 : Uq (.mk "a" :: F x) = Uq (F x):=rfl
    rw [e2]
    exact h1.2
  · have h2 : W4 F w x = F x:=by simp [W4,e]
    rw [h2]
    exact h x
section
variable {EA : AX} {ρ ρ' : J0} {Q : AK} {DA : AEnds} {g : Gm} [Gok g]
theorem JVi {F G : Wd → List Pc} (hF : FOk F) (hG : FOk G) (k : Q (.v (.bl (Xa (fmK F) (fmK G)))) ρ) : Yp (SZ06 g) [.v (Ya g.J1 F),.v (Ya g.J1 G)] EA ρ Q:=Wr rfl (JF7 hF hG) fun r e=>by subst e; exact k
theorem JFr {F : Wd → List Pc} (w : Wd) : putD (fmK F) (.inr w.s) (.tup (J6 (W4 F w w))) = fmK (W4 F w):=by
  have n : ∀ x,x ≠ w → W4 F w x = F x:=fun x hx=>by simp [W4,hx]
  cases w
  · show _ = [_,_,_]
    rw [n .fix (fun h=>nomatch h),n .gone (fun h=>nomatch h)]
    rfl
  · show _ = [_,_,_]
    rw [n .row (fun h=>nomatch h),n .gone (fun h=>nomatch h)]
    rfl
  · show _ = [_,_,_]
    rw [n .row (fun h=>nomatch h),n .fix (fun h=>nomatch h)]
    rfl
theorem mk_of {S : Shs} {F : Wd → List Pc} (hF : FOk F) (hS : ∀ w,(S w).ps = F w) (hk : ∀ w,S w = .l (F w) ∨ S w = .t (F w)) (hO : ∀ w,∀ p ∈ F w,p.Ok) : (∀ w,(S w).Ok) ∧ Va S = none ∧ Xo S.ps = Xo F:=by
  have hl : ∀ w,(F w).length ≤ 1000:=fun w=>by have:=(hF.len w).2; omega
  refine ⟨fun w=>?_,?_,?_⟩
  · rcases hk w with e | e <;> rw [e] <;> exact ⟨hl w,hO w⟩
  · have hb : ∀ w,(S w).ok w.fs = true:=fun w=>by rcases hk w with e | e <;> rw [e] <;> exact hF w
    unfold Va
    rw [if_neg (by rw [hb]; simp),if_neg (by rw [hb]; simp),if_neg (by rw [hb]; simp)]
  · have : S.ps = F:=funext hS
    rw [this]
theorem Ga {S : Shs} {T : Tgs} {w : Wd} {v : V} {ps : List Pc} (hs : S w = .l ps) (ht : T w = some v) : (shN S T).at [.k (.inr w.s)] = some (.cel v (.lst (J6 ps))):=by
  show (itN (shN S T) _).bind _ = _
  rw [Bh,hs,ht]
  rfl
theorem C3 {S : Shs} {T : Tgs} {w : Wd} {v : V} {ps qs : List Pc} (hs : S w = .l ps) (ht : T w = some v) : (shN S T).upd [.k (.inr w.s)] (.cel v (.lst (J6 qs))) = shN (S.put w (.l qs)) T:=by
  have e1 : (shN S T).upd [.k (.inr w.s)] (.cel v (.lst (J6 qs))) = V2 (shN S T) (.k (.inr w.s)) (.cel v (.lst (J6 qs))):=by
    show (match itN (shN S T) (.k (.inr w.s)) with
      | some x=>_
      | none=>_) = _
    rw [Bh]
    rfl
  have e : itS ((S.put w (.l qs)) w) (T w) = .cel v (.lst (J6 qs)):=by
    rw [S.put_eq,ht]
    rfl
  have n : ∀ w',w' ≠ w → (S.put w (.l qs)) w' = S w':=fun w' hw=>S.put_ne hw
  rw [e1,← e]
  cases w
  · show A.nd [_,_,_] = A.nd [_,_,_]
    rw [n .fix (fun h=>nomatch h),n .gone (fun h=>nomatch h)]
  · show A.nd [_,_,_] = A.nd [_,_,_]
    rw [n .row (fun h=>nomatch h),n .gone (fun h=>nomatch h)]
  · show A.nd [_,_,_] = A.nd [_,_,_]
    rw [n .row (fun h=>nomatch h),n .fix (fun h=>nomatch h)]
theorem JGi {ns : List Int} {S : Shs} {F : Wd → List Pc} {w : Wd} {o11 o12 : Option A} (hF : FOk F) (hO : ∀ w,∀ p ∈ F w,p.Ok) (hS : (S w).ok w.fs = true)
    (k : ∀ S' : Shs,(∀ x,x ≠ w → S' x = S x) → ∀ o2 o11 o12,DA.nx [some (scr ns),some (shN S' noT),o2,none,none,some (.v (Ya g.J1 F)),none,none,none,some (.dic (fmK F)),none,o11,o12]) :
    bdZ0ln3 g.K g.J1 (SZ08 g) (SZ09 g) (SZ0c g) (SZ0e g) (SZ05 g) (SZ0g g) (SZ01 g) (SZ0f g) (SZ00 g) (SZ06 g) DA [some (scr ns),some (shN S noT),some (.v (.str w.s)),none,none,some (.v (Ya g.J1 F)),none,none,none,some (.dic (fmK F)),none,o11,o12]:=by
  have hat:=Zl F w
  have hln : Uh (.tup (J6 (F w))) = some (F w).length:=by simp [Uh,J6]
  have hl15:=hF.len w
  have ct : Vs.cutD (J6 (F w)) none (some 14) = J6 ((F w).take 14):=S8 (F w) 14
  unfold bdZ0ln3
  (repeat' walk_at "vs1")
  · rw [ct]
    simp [J6]
    omega
  · exact Nat.le_of_ble_eq_true rfl
  have hlt : (F w).length < 15:=by
    simp at hif
    omega
  have hw : W4 F w w = .mk "a" :: F w:=by simp [W4]
  have hG:=JXr hF hlt
  have e1 : [D.tup [.str ("mark" : Str),.str ("a" : Str)]] ++ Vs.cutD (J6 (F w)) none (some 14) = J6 (W4 F w w):=by
    rw [ct,List.take_of_length_le (by omega),hw]
    rfl
  rw [e1,JFr]
  obtain ⟨G,hGe⟩ : ∃ G,G = W4 F w:=⟨_,rfl⟩
  rw [← hGe] at hG hw ⊢
  have r1 : itD (.dic (fmK G)) (.str ("row" : Str)) = some (.tup (J6 (G .row))):=Zl G .row
  have r2 : itD (.dic (fmK G)) (.str ("fix" : Str)) = some (.tup (J6 (G .fix))):=Zl G .fix
  have r3 : itD (.dic (fmK G)) (.str ("gone" : Str)) = some (.tup (J6 (G .gone))):=Zl G .gone
  have hOG : ∀ x,∀ p ∈ G x,p.Ok:=fun x p hp=>by
    rw [hGe] at hp
    by_cases e : x = w
    · subst e
      simp only [W4,if_true,List.mem_cons] at hp
      rcases hp with rfl | hp
      · show Str.length _ ≤ 1000
        decide
      · exact hO x p hp
    · simp only [W4,if_neg e] at hp
      exact hO x p hp
  obtain ⟨m1,m2,m3⟩:=mk_of (S:=fun x=>.t (G x)) hG (fun _=>rfl) (fun _=>.inr rfl) hOG
  (repeat' walk_at "vs1")
  refine O1 (X2 Pj (X2 Pj (X2 Pj Pl))) (Ng m1 m2) ?_ ?_
  · rw [m3]
    exact Nz hG
  rw [m3]
  (repeat' walk_at "vs1")
  refine JZ0 Jh Jh ?_
  show Yp (SZ06 g) [.v (Ya g.J1 F),.v (Ya g.J1 G)] _ _ _
  refine JVi hF hG ⟨_,rfl,?_⟩
  rw [JHq (w:=w) (by rw [hw]; simp)]
  (repeat' walk_at "vs1")
  all_goals
    simp only [Wk]
    refine Xu (w:=w) rfl Jh fun x T1 h1 m1=>?_
    rcases h1 with ⟨rfl,ha⟩ | ⟨v,ps,rfl,hs,ht⟩
    · have hnl : Wt g.K (S w).d [.type "list"] false:=by
        cases hs : S w with
        | l ps=>rw [hs] at ha; cases ha
        | t ps=>exact Li rfl (by decide)
        | o d=>rw [hs] at hS; cases hS
      refine Kx Jh hnl ?_
      (repeat' walk_at "vs1")
      show DA.nx [some (scr ns),some (U4 (shN S T1)),none,none,none,some (.v (Ya g.J1 F)),none,none,none,some (.dic (fmK F)),none,none,none]
      rw [Wk]
      exact k S (fun _ _=>rfl) _ _ _
    · refine Kx (b:=true) (Jp rfl (Ga hs ht)) (Li rfl (by decide)) ?_
      (repeat' walk_at "vs1")
      simp only [Wk]
      refine Xu (w:=w) rfl Jh fun x T2 h2 m2=>?_
      have hps : ps.length ≤ 1000:=by
        rw [hs] at hS
        simp only [Sh.ok,V0,Bool.and_eq_true,decide_eq_true_eq] at hS
        have:=hS.1.1.2
        omega
      rcases h2 with ⟨rfl,ha⟩ | ⟨v2,ps2,rfl,hs2,ht2⟩
      · rw [hs] at ha
        cases ha
      · rw [hs] at hs2
        cases hs2
        refine O7 ?_
        (simp only [Y7,give,List.set_cons_zero,List.set_cons_succ])
        (repeat' walk_at "vs1")
        refine N6 (Jp rfl (Ga hs ht2)) ?_
        (repeat' walk_at "vs1")
        have hs3 : (S.put w (.l (ps ++ [.mk "z"]))) w = .l (ps ++ [.mk "z"]):=S.put_eq
        have e3 : J6 ps ++ [D.tup [.str ("mark" : Str),.str ("z" : Str)]] = J6 (ps ++ [.mk "z"]):=by simp [J6,Pc.d]
        refine Gp rfl (Ga hs ht2) (by simp [J6]; omega) ?_
        rw [e3,C3 hs ht2]
        (repeat' walk_at "vs1")
        have e4 : (J6 (ps ++ [.mk "z"])).reverse = J6 (ps ++ [Pc.mk "z"]).reverse:=by simp [J6]
        refine JHs rfl (Ga hs3 ht2) ?_
        rw [e4,C3 hs3 ht2]
        (repeat' walk_at "vs1")
        show DA.nx [some (scr ns),some (U4 (shN _ T2)),none,none,none,some (.v (Ya g.J1 F)),none,none,none,some (.dic (fmK F)),none,none,none]
        rw [Wk]
        refine k _ (fun x hx=>?_) _ _ _
        rw [Shs.put_ne _ hx,Shs.put_ne _ hx]
end
theorem JLh {S : Shs} : A.nd (dnK S wrds) = shN S noT:=by
  show A.nd [(_,(S .row).a),(_,(S .fix).a),(_,(S .gone).a)] = A.nd [(_,itS (S .row) none),(_,itS (S .fix) none),(_,itS (S .gone) none)]
  rw [Lu,Lu,Lu]
  rfl
theorem JF0 {s : Sh} (h : s.Ok) : ∀ p ∈ s.ps,p.Ok:=by
  cases s with
  | l ps=>exact h.2
  | t ps=>exact h.2
  | o d=>exact fun _ h=>nomatch h
/-- the words whose shapes are none,as the law tells them -/
def G0 (S : Shs) : List Wd:=wrds.filter fun w=>!(S w).ok w.fs
theorem JHt {S : Shs} (h : Va S = none) : G0 S = []:=by
  have:=Oz h
  simp [G0,this]
theorem JFv {S : Shs} {w : Wd} (h : Va S = some w) : ∃ r,G0 S = w :: r:=by
  unfold Va at h
  unfold G0 wrds
  split at h
  · cases h
    rename_i h1
    exact ⟨_,by rw [List.filter_cons_of_pos (by rw [h1]; rfl)]⟩
  · rename_i h1
    have h1' : (S .row).ok Wd.row.fs = true:=by simpa using h1
    rw [List.filter_cons_of_neg (by rw [h1']; simp)]
    split at h
    · cases h
      rename_i h2
      exact ⟨_,by rw [List.filter_cons_of_pos (by rw [h2]; rfl)]⟩
    · rename_i h2
      have h2' : (S .fix).ok Wd.fix.fs = true:=by simpa using h2
      rw [List.filter_cons_of_neg (by rw [h2']; simp)]
      split at h
      · cases h
        rename_i h3
        exact ⟨_,by rw [List.filter_cons_of_pos (by rw [h3]; rfl)]⟩
      · cases h
section
variable {EA : AX} {ρ ρ' : J0} {Q : AK} {DA : AEnds} {g : Gm} [Gok g]
theorem JGe {s : Sh} {w : Wd} (hs : s.Ok) : Val (SZ01 g) [.v s.d,.v (.str w.s)] (fun r=>r = .v (.bl (s.ok w.fs))):=by
  cases s with
  | l ps=>exact Rw rfl (by simp [Uh,Sh.d,J6]) rfl rfl hs.1 hs.2
  | t ps=>exact Rw rfl (by simp [Uh,Sh.d,J6]) rfl rfl hs.1 hs.2
  | o d =>
    refine fnP rfl fun DA hR hN hX=>?_
    have hR' : ∀ ρ,fin [0,1] 0 [.v d,.v (.str w.s)] ρ = some [.v d,.v (.str w.s)] → DA.rt (.v (.bl false)) ρ:=fun ρ h=>hR _ _ _ h ⟨rfl,rfl⟩
    clear hR
    have hd : d ∈ shL:=hs
    show asZ01 _ _ _ DA [some (.v d),some (.v (.str w.s)),none,none]
    unfold asZ01
    simp only [shL,List.mem_cons,List.not_mem_nil,or_false] at hd
    rcases hd with rfl | rfl | rfl | rfl
    all_goals
      (repeat' walk_at "vs1")
      exact hR' _ rfl
theorem JKv {S : Shs} {j : Nat} {w : Wd} {T : Tgs} {x : A} (h : RefS S j w T x) (hj : ρ[j]? = some (some (shN S T))) (hs : (S w).ok w.fs = true) (k : Q (.v (.tup (J6 (S w).ps))) ρ) : Zu [x] ρ Q:=by
  rcases h with ⟨rfl,_⟩ | ⟨v,ps,rfl,h2,h3⟩
  · exact JWv hs k
  · refine L6 (Jp hj (Ga h2 h3)) ?_
    rw [h2] at k
    exact k
section
variable {ns : List Int} {S : Shs} {F : Wd → List Pc} (hR : ∀ o1 o2 o3 o4 o5 o6 o7 o8 o9 o10 o11 o12,DA.rt (.v (.bl true)) [some (scr ns),o1,o2,o3,o4,o5,o6,o7,o8,o9,o10,o11,o12])
include hR
theorem JN2 (hF : FOk F) (hO : ∀ w,∀ p ∈ F w,p.Ok) (hS : ∀ w,(S w).ok w.fs = true) {o10 : Option A} : rsZ0ln11 g.K g.J1 (SZ08 g) (SZ09 g) (SZ0c g) (SZ0e g) (SZ05 g) (SZ0g g) (SZ01 g) (SZ0f g) (SZ00 g) (SZ06 g) DA [some (scr ns),some (shN S noT),none,none,none,some (.v (Ya g.J1 F)),none,none,none,some (.dic (fmK F)),o10,none,none]:=by
  unfold rsZ0ln11
  (repeat' walk_at "vs1")
  simp only [Wk]
  refine ⟨wdsD,rfl,?_⟩
  refine X0 (fun w : Wd=>D.str w.s) (fun r ρ=>∃ (S' : Shs) (o2 o11 o12 : Option A),(∃ dn,wrds = dn ++ r) ∧ (∀ w ∈ r,(S' w).ok w.fs = true) ∧ ρ = [some (scr ns),some (shN S' noT),o2,none,none,some (.v (Ya g.J1 F)),none,none,none,some (.dic (fmK F)),none,o11,o12]) ?_ ?_ wrds _ ⟨S,_,_,_,⟨[],rfl⟩,fun w _=>hS w,rfl⟩
  · rintro ρ ⟨S',o2,o11,o12,_,_,rfl⟩
    refine ⟨trivial,?_⟩
    unfold rsZ0ln12
    (repeat' walk_at "vs1")
    refine Ao hF rfl ?_
    (repeat' walk_at "vs1")
    exact hR _ _ _ _ _ _ _ _ _ _ _ _
  · rintro w r ρ ⟨S',o2,o11,o12,⟨dn,hw⟩,hs,rfl⟩ K ih
    refine ⟨trivial,?_⟩
    refine K0 ?_
    (simp only [Y7,give,List.set_cons_zero,List.set_cons_succ])
    refine JGi hF hO (hs w (List.mem_cons_self ..)) fun S2 h2 o2 o11 o12=>?_
    refine ih _ ⟨S2,_,_,_,⟨dn ++ [w],by rw [hw]; simp⟩,fun x hx=>?_,rfl⟩
    rw [h2 x fun e=>?_]
    · exact hs x (List.mem_cons_of_mem _ hx)
    · subst e
      have nd : wrds.Nodup:=by simp [wrds]
      rw [hw] at nd
      exact (List.nodup_cons.mp (List.nodup_append.mp nd).2.1).1 hx
theorem JZ4 (hF : FOk F) (hO : ∀ w,∀ p ∈ F w,p.Ok) (hS : ∀ w,(S w).ok w.fs = true) {o6 : Option A} : rsZ0ln9 g.K g.J1 (SZ08 g) (SZ09 g) (SZ0c g) (SZ0e g) (SZ05 g) (SZ0g g) (SZ01 g) (SZ0f g) (SZ00 g) (SZ06 g) DA [some (scr ns),some (shN S noT),none,none,none,some (.v (Ya g.J1 F)),o6,none,none,some (.dic (fmK F)),none,none,none]:=by
  have r1 : itD (.dic (fmK F)) (.str ("row" : Str)) = some (.tup (J6 (F .row))):=Zl F .row
  have r2 : itD (.dic (fmK F)) (.str ("fix" : Str)) = some (.tup (J6 (F .fix))):=Zl F .fix
  have r3 : itD (.dic (fmK F)) (.str ("gone" : Str)) = some (.tup (J6 (F .gone))):=Zl F .gone
  obtain ⟨m1,m2,m3⟩:=mk_of (S:=fun x=>.l (F x)) hF (fun _=>rfl) (fun _=>.inl rfl) hO
  have eqr : ∀ {g0 : Bool → Bool} {EA : AX} {ρ : J0} {Q : AK},Q (.v (.bl (g0 true))) ρ → Bq g.J1 (SZ06 g) g0 (.v (Ya g.J1 F)) (.v (Ya g.J1 F)) ρ Q:=fun {g0 EA ρ Q} k=>by
    refine JZ0 Jh Jh ?_
    show Yp (SZ06 g) [.v (Ya g.J1 F),.v (Ya g.J1 F)] _ _ _
    refine JVi hF hF ⟨_,rfl,?_⟩
    rw [JBr hF]
    exact k
  unfold rsZ0ln9
  (repeat' walk_at "vs1")
  refine O1 (X2 Q0 (X2 Q0 (X2 Q0 Pl))) (Ng m1 m2) ?_ ?_
  · rw [m3]
    exact Nz hF
  rw [m3]
  (repeat' walk_at "vs1")
  unfold rsZ0ln10
  (repeat' walk_at "vs1")
  refine eqr (EA:=noX) ?_
  (repeat' walk_at "vs1")
  refine eqr (EA:=noX) ?_
  (repeat' walk_at "vs1")
  exact JN2 hR hF hO hS
theorem JMr {T : Tgs} (hF : FOk S.ps) (hO : ∀ w,(S w).Ok) (hS : ∀ w,(S w).ok w.fs = true) : rsZ0ln7 g.K g.J1 (SZ08 g) (SZ09 g) (SZ0c g) (SZ0e g) (SZ05 g) (SZ0g g) (SZ01 g) (SZ0f g) (SZ00 g) (SZ06 g) DA [some (scr ns),some (shN S T),none,none,none,some (.v (Ya g.J1 S.ps)),some (.v (.str ("" : Str))),none,none,some (.dic []),none,none,none]:=by
  have cl:=Gok.Gb (g:=g)
  have hk:=Gok.Te (g:=g)
  unfold rsZ0ln7
  (repeat' walk_at "vs1")
  simp only [Wk]
  refine ⟨wdsD,rfl,?_⟩
  refine X0 (fun w : Wd=>D.str w.s) (fun r ρ=>∃ (dn : List Wd),wrds = dn ++ r ∧ ρ = [some (scr ns),some (shN S noT),none,none,none,some (.v (Ya g.J1 S.ps)),some (.v (.str ("" : Str))),none,none,some (.dic (dn.map fun w=>(.inr w.s,D.tup (J6 (S w).ps)))),none,none,none]) ?_ ?_ wrds _ ⟨[],rfl,rfl⟩
  · rintro ρ ⟨dn,e,rfl⟩
    refine ⟨trivial,?_⟩
    rw [List.append_nil] at e
    subst e
    show rsZ0ln8 g.K g.J1 (SZ08 g) (SZ09 g) (SZ0c g) (SZ0e g) (SZ05 g) (SZ0g g) (SZ01 g) (SZ0f g) (SZ00 g) (SZ06 g) DA [some (scr ns),some (shN S noT),none,none,none,some (.v (Ya g.J1 S.ps)),some (.v (.str ("" : Str))),none,none,some (.dic (fmK S.ps)),none,none,none]
    unfold rsZ0ln8
    (repeat' walk_at "vs1")
    refine Ao hF rfl ?_
    (repeat' walk_at "vs1")
    exact JZ4 hR hF (fun w=>JF0 (hO w)) hS
  · rintro w r ρ ⟨dn,hw,rfl⟩ K ih
    refine ⟨trivial,?_⟩
    have hput : putD (dn.map fun w=>((.inr w.s : Key),D.tup (J6 (S w).ps))) (.inr w.s) (.tup (J6 (S w).ps)) = (dn ++ [w]).map fun w=>(.inr w.s,D.tup (J6 (S w).ps)):=by
      rcases Po hw with ⟨rfl,rfl⟩ | ⟨rfl,rfl⟩ | ⟨rfl,rfl⟩ <;> rfl
    unfold bdZ0ln2
    (repeat' walk_at "vs1")
    simp only [Wk]
    refine Xu (w:=w) rfl Jh fun x T1 h1 m1=>?_
    (repeat' walk_at "vs1")
    refine JKv h1 rfl (hS w) ?_
    (repeat' walk_at "vs1")
    · show (dn.map fun w=>((.inr w.s : Key),D.tup (J6 (S w).ps))).length ≤ 100000
      have:=congrArg List.length hw
      simp [wrds] at this
      simp
      omega
    show K [some (scr ns),some (U4 (shN S T1)),none,none,none,some (.v (Ya g.J1 S.ps)),some (.v (.str ("" : Str))),none,none,some (.dic (putD (dn.map fun w=>((.inr w.s : Key),D.tup (J6 (S w).ps))) (.inr w.s) (.tup (J6 (S w).ps)))),none,none,none]
    rw [hput,Wk]
    exact ih _ ⟨dn ++ [w],by rw [hw]; simp,rfl⟩
theorem JKt {T : Tgs} (hb : Va S = none) (hO : ∀ w,(S w).Ok) : rsZ0ln5 g.K g.J1 (SZ08 g) (SZ09 g) (SZ0c g) (SZ0e g) (SZ05 g) (SZ0g g) (SZ01 g) (SZ0f g) (SZ00 g) (SZ06 g) DA [some (scr ns),some (shN S T),none,none,none,some (.v (Ya g.J1 S.ps)),some (.v (.str ("" : Str))),some (.v (.bl true)),some (.v (.lst [])),none,none,none,none]:=by
  unfold rsZ0ln5
  (repeat' walk_at "vs1")
  unfold rsZ0ln6
  (repeat' walk_at "vs1")
  exact JMr hR (Ac hb) hO (Oz hb)
theorem JZk {T : Tgs} {w : Wd} {r : List Wd} : rsZ0ln5 g.K g.J1 (SZ08 g) (SZ09 g) (SZ0c g) (SZ0e g) (SZ05 g) (SZ0g g) (SZ01 g) (SZ0f g) (SZ00 g) (SZ06 g) DA [some (scr ns),some (shN S T),none,none,none,some (.v .non),some (.v (.str w.s)),some (.v (.bl true)),some (.v (.lst ((w :: r).map fun w=>D.str w.s))),none,none,none,none]:=by
  have h0 : itD (.lst ((w :: r).map fun w=>D.str w.s)) (.int 0) = some (.str w.s):=by
    have h:=Gk (xs:=(w :: r).map fun w=>D.str w.s) (k:=0) (by simp)
    exact h
  have ee : deq (.str w.s) (.str w.s) = true:=Fi _ _ (show PlD 20 (.str w.s) by trivial)
  unfold rsZ0ln5
  (repeat' walk_at "vs1")
  · exact hR _ _ _ _ _ _ _ _ _ _ _ _
  · exfalso
    simp at hif
theorem Tn (hO : ∀ w,(S w).Ok) {x5 x6 : D} (k : ∀ T,rsZ0ln5 g.K g.J1 (SZ08 g) (SZ09 g) (SZ0c g) (SZ0e g) (SZ05 g) (SZ0g g) (SZ01 g) (SZ0f g) (SZ00 g) (SZ06 g) DA [some (scr ns),some (shN S T),none,none,none,some (.v x5),some (.v x6),some (.v (.bl true)),some (.v (.lst ((G0 S).map fun w=>D.str w.s))),none,none,none,none]) : rsZ0ln4 g.K g.J1 (SZ08 g) (SZ09 g) (SZ0c g) (SZ0e g) (SZ05 g) (SZ0g g) (SZ01 g) (SZ0f g) (SZ00 g) (SZ06 g) DA [some (scr ns),some (shN S noT),none,none,none,some (.v x5),some (.v x6),some (.v (.bl true)),none,none,none,none,none]:=by
  unfold rsZ0ln4
  (repeat' walk_at "vs1")
  simp only [Wk]
  refine ⟨wdsD,rfl,F2 rfl,JJi (fun acc r ρ=>∃ dn rs T,wrds = dn ++ rs ∧ r = rs.map (fun w=>D.str w.s) ∧ acc = (dn.filter fun w=>!(S w).ok w.fs).map (fun w=>D.str w.s) ∧ ρ = [some (scr ns),some (shN S T),none,none,none,some (.v x5),some (.v x6),some (.v (.bl true)),none,none,none,none,none]) ?_ ?_ _ _ _ ⟨[],wrds,noT,rfl,rfl,rfl,rfl⟩⟩
  · rintro acc ρ ⟨dn,rs,T,e,e2,rfl,rfl⟩
    have : rs = []:=by cases rs with
      | nil=>rfl
      | cons _ _=>simp at e2
    subst this
    rw [List.append_nil] at e
    subst e
    refine ⟨trivial,?_⟩
    (repeat' walk_at "vs1")
    exact k _
  · rintro acc x xs ρ ⟨dn,rs,T,e,e2,rfl,rfl⟩ ih
    cases rs with
    | nil=>simp at e2
    | cons w rs =>
      simp only [List.map_cons,List.cons.injEq] at e2
      obtain ⟨rfl,rfl⟩:=e2
      refine JL2 trivial ?_
      (repeat' walk_at "vs1")
      refine JLm ?_
      (repeat' walk_at "vs1")
      refine Xu (w:=w) rfl Jh fun x T1 h1 m1=>?_
      (repeat' walk_at "vs1")
      refine JBt (ds:=[(S w).d,.str w.s]) (JGe (hO w)) (JVm (h1.lend0 rfl) (JVm JMd JH6)) (fun r e=>by subst e; rfl) fun r er=>?_
      subst er
      have hln : (dn.filter fun w=>!(S w).ok w.fs).length ≤ 3:=by
        have h1:=congrArg List.length e
        simp [wrds] at h1
        exact Nat.le_trans (List.length_filter_le ..) (by omega)
      (repeat' walk_at "vs1")
      · refine ⟨by simp; omega,ih _ _ ⟨dn ++ [w],rs,T1,by rw [e]; simp,rfl,?_,rfl⟩⟩
        rw [List.filter_append,List.map_append]
        congr 1
        rw [List.filter_cons,if_pos hif]
        rfl
      · refine ih _ _ ⟨dn ++ [w],rs,T1,by rw [e]; simp,rfl,?_,rfl⟩
        rw [List.filter_append,List.map_append]
        rw [List.filter_cons,if_neg hif]
        simp
end
end
section
variable {EA : AX} {ρ ρ' : J0} {Q : AK} {DA : AEnds} {g : Gm} [Gok g]
section
variable {ns : List Int} {S : Shs} (hR : ∀ o1 o2 o3 o4 o5 o6 o7 o8 o9 o10 o11 o12,DA.rt (.v (.bl true)) [some (scr ns),o1,o2,o3,o4,o5,o6,o7,o8,o9,o10,o11,o12])
include hR
theorem JLc (hO : ∀ w,(S w).Ok) {o2 : Option A} : rsZ0ln3 g.K g.J1 (SZ08 g) (SZ09 g) (SZ0c g) (SZ0e g) (SZ05 g) (SZ0g g) (SZ01 g) (SZ0f g) (SZ00 g) (SZ06 g) DA [some (scr ns),some (shN S noT),o2,none,none,none,none,none,none,none,none,none,none]:=by
  unfold rsZ0ln3
  (repeat' walk_at "vs1")
  simp only [Wk]
  refine Wr (JJs rfl) (JMp hO) fun r er=>?_
  subst er
  cases hb : Va S with
  | none =>
    have e : Zb g.J1 S = .tup [Ya g.J1 S.ps,.str ("" : Str),.bl true]:=by
      unfold Zb
      rw [hb]
    rw [e]
    (repeat' walk_at "vs1")
    refine Tn hR hO fun T=>?_
    rw [JHt hb]
    exact JKt hR hb hO
  | some w =>
    have e : Zb g.J1 S = .tup [.non,.str w.s,.bl true]:=by
      unfold Zb
      rw [hb]
    rw [e]
    (repeat' walk_at "vs1")
    refine Tn hR hO fun T=>?_
    obtain ⟨r,er⟩:=JFv hb
    rw [er]
    exact JZk hR
theorem JBg (hl : ns.length ≤ 63) : rsZ0ln2 g.K g.J1 (SZ08 g) (SZ09 g) (SZ0c g) (SZ0e g) (SZ05 g) (SZ0g g) (SZ01 g) (SZ0f g) (SZ00 g) (SZ06 g) DA [some (scr ns),some (.nd []),none,none,none,none,none,none,none,none,none,none,none]:=by
  unfold rsZ0ln2
  (repeat' walk_at "vs1")
  refine ⟨wdsD,rfl,?_⟩
  refine X0 (fun w : Wd=>D.str w.s) (fun r ρ=>∃ (dn : List Wd) (S : Shs) (o2 : Option A),wrds = dn ++ r ∧ (∀ w ∈ dn,(S w).Ok) ∧ ρ = [some (scr ns),some (.nd (dnK S dn)),o2,none,none,none,none,none,none,none,none,none,none]) ?_ ?_ wrds _ ⟨[],fun _=>.o .non,none,rfl,(fun _ h=>nomatch h),rfl⟩
  · rintro ρ ⟨dn,S,o2,e,hO,rfl⟩
    refine ⟨trivial,?_⟩
    rw [List.append_nil] at e
    subst e
    rw [JLh]
    exact JLc hR fun w=>hO w (by cases w <;> simp [wrds])
  · rintro w r ρ ⟨dn,S,o2,hw,hO,rfl⟩ K ih
    refine ⟨trivial,?_⟩
    refine K0 ?_
    (simp only [Y7,give,List.set_cons_zero,List.set_cons_succ])
    refine JLj hl hw fun S' h1 h2=>?_
    refine ih _ ⟨dn ++ [w],S',_,by rw [hw]; simp,fun x hx=>?_,rfl⟩
    rcases List.mem_append.mp hx with hx | hx
    · rw [h1 x hx]
      exact hO x hx
    · have e : x = w:=by simpa using hx
      rw [e]
      exact h2
end
theorem TZ0l {ns : List Int} (hn : ns.length ≤ 63) : Val (SZ0l g) [.v (.lst (ns.map .int))] (fun r=>r = .v (.bl true)):=fnP rfl fun DA hR hN hX=>by
  show asZ0l g.K g.J1 (SZ08 g) (SZ09 g) (SZ0c g) (SZ0e g) (SZ05 g) (SZ0g g) (SZ01 g) (SZ0f g) (SZ00 g) (SZ06 g) DA [some (scr ns),none,none,none,none,none,none,none,none,none,none,none,none]
  unfold asZ0l
  (repeat' walk_at "vs1")
  exact JBg (fun o1 o2 o3 o4 o5 o6 o7 o8 o9 o10 o11 o12=>hR _ _ _ rfl ⟨rfl,rfl⟩) hn
end
end Law
set_option maxHeartbeats 0
namespace Law
open PySem PySem.Spec PyProof.Rows L2 Vs
instance tbsL : Tbs:=⟨fun K=>tfL.map fun p=>((He.cT K p).2,(match p.2 with | some m=>p.1 ++ "." ++ m | none=>p.1) ++ ".<locals>.<lambda>")⟩
theorem Yb (i : Nat) {f : He.Fa} (h : faL[i]? = some f:=by rfl) : f ∈ faL:=List.mem_of_getElem? h
theorem fnAt (i : Nat) {d : He.DefD} (h : fnL[i]? = some d:=by rfl) : d ∈ fnL:=List.mem_of_getElem? h
theorem Yv {K : PySem.W.Frag} (h : exK K = true) (i : Nat) {f : PySem.W.Frag → Bool} (hf : exL[i]? = some f:=by rfl) : f K = true:=List.all_eq_true.mp h f (List.mem_of_getElem? hf)
theorem Ll {K : Fg} {H : Hp} : ∀ ns : List Int,RepL K H (ns.map D.int) (ns.map V.int)
  | []=>by simp only [List.map_nil,RepL]
  | n :: ns=>by
    simp only [List.map_cons,RepL,Rep]
    exact ⟨_,_,rfl,rfl,Ll ns⟩
def gmL (K : PySem.W.Frag) : Gm:=⟨K,He.ga K "Form",He.ga K "BadForm",He.ga K "HallError"⟩
theorem lift_law {K : Fg} {H : Hp} {a : Addr} {ns : List Int} (gk : Gok (gmL K)) (hS : SqL K H a (ns.map V.int)) (hn : ns.length ≤ 63) (hT : ∀ p ∈ tfL.map (He.cT K),H p.2 = some (.tbl #[])) : lift K (SZ0l (gmL K)) [.ref a] H (fun v _=>v = .bl true) fun _ _ _=>False:=by
  have tabs : ∀ b ∈ (Tbs.T K).map (·.1),H b = some (.tbl #[]):=fun b hb=>by
    obtain ⟨q,hq,rfl⟩:=List.mem_map.mp hb
    obtain ⟨r,hr,rfl⟩:=List.mem_map.mp hq
    exact hT _ (List.mem_map.mpr ⟨r,hr,rfl⟩)
  have hS2 : SqL K (U8 H ((Tbs.T K).map (·.1))) a (ns.map V.int):=SqL.but hS fun b o ho e=>by
    rw [U6 (fun z=>by rw [tabs b z] at e; cases e; cases ho)]
    exact e
  have hr : Rep K (U8 H ((Tbs.T K).map (·.1))) (.lst (ns.map D.int)) (.ref a):=by
    simp only [Rep]
    exact ⟨a,_,rfl,hS2,Ll ns⟩
  have T:=TZ0l (g:=gmL K) hn
  refine ⟨⟨fun _=>none,U8 H ((Tbs.T K).map (·.1)),[]⟩,U8 H ((Tbs.T K).map (·.1)),[.v (.lst (ns.map D.int))],rfl,rfl,?_,fun _ _ e=>e,fun _ _ e=>e,T.pre,fun r xs' v H' S' hp _ _ st=>?_,fun C fs xs' dd H' S' he=>(T.ex _ _ _ he).elim⟩
  · refine ⟨⟨[],?_,List.nodup_nil,(fun _ h=>nomatch h)⟩,?_,(fun _ _ h=>nomatch h),Le.of_same (fun b o e=>?_),(fun _ _ e=>nomatch e),(fun _ h=>absurd rfl h),(fun _ _ e=>e),(fun _ h=>nomatch h),fun p hp=>⟨rfl,Wb (List.mem_map.mpr ⟨p,hp,rfl⟩),#[],tabs _ (List.mem_map.mpr ⟨p,hp,rfl⟩),trivial,fun pos cv z=>?_⟩⟩
    · simp [Ji,Jg,RepP,RepA,hr]
    · exact Fs (vs:=[.ref a]) (xs:=[.v (.lst (ns.map D.int))]) rfl fun x hx=>by
        have : x = .v (.lst (ns.map D.int)):=by simpa using hx
        subst this
        rfl
    · by_cases q : b ∈ (Tbs.T K).map (·.1)
      · rw [Wb q] at e; cases e
      · rw [U6 q] at e; exact e
    · have z2 : codeAmong pos [] = some cv:=z
      simp [codeAmong] at z2
  · have e:=(T.po _ _ hp).2
    subst e
    obtain ⟨g,hg⟩:=st.held2 (List.mem_cons_self ..) (y:=.v (.bl true)) rfl
    simp only [RepA,Rep] at hg
    exact hg.1
theorem facts {P : Program} {w : World} {K : PySem.W.Frag} {h : Heap} {mg : Str → Option Value} {f : Addr} (X : K.In h) (G : h.Ns mainGlobals mg) (hfa : mg ("law" : Str) = some (.ref f)) (cx : He.SaysX faL fnL tsL tfL exK w h K) (cg : SaysG gtL K) :
    Gok (gmL K) ∧ ∃ fd : FuncData,(∀ (s : Shared) (v : Value),BindsTo s fd ⟨[v],[]⟩ [("_law_script",v)]) ∧ ∀ base : Heap,K.In base → base.Ns mainGlobals mg → (∀ p ∈ tfL.map (He.cT K),LamX.TabB base mg p.1 p.2) → Fok P w K mg base 7 f fd ["_law_script"] (SZ0l (gmL K)):=by
  have c:=cx.t.d
  have e:=hfa.symm.trans (He.glo_ok X G (c.facts (f:=.glo "law") (Yb 23)))
  cases e
  obtain ⟨fdZ0l,FZ0l⟩:=c.defs (d:=dZ0l) (fnAt 22)
  have b:=FunD.bindsA (ps:=["_law_script"]) FZ0l fun _ _ _ _ _ _ us hl=>match us,hl with | [_],_=>rfl
  have cl_Form:=He.cls_ok (c.facts (f:=.cls "Form") (Yb 39))
  have gk : Gok (gmL K):=⟨Sd cl_Form (Yv cx.more 4),Us (Yv cx.more 20),Us (Yv cx.more 7),Us (Yv cx.more 8),Us (Yv cx.more 10),Us (Yv cx.more 12),Us (Yv cx.more 14),Us (Yv cx.more 16),Us (Yv cx.more 18),Us (Yv cx.more 9),Us (Yv cx.more 11),Us (Yv cx.more 13),Us (Yv cx.more 15),Us (Yv cx.more 17),Us (Yv cx.more 19),He.exm_ok (c.facts (f:=.exm "BadForm" "BadForm" true) (Yb 43)),Us (Yv cx.more 3)⟩
  refine ⟨gk,fdZ0l,fun s v=>b s [v] rfl,fun base _ _ TBs=>?_⟩
  have u_WORDS:=He.glo_ok X G (c.facts (f:=.glo "WORDS") (Yb 3))
  have u_FIELDS:=He.glo_ok X G (c.facts (f:=.glo "FIELDS") (Yb 4))
  have g_isinstance:=He.free_ok X G (c.facts (f:=.free "isinstance") (Yb 31))
  have g_list:=He.free_ok X G (c.facts (f:=.free "list") (Yb 26))
  have g_tuple:=He.free_ok X G (c.facts (f:=.free "tuple") (Yb 28))
  have g_str:=He.free_ok X G (c.facts (f:=.free "str") (Yb 34))
  have g_len:=He.free_ok X G (c.facts (f:=.free "len") (Yb 25))
  have g_all:=He.free_ok X G (c.facts (f:=.free "all") (Yb 29))
  have g_ord:=He.free_ok X G (c.facts (f:=.free "ord") (Yb 24))
  have g_abs:=He.free_ok X G (c.facts (f:=.free "abs") (Yb 33))
  have g_int:=He.free_ok X G (c.facts (f:=.free "int") (Yb 27))
  have g_range:=He.free_ok X G (c.facts (f:=.free "range") (Yb 30))
  have g_sorted:=He.free_ok X G (c.facts (f:=.free "sorted") (Yb 32))
  have g_dict:=He.free_ok X G (c.facts (f:=.free "dict") (Yb 35))
  have k_LONGEST_MARK:=He.int_ok X G (c.facts (f:=.int "LONGEST_MARK" 6) (Yb 38))
  have k_MOST_PIECES:=He.int_ok X G (c.facts (f:=.int "MOST_PIECES" 15) (Yb 37))
  have cl_Form:=He.cls_ok (c.facts (f:=.cls "Form") (Yb 39))
  have na_Form__shapes:=He.noat_ok (c.facts (f:=.noat "Form" "_shapes") (Yb 41))
  have gc_BadForm:=He.glo_ok X G (c.facts (f:=.glo "BadForm") (Yb 1))
  have gc_Form:=He.glo_ok X G (c.facts (f:=.glo "Form") (Yb 8))
  have gc_HallError:=He.glo_ok X G (c.facts (f:=.glo "HallError") (Yb 0))
  have ox_BadForm:=JKw (Yv cx.more 0)
  obtain ⟨xi1_BadForm,xi2_BadForm,nx_BadForm,xf_BadForm⟩:=JXq (Yv cx.more 1)
  have ec_BadForm:=exc_ok xf_BadForm (Yv cx.more 2)
  have JW9:=Us (Yv cx.more 3)
  have Gb:=Sd cl_Form (Yv cx.more 4)
  obtain ⟨ne1_Form,ne2_Form⟩:=JH8 (Yv cx.more 5)
  have kk_Form:=Us (Yv cx.more 20)
  have JZl:=Us (Yv cx.more 9)
  have JKz:=Us (Yv cx.more 11)
  have JX0:=Us (Yv cx.more 13)
  have JZq:=Us (Yv cx.more 15)
  have JZ8:=Us (Yv cx.more 17)
  have JZx:=Us (Yv cx.more 19)
  have xm_BadForm:=He.exm_ok (c.facts (f:=.exm "BadForm" "BadForm" true) (Yb 43))
  have t_WORDS : GTup K (He.ga K "WORDS") _:=⟨D1 (Yv cx.more 21)⟩
  obtain ⟨es_FIELDS,n_FIELDS,kd_FIELDS⟩:=cx.t.tab 0
  have t_FIELDS : GTab K w (He.ga K "FIELDS") T_FIELDS:=⟨fun k ds hm=>by
    simp only [T_FIELDS,List.mem_cons,Prod.mk.injEq,List.not_mem_nil,or_false] at hm
    rcases hm with ⟨rfl,rfl⟩ | ⟨rfl,rfl⟩ | ⟨rfl,rfl⟩
    · obtain ⟨b,h1,h2⟩:=Nj kd_FIELDS (Yv cx.more 22)
      exact ⟨b,_,h1,⟨h2⟩,rfl⟩
    · obtain ⟨b,h1,h2⟩:=Nj kd_FIELDS (Yv cx.more 23)
      exact ⟨b,_,h1,⟨h2⟩,rfl⟩
    · obtain ⟨b,h1,h2⟩:=Nj kd_FIELDS (Yv cx.more 24)
      exact ⟨b,_,h1,⟨h2⟩,rfl⟩
  ⟩
  obtain ⟨fd_BadForm,F_BadForm⟩:=c.defs (d:=JJz) (fnAt 0)
  have ra_BadForm : Rai P w K mg base ("BadForm" : Str) (He.ga K "BadForm") ("value" : Str) 1:=⟨ox_BadForm,He.glo_ok X G (c.facts (f:=.glo "BadForm") (Yb 1)),_,fd_BadForm,["self","value"],xi1_BadForm,xi2_BadForm,FunD.bindsN F_BadForm fun _ _ _ _ _ _ us hl=>(match us,hl with | [_,_],_=>rfl),JXi F_BadForm ⟨rfl,rfl,rfl,by decide +kernel,rfl,by decide +kernel,by decide +kernel⟩ ox_BadForm nx_BadForm fun _ _ _ _ _ _=>pss_one (ps_ost (pv 0) (pv 1))⟩
  obtain ⟨fdZ0k,FZ0k⟩:=c.defs (d:=dZ0k) (fnAt 1)
  have ok_is_row : Fok P w K mg base 1 _ fdZ0k ["value"] (SZ0k (gmL K)):=wkZ0k (sp:=SZ0k (gmL K)) g_isinstance g_list g_tuple FZ0k Ut (Uy cjZ0k)
  have b_is_row : Binds K fdZ0k ["value"] []:=FunD.bindsN FZ0k fun _ _ _ _ _ _ us hl=>(match us,hl with | [_],_=>rfl)
  have cZ0k : Cal P w K mg base ("is_row" : Str) 1 ["value"] (SZ0k (gmL K)):=⟨_,fdZ0k,He.glo_ok X G (c.facts (f:=.glo "is_row") (Yb 2)),FZ0k.kp,b_is_row,ok_is_row⟩
  obtain ⟨fdZ03,FZ03⟩:=c.defs (d:=dZ03) (fnAt 2)
  have ok_is_mark_text : Fok P w K mg base 1 _ fdZ03 ["value"] (SZ03 (gmL K)):=wkZ03 (sp:=SZ03 (gmL K)) g_isinstance g_str g_len g_all g_ord k_LONGEST_MARK FZ03 Ut (Uy cjZ03)
  have b_is_mark_text : Binds K fdZ03 ["value"] []:=FunD.bindsN FZ03 fun _ _ _ _ _ _ us hl=>(match us,hl with | [_],_=>rfl)
  have cZ03 : Cal P w K mg base ("is_mark_text" : Str) 1 ["value"] (SZ03 (gmL K)):=⟨_,fdZ03,He.glo_ok X G (c.facts (f:=.glo "is_mark_text") (Yb 5)),FZ03.kp,b_is_mark_text,ok_is_mark_text⟩
  obtain ⟨fdZ06,FZ06⟩:=c.defs (d:=dZ06) (fnAt 6)
  have ok_Form___eq__ : Fok P w K mg base 1 _ fdZ06 ["self","other"] (SZ06 (gmL K)):=wkZ06 (sp:=SZ06 (gmL K)) cl_Form na_Form__shapes gc_Form g_isinstance FZ06 Ut (Uy cjZ06)
  have b_Form___eq__ : Binds K fdZ06 ["self","other"] []:=FunD.bindsN FZ06 fun _ _ _ _ _ _ us hl=>(match us,hl with | [_,_],_=>rfl)
  have sc_Form:=JB7 (Yv cx.more 6)
  have eq_Form : EqC P w K mg base (He.ga K "Form") 1 (SZ06 (gmL K)):=⟨ne1_Form,ne2_Form,_,fdZ06,["self","other"],sc_Form.1,sc_Form.2,b_Form___eq__,ok_Form___eq__⟩
  obtain ⟨fdZ08,FZ08⟩:=c.defs (d:=dZ08) (fnAt 8)
  have ok__law_stream : Fok P w K mg base 1 _ fdZ08 ["_law_script","_law_k"] (SZ08 (gmL K)):=wkZ08 (sp:=SZ08 (gmL K)) g_len g_abs g_int FZ08 Ut (Uy cjZ08)
  have b__law_stream : Binds K fdZ08 ["_law_script","_law_k"] []:=FunD.bindsN FZ08 fun _ _ _ _ _ _ us hl=>(match us,hl with | [_,_],_=>rfl)
  have cZ08 : Cal P w K mg base ("_law_stream" : Str) 1 ["_law_script","_law_k"] (SZ08 (gmL K)):=⟨_,fdZ08,He.glo_ok X G (c.facts (f:=.glo "_law_stream") (Yb 9)),FZ08.kp,b__law_stream,ok__law_stream⟩
  obtain ⟨fdZ0e,FZ0e⟩:=c.defs (d:=dZ0e) (fnAt 9)
  have ok__law_draw : Fok P w K mg base 1 _ fdZ0e ["_law_stream_here","_law_many"] (SZ0e (gmL K)):=wkZ0e (sp:=SZ0e (gmL K)) g_int FZ0e Ut (Uy cjZ0e)
  have b__law_draw : Binds K fdZ0e ["_law_stream_here","_law_many"] []:=FunD.bindsN FZ0e fun _ _ _ _ _ _ us hl=>(match us,hl with | [_,_],_=>rfl)
  have cZ0e : Cal P w K mg base ("_law_draw" : Str) 1 ["_law_stream_here","_law_many"] (SZ0e (gmL K)):=⟨_,fdZ0e,He.glo_ok X G (c.facts (f:=.glo "_law_draw") (Yb 10)),FZ0e.kp,b__law_draw,ok__law_draw⟩
  obtain ⟨fdZ07,FZ07⟩:=c.defs (d:=dZ07) (fnAt 10)
  have ok__law_fields : Fok P w K mg base 1 _ fdZ07 ["_law_word"] (SZ07 (gmL K)):=wkZ07 (sp:=SZ07 (gmL K))  FZ07 Ut (Uy cjZ07)
  have b__law_fields : Binds K fdZ07 ["_law_word"] []:=FunD.bindsN FZ07 fun _ _ _ _ _ _ us hl=>(match us,hl with | [_],_=>rfl)
  have cZ07 : Cal P w K mg base ("_law_fields" : Str) 1 ["_law_word"] (SZ07 (gmL K)):=⟨_,fdZ07,He.glo_ok X G (c.facts (f:=.glo "_law_fields") (Yb 11)),FZ07.kp,b__law_fields,ok__law_fields⟩
  obtain ⟨fdZ0c,FZ0c⟩:=c.defs (d:=dZ0c) (fnAt 13)
  have ok__law_signs : Fok P w K mg base 1 _ fdZ0c [] (SZ0c (gmL K)):=wkZ0c (sp:=SZ0c (gmL K))  FZ0c Ut (Uy cjZ0c)
  have b__law_signs : Binds K fdZ0c [] []:=FunD.bindsN FZ0c fun _ _ _ _ _ _ us hl=>(match us,hl with | [],_=>rfl)
  have cZ0c : Cal P w K mg base ("_law_signs" : Str) 1 [] (SZ0c (gmL K)):=⟨_,fdZ0c,He.glo_ok X G (c.facts (f:=.glo "_law_signs") (Yb 14)),FZ0c.kp,b__law_signs,ok__law_signs⟩
  obtain ⟨fdZ02,FZ02⟩:=c.defs (d:=dZ02) (fnAt 17)
  have ok__law_is_text : Fok P w K mg base 1 _ fdZ02 ["_law_thing"] (SZ02 (gmL K)):=wkZ02 (sp:=SZ02 (gmL K)) g_isinstance g_str g_len FZ02 Ut (Uy cjZ02)
  have b__law_is_text : Binds K fdZ02 ["_law_thing"] []:=FunD.bindsN FZ02 fun _ _ _ _ _ _ us hl=>(match us,hl with | [_],_=>rfl)
  have cZ02 : Cal P w K mg base ("_law_is_text" : Str) 1 ["_law_thing"] (SZ02 (gmL K)):=⟨_,fdZ02,He.glo_ok X G (c.facts (f:=.glo "_law_is_text") (Yb 18)),FZ02.kp,b__law_is_text,ok__law_is_text⟩
  obtain ⟨fdZ0j,FZ0j⟩:=c.defs (d:=dZ0j) (fnAt 3)
  have ok_is_piece : Fok P w K mg base 2 _ fdZ0j ["value","fields"] (SZ0j (gmL K)):=wkZ0j (sp:=SZ0j (gmL K)) cZ03 g_isinstance g_tuple g_len g_str FZ0j Ut (Uy cjZ0j)
  have b_is_piece : Binds K fdZ0j ["value","fields"] []:=FunD.bindsN FZ0j fun _ _ _ _ _ _ us hl=>(match us,hl with | [_,_],_=>rfl)
  have cZ0j : Cal P w K mg base ("is_piece" : Str) 2 ["value","fields"] (SZ0j (gmL K)):=⟨_,fdZ0j,He.glo_ok X G (c.facts (f:=.glo "is_piece") (Yb 6)),FZ0j.kp,b_is_piece,ok_is_piece⟩
  obtain ⟨fdZ0b,FZ0b⟩:=c.defs (d:=dZ0b) (fnAt 11)
  have ok__law_order : Fok P w K mg base 2 _ fdZ0b ["_law_stream_here","_law_items"] (SZ0b (gmL K)):=wkZ0b (sp:=SZ0b (gmL K)) cZ0e g_len FZ0b Ut (Uy cjZ0b)
  have b__law_order : Binds K fdZ0b ["_law_stream_here","_law_items"] []:=FunD.bindsN FZ0b fun _ _ _ _ _ _ us hl=>(match us,hl with | [_,_],_=>rfl)
  have cZ0b : Cal P w K mg base ("_law_order" : Str) 2 ["_law_stream_here","_law_items"] (SZ0b (gmL K)):=⟨_,fdZ0b,He.glo_ok X G (c.facts (f:=.glo "_law_order") (Yb 12)),FZ0b.kp,b__law_order,ok__law_order⟩
  obtain ⟨fdZ0d,FZ0d⟩:=c.defs (d:=dZ0d) (fnAt 12)
  have ok__law_mark : Fok P w K mg base 2 _ fdZ0d ["_law_stream_here","_law_signs_here","_law_most"] (SZ0d (gmL K)):=wkZ0d (sp:=SZ0d (gmL K)) cZ0e g_range g_len FZ0d Ut (Uy cjZ0d)
  have b__law_mark : Binds K fdZ0d ["_law_stream_here","_law_signs_here","_law_most"] []:=FunD.bindsN FZ0d fun _ _ _ _ _ _ us hl=>(match us,hl with | [_,_,_],_=>rfl)
  have cZ0d : Cal P w K mg base ("_law_mark" : Str) 2 ["_law_stream_here","_law_signs_here","_law_most"] (SZ0d (gmL K)):=⟨_,fdZ0d,He.glo_ok X G (c.facts (f:=.glo "_law_mark") (Yb 13)),FZ0d.kp,b__law_mark,ok__law_mark⟩
  obtain ⟨fdZ0h,FZ0h⟩:=c.defs (d:=dZ0h) (fnAt 15)
  have ok__law_odd : Fok P w K mg base 2 _ fdZ0h ["_law_stream_here"] (SZ0h (gmL K)):=wkZ0h (sp:=SZ0h (gmL K)) cZ0e FZ0h Ut (Uy cjZ0h)
  have b__law_odd : Binds K fdZ0h ["_law_stream_here"] []:=FunD.bindsN FZ0h fun _ _ _ _ _ _ us hl=>(match us,hl with | [_],_=>rfl)
  have cZ0h : Cal P w K mg base ("_law_odd" : Str) 2 ["_law_stream_here"] (SZ0h (gmL K)):=⟨_,fdZ0h,He.glo_ok X G (c.facts (f:=.glo "_law_odd") (Yb 16)),FZ0h.kp,b__law_odd,ok__law_odd⟩
  obtain ⟨fdZ01,FZ01⟩:=c.defs (d:=dZ01) (fnAt 18)
  have ok__law_is_shape : Fok P w K mg base 2 _ fdZ01 ["_law_thing","_law_word"] (SZ01 (gmL K)):=wkZ01 (sp:=SZ01 (gmL K)) cZ07 cZ02 g_isinstance g_list g_tuple g_len g_str FZ01 Ut (Uy cjZ01)
  have b__law_is_shape : Binds K fdZ01 ["_law_thing","_law_word"] []:=FunD.bindsN FZ01 fun _ _ _ _ _ _ us hl=>(match us,hl with | [_,_],_=>rfl)
  have cZ01 : Cal P w K mg base ("_law_is_shape" : Str) 2 ["_law_thing","_law_word"] (SZ01 (gmL K)):=⟨_,fdZ01,He.glo_ok X G (c.facts (f:=.glo "_law_is_shape") (Yb 19)),FZ01.kp,b__law_is_shape,ok__law_is_shape⟩
  obtain ⟨fdZ0i,FZ0i⟩:=c.defs (d:=dZ0i) (fnAt 4)
  have ok_is_shape : Fok P w K mg base 3 _ fdZ0i ["value","fields"] (SZ0i (gmL K)):=wkZ0i (sp:=SZ0i (gmL K)) cZ0k cZ0j g_len g_all g_sorted k_MOST_PIECES FZ0i Ut (Uy cjZ0i)
  have b_is_shape : Binds K fdZ0i ["value","fields"] []:=FunD.bindsN FZ0i fun _ _ _ _ _ _ us hl=>(match us,hl with | [_,_],_=>rfl)
  have cZ0i : Cal P w K mg base ("is_shape" : Str) 3 ["value","fields"] (SZ0i (gmL K)):=⟨_,fdZ0i,He.glo_ok X G (c.facts (f:=.glo "is_shape") (Yb 7)),FZ0i.kp,b_is_shape,ok_is_shape⟩
  obtain ⟨fdZ0a,FZ0a⟩:=c.defs (d:=dZ0a) (fnAt 7)
  have ok_Form_shape : Fok P w K mg base 3 _ fdZ0a ["self","word"] (SZ0a (gmL K)):=wkZ0a (sp:=SZ0a (gmL K)) cl_Form na_Form__shapes ra_BadForm g_isinstance g_str u_WORDS t_WORDS FZ0a Ut (Uy cjZ0a)
  have b_Form_shape : Binds K fdZ0a ["self","word"] []:=FunD.bindsN FZ0a fun _ _ _ _ _ _ us hl=>(match us,hl with | [_,_],_=>rfl)
  have m_Form_shape : CalM P w K mg base (He.ga K "Form") ("shape" : Str) 3 ["self","word"] (SZ0a (gmL K)):=⟨_,fdZ0a,He.meth_ok (c.facts (f:=.meth "Form" "shape") (Yb 42)),b_Form_shape,ok_Form_shape⟩
  obtain ⟨fdZ09,FZ09⟩:=c.defs (d:=dZ09) (fnAt 14)
  have ok__law_shape : Fok P w K mg base 3 _ fdZ09 ["_law_stream_here","_law_word","_law_signs_here","_law_often","_law_most"] (SZ09 (gmL K)):=wkZ09 (sp:=SZ09 (gmL K)) cZ0b cZ07 cZ0e cZ0d FZ09 Ut (Uy cjZ09)
  have b__law_shape : Binds K fdZ09 ["_law_stream_here","_law_word","_law_signs_here","_law_often","_law_most"] []:=FunD.bindsN FZ09 fun _ _ _ _ _ _ us hl=>(match us,hl with | [_,_,_,_,_],_=>rfl)
  have cZ09 : Cal P w K mg base ("_law_shape" : Str) 3 ["_law_stream_here","_law_word","_law_signs_here","_law_often","_law_most"] (SZ09 (gmL K)):=⟨_,fdZ09,He.glo_ok X G (c.facts (f:=.glo "_law_shape") (Yb 15)),FZ09.kp,b__law_shape,ok__law_shape⟩
  obtain ⟨fdZ05,FZ05⟩:=c.defs (d:=dZ05) (fnAt 16)
  have ok__law_spoiled : Fok P w K mg base 3 _ fdZ05 ["_law_stream_here","_law_pieces"] (SZ05 (gmL K)):=wkZ05 (sp:=SZ05 (gmL K)) cZ0e cZ0h g_list g_len FZ05 Ut (Uy cjZ05)
  have b__law_spoiled : Binds K fdZ05 ["_law_stream_here","_law_pieces"] []:=FunD.bindsN FZ05 fun _ _ _ _ _ _ us hl=>(match us,hl with | [_,_],_=>rfl)
  have cZ05 : Cal P w K mg base ("_law_spoiled" : Str) 3 ["_law_stream_here","_law_pieces"] (SZ05 (gmL K)):=⟨_,fdZ05,He.glo_ok X G (c.facts (f:=.glo "_law_spoiled") (Yb 17)),FZ05.kp,b__law_spoiled,ok__law_spoiled⟩
  obtain ⟨fdZ00,FZ00⟩:=c.defs (d:=dZ00) (fnAt 5)
  have ok_Form___init__ : Fok P w K mg base 4 _ fdZ00 ["self","row","fix","gone"] (SZ00 (gmL K)):=wkZ00 (sp:=SZ00 (gmL K)) cZ0i cl_Form na_Form__shapes ra_BadForm g_tuple u_WORDS t_WORDS u_FIELDS t_FIELDS FZ00 Ut (Uy cjZ00)
  have b_Form___init__ : Binds K fdZ00 ["self","row","fix","gone"] []:=FunD.bindsN FZ00 fun _ _ _ _ _ _ us hl=>(match us,hl with | [_,_,_,_],_=>rfl)
  have mk_Form : CalK P w K mg base ("Form" : Str) (He.ga K "Form") 4 ["self","row","fix","gone"] (SZ00 (gmL K)):=⟨_,fdZ00,He.mkr_ok (c.facts (f:=.mkr "Form") (Yb 40)),He.glo_ok X G (c.facts (f:=.glo "Form") (Yb 8)),b_Form___init__,ok_Form___init__⟩
  obtain ⟨fdZ04,FZ04⟩:=c.defs (d:=dZ04) (fnAt 20)
  have ok__law_unknown : Fok P w K mg base 4 _ fdZ04 ["_law_form","_law_word"] (SZ04 (gmL K)):=wkZ04 (sp:=SZ04 (gmL K)) m_Form_shape cl_Form xf_BadForm nx_BadForm gc_BadForm FZ04 Ut (Uy cjZ04)
  have b__law_unknown : Binds K fdZ04 ["_law_form","_law_word"] []:=FunD.bindsN FZ04 fun _ _ _ _ _ _ us hl=>(match us,hl with | [_,_],_=>rfl)
  have cZ04 : Cal P w K mg base ("_law_unknown" : Str) 4 ["_law_form","_law_word"] (SZ04 (gmL K)):=⟨_,fdZ04,He.glo_ok X G (c.facts (f:=.glo "_law_unknown") (Yb 21)),FZ04.kp,b__law_unknown,ok__law_unknown⟩
  obtain ⟨fdZ0f,FZ0f⟩:=c.defs (d:=dZ0f) (fnAt 21)
  have ok__law_told : Fok P w K mg base 5 _ fdZ0f ["_law_form","_law_due"] (SZ0f (gmL K)):=wkZ0f (sp:=SZ0f (gmL K)) cZ04 m_Form_shape cl_Form g_isinstance g_tuple g_len g_range g_all FZ0f Ut (Uy cjZ0f)
  have b__law_told : Binds K fdZ0f ["_law_form","_law_due"] []:=FunD.bindsN FZ0f fun _ _ _ _ _ _ us hl=>(match us,hl with | [_,_],_=>rfl)
  have cZ0f : Cal P w K mg base ("_law_told" : Str) 5 ["_law_form","_law_due"] (SZ0f (gmL K)):=⟨_,fdZ0f,He.glo_ok X G (c.facts (f:=.glo "_law_told") (Yb 22)),FZ0f.kp,b__law_told,ok__law_told⟩
  obtain ⟨fdZ0g,FZ0g⟩:=c.defs (d:=dZ0g) (fnAt 19)
  have ok__law_made : Fok P w K mg base 6 _ fdZ0g ["_law_shapes"] (SZ0g (gmL K)):=wkZ0g (sp:=SZ0g (gmL K)) mk_Form xf_BadForm nx_BadForm ec_BadForm gc_BadForm gc_HallError g_isinstance FZ0g Ut (Uy cjZ0g)
  have b__law_made : Binds K fdZ0g ["_law_shapes"] []:=FunD.bindsN FZ0g fun _ _ _ _ _ _ us hl=>(match us,hl with | [_],_=>rfl)
  have cZ0g : Cal P w K mg base ("_law_made" : Str) 6 ["_law_shapes"] (SZ0g (gmL K)):=⟨_,fdZ0g,He.glo_ok X G (c.facts (f:=.glo "_law_made") (Yb 20)),FZ0g.kp,b__law_made,ok__law_made⟩
  exact wkZ0l (sp:=SZ0l (gmL K)) cZ08 cZ09 cZ0c cZ0e cZ05 cZ0g cZ01 cZ0f mk_Form eq_Form gc_Form g_isinstance g_list g_tuple g_len g_dict FZ0l Ut (Uy cjZ0l)
end Law
open PySem PySem.W PySem.Calls PyProof.Rows
theorem PySem.Challenge.cw_asofhall_k76_forms_told_holds : PySem.Challenge.rw_asofhall_k76_forms_told.Holds := by
  refine Law.close fun w K h mg fa KX G hmg c cg=>?_
  obtain ⟨gk,fd,hb,hF⟩:=Law.facts (P:=(PySem.Challenge.rw_asofhall_k76_forms_told).prog) (w:=w) KX G hmg c cg
  exact ⟨fd,Vs.lift K (Law.SZ0l (Law.gmL K)),hb,fun H a ns hl hH hS=>Law.lift_law gk hS hl hH,hF⟩
