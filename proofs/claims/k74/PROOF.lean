import PyProof.Rows.All
import Wide.All
import OpenK.AllK
import Wide.FinOn
import HandS.HeadEnd
import HandS.HeadHook1
import HandS.HeadHook2
import HandS.Head0
import HandS.Head1
import HandS.Head2
import HandS.Words
import HandS.EndTab
import KE.KStateDown
import HandS.ForMost
import HandS.ForExc
import HandS.Flow
import HandS.Wide
import HandS.NestedK
import HandS.Exc
import HandS.ExcOwn
import HandS.ExcCtx
import HandS.Star
import HandS.TupAny
import HandS.Deep
import HandS.Style
import HandS.IsInst
import KE.DataCmp
import HandS.Conv
import HandS.Ends
import HandS.TryOnly
import HandS.TryMany
import KE.KExcInit
import PyProof.ExcBaseAll.ValueError
import PyProof.ExcBaseAll.LookupError
import PyProof.ExcBaseAll.OverflowError
import PyProof.ExcBaseAll.RuntimeError
import HandS.More
import HandS.Zip
import KE.KExcIs
import HandS.ExcIs
import HandS.Property
import HandS.MakeKwOnly
import HandS.SlotsOwn
import PyProof.InstEq
import HandS.RaiseMore
import HandS.FStr
import HandS.Codes
import HandS.ClsMeth
import HandS.Replace
import PyProof.AssignAttr
import PyProof.ReprLen
import HandS.Text
import HandS.ReplaceLit
import HandS.ReplaceDef
import HandS.ReplaceList
import HandS.Nested
import KE.KSuper
import KE.KDictZip
import KE.KDictItemsList
import HandS.Zip0
import HandS.ListItems
import HandS.StrMore
import KE.GoesEnum
import HandS.Iter
import KE.GoesEnumKw
import HandS.TupMul
import PyProof.EqAt
import PyProof.NeKinds
import PyProof.ListStr
import KE.SortKeyHeap
import KE.SortData
import HandS.SortKw
import HandS.DictComp
import HandS.RaiseFrom
import HandS.SuiteRaise
import PyProof.RulesAs
import KE.KStar
import HandS.IterVal
import HandS.OwnIter
import HandS.Hot
import HandS.HotCalls
import HandS.GenList
import HandS.OwnEq
import HandS.Dict
import KE.DatumOrd
import PyProof.FString3
import HandS.Lambda
import HandS.SetTxt0
import HandS.Set
import HandS.SetFor
import HandS.TupSets
import HandS.SetBool
import HandS.Comp
import KE.GoesComp
import PySem.Challenge.RW_offeredentry_k74_whole_translations
set_option Elab.async false
set_option linter.all false
set_option maxRecDepth 100000
set_option maxHeartbeats 4000000
namespace PySem
namespace OwnX
open PySem.W
inductive XB where
  | ve | le | oe | re
def XB.tail : XB → List Value
  | .ve => [.type "ValueError", .type "Exception", .type "BaseException", .type "object"]
  | .le => [.type "LookupError", .type "Exception", .type "BaseException", .type "object"]
  | .oe => [.type "OverflowError", .type "ArithmeticError", .type "Exception", .type "BaseException", .type "object"]
  | .re => [.type "RuntimeError", .type "Exception", .type "BaseException", .type "object"]
def XB.nw : XB → String
  | .ve => "ValueError.__new__"
  | .le => "LookupError.__new__"
  | .oe => "OverflowError.__new__"
  | .re => "RuntimeError.__new__"
def XB.nm : XB → String
  | .ve => "ValueError"
  | .le => "LookupError"
  | .oe => "OverflowError"
  | .re => "RuntimeError"
def XB.it : XB → String
  | .ve => "ValueError.__init__"
  | .le => "LookupError.__init__"
  | .oe => "OverflowError.__init__"
  | .re => "RuntimeError.__init__"
def overB (b : XB) : List Value → Bool
  | .ref _ :: r => overB b r
  | l => l == b.tail
def iA (f : Str) (p1 p2 : Pos) : Arguments := { posonlyargs := [], args := [{ arg := "self", annotation := none, pos := p1 }, { arg := f, annotation := none, pos := p2 }], vararg := none, kwonlyargs := [], kw_defaults := [], kwarg := none, defaults := [] }
def iB (f : Str) (q1 q2 q3 q4 : Pos) : List Stmt := [.Assign [.Attribute (.Name "self" q1) f q2] (.Name f q3) q4]
def iS (f : Str) : Scope := { kind := .function, names := [(PySem.Str.ofString "self", .local), (f, .local)], isGenerator := false, isCoroutine := false, more := [] }
end OwnX
end PySem
namespace DL
open PySem PySem.Spec PyProof.Rows L2
abbrev FnV : Type := Option (Str × Str × Arguments × FuncBody × Scope × Addr × List Str × Addr)
def fnV (K : PySem.W.Frag) (a : Addr) : FnV := match K.lookup a with
  | some ⟨_, _, .func fd, _⟩ => some (fd.name, fd.qualname, fd.params, fd.body, fd.scope, fd.globals, fd.closure.map (·.1), fd.builtins)
  | _ => none
abbrev fnT (x qual : Str) (st : Stmt) (cl : List Str) : FnV := some (x, qual, defArgs st, .stmts (defBody st), defScope st, mainGlobals, cl, builtinsNs)
def isNoneV : Value → Bool
  | .none => true
  | _ => false
theorem isNoneV_ok {v : Value} (h : isNoneV v = true) : v = .none := by cases v <;> first | rfl | cases h
def codB (K : PySem.W.Frag) (a : Addr) (q : Str) : Bool := match K.lookup a with
  | some ⟨_, _, .func fd, _⟩ => PySem.W.codeIn K fd.code q && isNoneV fd.defaults
  | _ => false
section
variable {K : PySem.W.Frag}
theorem fun_of {a : Addr} {x qual : Str} {pa : Arguments} {bo : List Stmt} {sc : Scope} (e : fnV K a = some (x, qual, pa, .stmts bo, sc, mainGlobals, [], builtinsNs)) (c : codB K a qual = true) : ∃ oc od kV doc pm an cd ct sl,
    K.lookup a = some ⟨oc, od, .func (PySem.W.fnOf x qual pa bo sc .none kV doc pm an cd ct), sl⟩ ∧ PySem.W.codeIn K cd qual = true := by
  unfold fnV at e
  unfold codB at c
  cases q : K.lookup a with
  | none => rw [q] at c; cases c
  | some o =>
    obtain ⟨oc, od, dt, osl⟩ := o
    rw [q] at c e
    cases dt with
    | func fd =>
      obtain ⟨n1, n2, n3, n4, n5, n6, n7, n8, n9, n10, n11, n12, n13, n14, n15⟩ := fd
      have e2 : (some (n1, n2, n3, n4, n5, n6, n7.map (·.1), n15) : FnV) = some (x, qual, pa, .stmts bo, sc, mainGlobals, [], builtinsNs) := e
      simp only [Option.some.injEq, Prod.mk.injEq, List.map_eq_nil_iff] at e2
      obtain ⟨h1, h2, h3, h4, h5, h6, h7, h8⟩ := e2
      subst h1 h2 h3 h4 h5 h6 h7 h8
      have c2 : (PySem.W.codeIn K n13 n2 && isNoneV n8) = true := c
      rw [Bool.and_eq_true] at c2
      have h9 := isNoneV_ok c2.2
      subst h9
      exact ⟨oc, od, n9, n10, n11, n12, n13, n14, osl, rfl, c2.1⟩
    | _ => cases c
def xcB (K : PySem.W.Frag) (C : Addr) (b : PySem.OwnX.XB) : Bool := match K.lookup C with
  | some ⟨.type "type", _, .cls cd, sl⟩ => (match cd.mro, sl.toList with
    | .ref C' :: bm, [_, _, _, _, some (.builtin n), _] => (C' == C && n == b.nw) && (!cd.hasDel && (cd.hasDict && PySem.OwnX.overB b bm))
    | _, _ => false)
  | _ => false
def kwN (K : PySem.W.Frag) (a : Addr) : Bool := match K.lookup a with
  | some ⟨_, _, .func fd, _⟩ => isNoneV fd.kwdefaults
  | _ => false
theorem funN_of {a : Addr} {x qual : Str} {pa : Arguments} {bo : List Stmt} {sc : Scope} (e : fnV K a = some (x, qual, pa, .stmts bo, sc, mainGlobals, [], builtinsNs)) (c : codB K a qual = true) (n : kwN K a = true) : ∃ oc od doc pm an cd ct sl,
    K.lookup a = some ⟨oc, od, .func (PySem.W.fnOf x qual pa bo sc .none .none doc pm an cd ct), sl⟩ ∧ PySem.W.codeIn K cd qual = true := by
  obtain ⟨oc, od, kV, doc, pm, an, cd, ct, sl, l, q⟩ := fun_of e c
  have e1 : kV = .none := by
    unfold kwN at n
    rw [l] at n
    exact isNoneV_ok n
  subst e1
  exact ⟨oc, od, doc, pm, an, cd, ct, sl, l, q⟩
def strB (o : Option (Option Value)) (z : Str) : Bool := match o with
  | some (some (.str y _)) => decide (y = z)
  | _ => false
theorem strB_ok {o : Option (Option Value)} {z : Str} (h : strB o z = true) : ∃ t, o = some (some (.str z t)) := by
  unfold strB at h
  split at h
  · exact ⟨_, by rw [of_decide_eq_true h]⟩
  · cases h
def intB (o : Option (Option Value)) (z : Int) : Bool := match o with
  | some (some (.int y _)) => decide (y = z)
  | _ => false
theorem intB_ok {o : Option (Option Value)} {z : Int} (h : intB o z = true) : ∃ t, o = some (some (.int z t)) := by
  unfold intB at h
  split at h
  · exact ⟨_, by rw [of_decide_eq_true h]⟩
  · cases h
end
def isClsO (o : Obj) : Bool := match o.data with
  | .cls _ => true
  | _ => false
def refsF (o : Obj) : List Addr := match o.data with
  | .func fd => He.refV fd.code ++ (He.refV fd.kwdefaults ++ fd.closure.map (·.2))
  | .cls cd => cd.ns :: cd.mro.tail.flatMap He.refV
  | .dict es _ => es.toList.flatMap fun e => He.refV e.val
  | .fields vs => (match o.cls with
    | .type "code" => []
    | _ => vs.toList.flatMap He.refV)
  | _ => []
def nxF (g : Addr → Option Obj) (as : List Addr) : List Addr := as.flatMap fun a => match g a with
  | some o => refsF o
  | none => []
def clF (g : Addr → Option Obj) (b : Bool) (as : List Addr) : List Addr := as.filter fun a => match g a with
  | some o => isClsO o == b
  | none => false
def frA {α : Type} : List Addr → (List Addr → α) → α
  | [], k => k []
  | a :: r, k => HandSHeadRun.frNat a fun a => frA r fun r => k (a :: r)
theorem frA_eq {α : Type} : ∀ (as : List Addr) (k : List Addr → α), frA as k = k as
  | [], _ => rfl
  | a :: r, k => by
    show HandSHeadRun.frNat a (fun a => frA r fun r => k (a :: r)) = _
    rw [HandSHeadRun.frNat_eq, frA_eq r]
def frK {α : Type} (g : Addr → Option Obj) : List Addr → (PySem.W.Frag → α) → α
  | [], k => k []
  | a :: r, k => HandSHeadRun.frNat a fun a => match g a with
    | some o => frK g r fun K => k ((a, o) :: K)
    | none => frK g r k
theorem frK_eq {α : Type} (g : Addr → Option Obj) : ∀ (as : List Addr) (k : PySem.W.Frag → α), frK g as k = k (He.frG g as)
  | [], _ => rfl
  | a :: r, k => by
    show HandSHeadRun.frNat a (fun a => match g a with
      | some o => frK g r fun K => k ((a, o) :: K)
      | none => frK g r k) = _
    rw [HandSHeadRun.frNat_eq]
    unfold He.frG
    rw [List.filterMap_cons]
    cases h : g a with
    | none => exact frK_eq g r k
    | some o => exact frK_eq g r fun K => k ((a, o) :: K)
def asF {α : Type} (g : Addr → Option Obj) (k : List Addr → α) : α :=
  frA (nxF g [mainGlobals]) fun l1 => frA (clF g true l1) fun lc => frA (clF g false l1) fun lf => frA (nxF g lc) fun ln => frA (nxF g ln) fun lm => frA (nxF g lm) fun lx => frA (nxF g lf) fun lk => frA (nxF g lx) fun ly =>
    k (mainGlobals :: cStatics :: (lc ++ (ln ++ (lm ++ (lf ++ (lx ++ (lk ++ ly)))))))
def asL (g : Addr → Option Obj) : List Addr := asF g fun as => as
theorem asF_eq {α : Type} (g : Addr → Option Obj) (k : List Addr → α) : asF g k = k (asL g) := by
  unfold asL asF
  simp only [frA_eq]
def obF {β : Type} (f : PySem.W.Frag → β) (g : Addr → Option Obj) : β := asF g fun as => frK g as f
theorem obF_eq {β : Type} (f : PySem.W.Frag → β) (g : Addr → Option Obj) : obF f g = f (He.frG g (asL g)) := by
  unfold obF
  rw [asF_eq, frK_eq]
abbrev AlH : Type := Bool × List FnV
def hookH (ex : PySem.W.Frag → Bool) (fs : PySem.W.Frag → List FnV) (vs : List FnV) : PySem.W.Hook where
  α := AlH
  obs := fun s => (ex (He.frG s.heap.get? (asL s.heap.get?)), fs (He.frG s.heap.get? (asL s.heap.get?)))
  val := fun _ => (true, vs)
  says := fun _ h => ∃ K : PySem.W.Frag, K.In h ∧ ex K = true ∧ fs K = vs
  of := fun _ _ e => ⟨_, He.frG_in, congrArg (fun z : AlH => z.1) e, congrArg (fun z : AlH => z.2) e⟩
  keeps := fun _ _ _ ⟨K, hK, c⟩ k => ⟨K, PySem.W.Frag.In.keeps hK k, c⟩
def obH (ex : PySem.W.Frag → Bool) (fs : PySem.W.Frag → List FnV) (s : PySem.W.SharedT) : AlH := (obF ex (HandSHeadRun.getT s), obF fs (HandSHeadRun.getT s))
theorem obH_eq {ex : PySem.W.Frag → Bool} {fs : PySem.W.Frag → List FnV} {vs : List FnV} (s : PySem.W.SharedT) : obH ex fs s = (hookH ex fs vs).obs s.abs := by
  have e : HandSHeadRun.getT s = s.abs.heap.get? := funext (HandSHeadRun.getT_eq s)
  unfold obH
  rw [obF_eq, obF_eq, e]
  rfl
open HandSHeadRun in
def PartEq (r : PySem.W.OpenRow) (M : Nat) (w : World) {β : Type} (f : PySem.W.SharedT → β) (v : β) : Prop := ∀ os : OsState, (endF (stepQ (denQ tabQ) r.prog w) M r.prog w os).map f = some v
section
variable {r : PySem.W.OpenRow} {M : Nat} {w : World}
theorem PartEq.pair {β γ : Type} {f : PySem.W.SharedT → β} {g : PySem.W.SharedT → γ} {v : β} {u : γ} (a : PartEq r M w f v) (b : PartEq r M w g u) : PartEq r M w (fun s => (f s, g s)) (v, u) := fun os => by
  have h1 := a os
  have h2 := b os
  cases e : HandSHeadRun.endF (HandSHeadRun.stepQ (HandSHeadRun.denQ HandSHeadRun.tabQ) r.prog w) M r.prog w os with
  | none => rw [e] at h1; cases h1
  | some s =>
    rw [e] at h1 h2
    have e1 := Option.some.inj h1
    have e2 := Option.some.inj h2
    show some (f s, g s) = some (v, u)
    rw [e1, e2]
theorem PartEq.and {f g : PySem.W.Frag → Bool} (a : PartEq r M w (fun s => obF f (HandSHeadRun.getT s)) true) (b : PartEq r M w (fun s => obF g (HandSHeadRun.getT s)) true) : PartEq r M w (fun s => obF (fun K => f K && g K) (HandSHeadRun.getT s)) true := fun os => by
  have h1 := a os
  have h2 := b os
  cases e : HandSHeadRun.endF (HandSHeadRun.stepQ (HandSHeadRun.denQ HandSHeadRun.tabQ) r.prog w) M r.prog w os with
  | none => rw [e] at h1; cases h1
  | some s =>
    rw [e] at h1 h2
    have e1 : obF f (HandSHeadRun.getT s) = true := Option.some.inj h1
    have e2 : obF g (HandSHeadRun.getT s) = true := Option.some.inj h2
    show some (obF (fun K => f K && g K) (HandSHeadRun.getT s)) = some true
    rw [obF_eq] at e1 e2 ⊢
    show some (f _ && g _) = some true
    rw [e1, e2]
    rfl
theorem PartEq.app {f g : PySem.W.Frag → List FnV} {vs us : List FnV} (a : PartEq r M w (fun s => obF f (HandSHeadRun.getT s)) vs) (b : PartEq r M w (fun s => obF g (HandSHeadRun.getT s)) us) : PartEq r M w (fun s => obF (fun K => f K ++ g K) (HandSHeadRun.getT s)) (vs ++ us) := fun os => by
  have h1 := a os
  have h2 := b os
  cases e : HandSHeadRun.endF (HandSHeadRun.stepQ (HandSHeadRun.denQ HandSHeadRun.tabQ) r.prog w) M r.prog w os with
  | none => rw [e] at h1; cases h1
  | some s =>
    rw [e] at h1 h2
    have e1 : obF f (HandSHeadRun.getT s) = vs := Option.some.inj h1
    have e2 : obF g (HandSHeadRun.getT s) = us := Option.some.inj h2
    show some (obF (fun K => f K ++ g K) (HandSHeadRun.getT s)) = some (vs ++ us)
    rw [obF_eq] at e1 e2 ⊢
    show some (f _ ++ g _) = some (vs ++ us)
    rw [e1, e2]
open PySem.W PySem.Calls PyProof.Rows in
theorem PartEq.run {q : Program} {loose : List PySem.Str} {ex : PySem.W.Frag → Bool} {fs : PySem.W.Frag → List FnV} {vs : List FnV}
    (a : PartEq r M w (fun s => (HandSHeadRun.looksF r.prog (boot_heap w.params) s.abs, HandSHeadRun.seenQ q loose (importedModules r.prog.main.body) (fun s => xlAt q [] s && recOk r.toRowW.records s) s.abs)) (true, openGood q loose))
    (b : PartEq r M w (fun s => obF ex (HandSHeadRun.getT s)) true) (c : PartEq r M w (fun s => obF fs (HandSHeadRun.getT s)) vs) : HandSHeadRun.RunEq r q (hookH ex fs vs) (obH ex fs) M loose w := fun os => by
  have h := (a.pair (b.pair c)) os
  cases e : HandSHeadRun.endF (HandSHeadRun.stepQ (HandSHeadRun.denQ HandSHeadRun.tabQ) r.prog w) M r.prog w os with
  | none => rw [e] at h; cases h
  | some s =>
    rw [e] at h
    have h1 := Option.some.inj h
    simp only [Prod.mk.injEq] at h1
    obtain ⟨⟨a1, a2⟩, b1, c1⟩ := h1
    exact congrArg some (Prod.ext a1 (Prod.ext a2 (Prod.ext b1 c1)))
end
def bT7 : List String := ["NoneType", "bool", "int", "str", "tuple", "list", "dict"]
def nB7 : List (String × Bool) := [("NoneType", false), ("bool", false), ("int", false), ("str", false), ("tuple", false), ("list", false), ("dict", false)]
abbrev gA (K : PySem.W.Frag) (x : Str) : Addr := He.ga K x
abbrev mA (K : PySem.W.Frag) (c m : Str) : Addr := He.ma K (He.ga K c) m
def ngB (K : PySem.W.Frag) (x : Str) : Bool := decide (PySem.W.nsIn K mainGlobals x = some (some (.ref (gA K x))))
def nnB (K : PySem.W.Frag) (x : Str) : Bool := decide (PySem.W.nsIn K mainGlobals x = some none)
def fcB (K : PySem.W.Frag) (a : Addr) : Bool := match K.lookup a with
  | some ⟨_, _, .func fd, _⟩ => (PySem.W.codeIn K fd.code fd.qualname && isNoneV fd.defaults) && PySem.W.keepIn K (.ref a)
  | _ => false
def clB (K : PySem.W.Frag) (c : Str) : Bool := ngB K c && (PySem.W.plainGet K (gA K c) Str.empty && (PySem.W.hasDictIn K (gA K c) && (PySem.W.plainOver K (gA K c) && (decide (PySem.W.findIn K (.ref (gA K c)) "__setattr__" = some (some (.builtin "object.__setattr__"))) && (decide (PySem.W.findIn K (.ref (gA K c)) "__class__" = some (some (.builtin "object.__class__"))) &&
  (decide (PySem.W.specialIn K (.builtin "object.__class__") "__get__" = some (some (.builtin "getset_descriptor.__get__"))) && (decide (PySem.W.takesIn K (.builtin "object.__class__") = some true) && decide (PySem.W.mroIn K (gA K c) (.type "object") = some true))))))))
def naB (K : PySem.W.Frag) (c : Str) (fs : List Str) : Bool := fs.all fun f => decide (PySem.W.findIn K (.ref (gA K c)) f = some none)
def mtB (K : PySem.W.Frag) (c m : Str) (a : Addr) : Bool := decide (PySem.W.findIn K (.ref (gA K c)) m = some (some (.ref a))) && PySem.W.isFn K (.ref a)
def mkB (K : PySem.W.Frag) (c : Str) : Bool := mtB K c "__init__" (mA K c "__init__") && (PySem.W.makesIn K (gA K c) && PySem.W.keepIn K (.ref (gA K c)))
def eqB (K : PySem.W.Frag) (c : Str) (a : Addr) (cs : List Str) : Bool := mtB K c "__eq__" a && (bT7.all (fun T => PySem.W.notFirst K (gA K c) (.type T)) && (cs.all (fun d => PySem.W.notFirst K (gA K c) (.ref (gA K d))) && decide (PySem.W.findIn K (.ref (gA K c)) "__ne__" = some (some (.builtin "object.__ne__")))))
def isB (K : PySem.W.Frag) (c : Str) (L : List (Str × Bool)) (B : List (String × Bool)) : Bool := PySem.W.isClsIn K (gA K c) && (decide (PySem.W.typeIn K (.ref (gA K c)) = some (.type "type")) && (decide (PySem.W.subIn K (.ref (gA K c)) (.ref (gA K c)) = some true) &&
  (L.all (fun q => decide (PySem.W.subIn K (.ref (gA K q.1)) (.ref (gA K c)) = some q.2)) && B.all (fun q => decide (PySem.W.subIn K (.type q.1) (.ref (gA K c)) = some q.2)))))
def xB (K : PySem.W.Frag) (x f : Str) (b : PySem.OwnX.XB) : Bool := ngB K x && (xcB K (gA K x) b && (decide (PySem.W.findIn K (.ref (gA K x)) "__setattr__" = some (some (.builtin "object.__setattr__"))) && (decide (PySem.W.findIn K (.ref (gA K x)) "__getattribute__" = some (some (.builtin "BaseException.__getattribute__"))) &&
  (decide (PySem.W.findIn K (.ref (gA K x)) "__getattr__" = some none) && (decide (PySem.W.findIn K (.ref (gA K x)) f = some none) && (decide (PySem.W.findIn K (.ref (gA K x)) "__init__" = some (some (.ref (mA K x "__init__")))) && (decide (PySem.W.typeIn K (.ref (mA K x "__init__")) = some (.type "function")) &&
  (PySem.W.keepIn K (.ref (gA K x)) && (decide (PySem.W.subIn K (.ref (gA K x)) (.type "BaseException") = some true) && (decide (PySem.W.typeIn K (.ref (gA K x)) = some (.type "type")) && (PySem.W.hasDictIn K (gA K x) && (PySem.W.isClsIn K (gA K x) && (decide (PySem.W.subIn K (.ref (gA K x)) (.ref (gA K x)) = some true) && kwN K (mA K x "__init__"))))))))))))))
def gsB (K : PySem.W.Frag) (c s : Str) : Bool := strB (PySem.W.nsIn K mainGlobals c) s
def giB (K : PySem.W.Frag) (c : Str) (i : Int) : Bool := intB (PySem.W.nsIn K mainGlobals c) i
end DL
namespace DL
open PySem PySem.Spec PyProof.Rows L2
end DL
namespace FN
end FN
namespace K74
open PySem L2 DL FN
def top (i : Nat) : Stmt := PySem.Challenge.pw_offeredentry_k74_whole_translations.main.body.getD i (.Pass ⟨0, 0, 0, 0⟩)
def topC (i j : Nat) : Stmt := match top i with
  | .ClassDef _ _ _ body _ _ _ _ _ _ _ => body.getD j (.Pass ⟨0, 0, 0, 0⟩)
  | _ => .Pass ⟨0, 0, 0, 0⟩
abbrev s_is_label : Stmt := top 10
abbrev s_row_key : Stmt := top 15
abbrev s_ends_with : Stmt := top 18
abbrev s__law_bag : Stmt := top 29
abbrev s__law_take : Stmt := top 30
abbrev s__law_ends : Stmt := top 35
abbrev s__law_texts : Stmt := top 37
abbrev s__law_turned : Stmt := top 39
abbrev s_Groups_len : Stmt := topC 27 1
abbrev s_Groups_eq : Stmt := topC 27 2
abbrev s_is_path : Stmt := top 11
abbrev s_host_key : Stmt := top 16
abbrev s_member_and_head : Stmt := top 24
abbrev s__law_of : Stmt := top 31
abbrev s__law_label : Stmt := top 32
abbrev s_is_host : Stmt := top 12
abbrev s_moved : Stmt := top 25
abbrev s__law_pool : Stmt := top 33
abbrev s__law_host : Stmt := top 34
abbrev s__law_groups : Stmt := top 36
abbrev s_host_of : Stmt := top 13
abbrev s_host_text : Stmt := top 14
abbrev s_Groups_translated : Stmt := topC 27 3
abbrev s_Groups_origins : Stmt := topC 27 6
abbrev s_checked_group : Stmt := top 26
abbrev s_Groups_member : Stmt := topC 27 4
abbrev s__law_right : Stmt := top 40
abbrev s_Groups_init : Stmt := topC 27 0
abbrev s__law_made_groups : Stmt := top 38
abbrev s_law : Stmt := top 41
def nm0L : List Str := ["is_label", "row_key", "ends_with", "_law_bag", "_law_take", "_law_ends", "_law_texts", "_law_turned", "is_path", "host_key", "member_and_head", "_law_of", "_law_label", "is_host", "moved", "_law_pool", "_law_host", "_law_groups", "host_of", "host_text", "checked_group", "_law_right", "_law_made_groups", "law"]
def zsL : List Str := ["abs", "enumerate", "int", "isinstance", "len", "list", "range", "sorted", "str", "tuple"]
def clsL : List Str := ["Groups"]
def eqL : List Str := ["Groups"]
def fa0 (K : PySem.W.Frag) : List Addr := [(gA K "is_label"), (gA K "row_key"), (gA K "ends_with"), (gA K "_law_bag"), (gA K "_law_take"), (gA K "_law_ends"), (gA K "_law_texts"), (gA K "_law_turned"), (mA K "Groups" "__len__"), (mA K "Groups" "__eq__"), (gA K "is_path"), (gA K "host_key"), (gA K "member_and_head"), (gA K "_law_of"), (gA K "_law_label"), (gA K "is_host"), (gA K "moved"), (gA K "_law_pool"), (gA K "_law_host"), (gA K "_law_groups"), (gA K "host_of"), (gA K "host_text"), (mA K "Groups" "translated"), (mA K "Groups" "origins"), (gA K "checked_group")]
def fv0 : List FnV := [fnT "is_label" "is_label" s_is_label [], fnT "row_key" "row_key" s_row_key [], fnT "ends_with" "ends_with" s_ends_with [], fnT "_law_bag" "_law_bag" s__law_bag [], fnT "_law_take" "_law_take" s__law_take [], fnT "_law_ends" "_law_ends" s__law_ends [], fnT "_law_texts" "_law_texts" s__law_texts [], fnT "_law_turned" "_law_turned" s__law_turned [], fnT "__len__" "Groups.__len__" s_Groups_len [], fnT "__eq__" "Groups.__eq__" s_Groups_eq [], fnT "is_path" "is_path" s_is_path [], fnT "host_key" "host_key" s_host_key [], fnT "member_and_head" "member_and_head" s_member_and_head [], fnT "_law_of" "_law_of" s__law_of [], fnT "_law_label" "_law_label" s__law_label [], fnT "is_host" "is_host" s_is_host [], fnT "moved" "moved" s_moved [], fnT "_law_pool" "_law_pool" s__law_pool [], fnT "_law_host" "_law_host" s__law_host [], fnT "_law_groups" "_law_groups" s__law_groups [], fnT "host_of" "host_of" s_host_of [], fnT "host_text" "host_text" s_host_text [], fnT "translated" "Groups.translated" s_Groups_translated [], fnT "origins" "Groups.origins" s_Groups_origins [], fnT "checked_group" "checked_group" s_checked_group []]
def fa1 (K : PySem.W.Frag) : List Addr := [(mA K "Groups" "member"), (gA K "_law_right"), (mA K "Groups" "__init__"), (gA K "_law_made_groups"), (gA K "law"), (mA K "BadGroup" "__init__"), (mA K "BadHost" "__init__"), (mA K "Twice" "__init__")]
def fv1 : List FnV := [fnT "member" "Groups.member" s_Groups_member [], fnT "_law_right" "_law_right" s__law_right [], fnT "__init__" "Groups.__init__" s_Groups_init [], fnT "_law_made_groups" "_law_made_groups" s__law_made_groups [], fnT "law" "law" s_law [], some ("__init__", "BadGroup.__init__", PySem.OwnX.iA "group" ⟨11, 17, 11, 21⟩ ⟨11, 23, 11, 28⟩, .stmts (PySem.OwnX.iB "group" ⟨12, 8, 12, 12⟩ ⟨12, 8, 12, 18⟩ ⟨12, 21, 12, 26⟩ ⟨12, 8, 12, 26⟩), PySem.OwnX.iS "group", mainGlobals, [], builtinsNs), some ("__init__", "BadHost.__init__", PySem.OwnX.iA "host" ⟨7, 17, 7, 21⟩ ⟨7, 23, 7, 27⟩, .stmts (PySem.OwnX.iB "host" ⟨8, 8, 8, 12⟩ ⟨8, 8, 8, 17⟩ ⟨8, 20, 8, 24⟩ ⟨8, 8, 8, 24⟩), PySem.OwnX.iS "host", mainGlobals, [], builtinsNs), some ("__init__", "Twice.__init__", PySem.OwnX.iA "name" ⟨15, 17, 15, 21⟩ ⟨15, 23, 15, 27⟩, .stmts (PySem.OwnX.iB "name" ⟨16, 8, 16, 12⟩ ⟨16, 8, 16, 17⟩ ⟨16, 20, 16, 24⟩ ⟨16, 8, 16, 24⟩), PySem.OwnX.iS "name", mainGlobals, [], builtinsNs)]
def ex0 (K : PySem.W.Frag) : Bool := nm0L.all (ngB K)
def ex1 (K : PySem.W.Frag) : Bool := (fa0 K).all (fcB K)
def ex2 (K : PySem.W.Frag) : Bool := (fa1 K).all (fcB K) && (xB K "BadGroup" "group" .ve)
def ex3 (K : PySem.W.Frag) : Bool := xB K "BadHost" "host" .ve && (xB K "Twice" "name" .ve && (clsL.all (clB K) && (naB K "Groups" ["hosts", "groups"] && (mkB K "Groups" && (mtB K "Groups" "member" (mA K "Groups" "member") && (mtB K "Groups" "origins" (mA K "Groups" "origins") && (mtB K "Groups" "translated" (mA K "Groups" "translated") && (mtB K "Groups" "__len__" (mA K "Groups" "__len__")))))))))
def ex4 (K : PySem.W.Frag) : Bool := eqB K "Groups" (mA K "Groups" "__eq__") eqL && (isB K "Groups" [("Groups", true)] nB7 && (zsL.all (nnB K) && (gsB K "CHARACTERS" "0123456789abcdefghijklmnopqrstuvwxyz" && (giB K "LEAST_OF_GROUP" (2) && (giB K "LONGEST_LABEL" (20) && (giB K "MOST_GROUPS" (4) && (giB K "MOST_LABELS" (20) && (giB K "MOST_LABELS_OF_MEMBER" (3) && (giB K "MOST_OF_GROUP" (4))))))))))
def exs (K : PySem.W.Frag) : Bool := ex0 K && (ex1 K && (ex2 K && (ex3 K && (ex4 K))))
end K74
namespace K74
open PySem PySem.W PySem.Calls PyProof.Rows
def names0 : List PySem.Str := ["_wall", "__name__", "BadHost", "BadGroup", "Twice", "TooMany", "CHARACTERS", "LONGEST_LABEL", "MOST_LABELS", "is_label", "is_path", "is_host", "host_of", "host_text", "row_key", "host_key", "ends_with", "MOST_GROUPS", "LEAST_OF_GROUP", "MOST_OF_GROUP", "MOST_LABELS_OF_MEMBER", "member_and_head", "moved", "checked_group", "Groups", "_law_bag", "_law_take", "_law_of", "_law_label", "_law_pool"]
def names1 : List PySem.Str := ["_law_host", "_law_ends", "_law_groups", "_law_texts", "_law_made_groups", "_law_turned", "_law_right"]
def names : List PySem.Str := names0 ++ (names1)
abbrev RR : OpenRow := OpenLaw.row PySem.Challenge.rw_offeredentry_k74_whole_translations
theorem run0a (w : World) : DL.PartEq RR 40000 w (fun s => HandSHeadRun.looksF RR.prog (boot_heap w.params) s.abs) true := by
  intro os
  kernel_rfl
theorem run0b (w : World) : DL.PartEq RR 40000 w (fun s => HandSHeadRun.seenQ (view RR.prog [41]) names (importedModules RR.prog.main.body) (fun s => xlAt (view RR.prog [41]) [] s && recOk RR.toRowW.records s) s.abs) (openGood (view RR.prog [41]) names) := by
  intro os
  kernel_rfl
def fssA (K : PySem.W.Frag) : List DL.FnV := (fa0 K).map (DL.fnV K)
def fvsA : List DL.FnV := fv0
theorem runFA (w : World) : DL.PartEq RR 40000 w (fun s => DL.obF fssA (HandSHeadRun.getT s)) fvsA := by
  intro os
  kernel_rfl
def fssB (K : PySem.W.Frag) : List DL.FnV := (fa1 K).map (DL.fnV K)
def fvsB : List DL.FnV := fv1
theorem runFB (w : World) : DL.PartEq RR 40000 w (fun s => DL.obF fssB (HandSHeadRun.getT s)) fvsB := by
  intro os
  kernel_rfl
def fss (K : PySem.W.Frag) : List DL.FnV := fssA K ++ fssB K
def fvs : List DL.FnV := fvsA ++ fvsB
def gx0 (K : PySem.W.Frag) : Bool := ex0 K && (ex1 K && (ex2 K && (ex3 K)))
theorem runG0 (w : World) : DL.PartEq RR 40000 w (fun s => DL.obF gx0 (HandSHeadRun.getT s)) true := by
  intro os
  kernel_rfl
def gx1 (K : PySem.W.Frag) : Bool := ex4 K
theorem runG1 (w : World) : DL.PartEq RR 40000 w (fun s => DL.obF gx1 (HandSHeadRun.getT s)) true := by
  intro os
  kernel_rfl
def gxs (K : PySem.W.Frag) : Bool := gx0 K && (gx1 K)
theorem run (w : World) : HandSHeadRun.RunEq RR (view RR.prog [41]) (DL.hookH gxs fss fvs) (DL.obH gxs fss) 40000 names w := DL.PartEq.run ((run0a w).pair (run0b w)) ((runG0 w).and (runG1 w)) ((runFA w).app (runFB w))
theorem gxs_all {K : PySem.W.Frag} (c : gxs K = true) : exs K = true := by
  unfold gxs gx0 gx1 at c
  simp only [Bool.and_eq_true] at c
  unfold exs
  simp only [Bool.and_eq_true, c, and_self]
theorem bareE : RR.prog.bare := ⟨rfl, rfl, rfl, rfl, rfl, by decide +kernel⟩
theorem lawE (h : RR.wellSaid = true → RR.Holds) : PySem.Challenge.rw_offeredentry_k74_whole_translations.Holds := by
  w_on; o_law
  exact h (by assumption)
end K74
namespace DL
open PySem L2
inductive D where
  | non
  | bl (b : Bool)
  | int (i : Int)
  | str (s : List Nat)
  | tup (ds : List D)
  | lst (ds : List D)
  | dic (ks vs : List D)
  | ins (c : Str) (ns : List Str) (ds : List D)
  | scr (is : List Int)
  | xc (a dd : Addr) (f : Str) (d : D)
instance : Inhabited D := ⟨.non⟩
structure Exn where
  c : Str
  f : Str
  d : D
inductive R (α : Type) where
  | ok (a : α)
  | ex (e : Exn)
  | stuck
@[simp] def R.bd {α β : Type} : R α → (α → R β) → R β
  | .ok a, f => f a
  | .ex e, _ => .ex e
  | .stuck, _ => .stuck
instance : Monad R where
  pure := .ok
  bind := R.bd
@[simp] theorem R.pure_eq {α : Type} (a : α) : (pure a : R α) = .ok a := rfl
@[simp] theorem R.bind_eq {α β : Type} (x : R α) (f : α → R β) : (x >>= f) = x.bd f := rfl
structure S where
  x : Int
  y : Int
  z : Int
  l : List Int
  w : Bool
inductive MO (α : Type) where
  | ok (a : α) (s : S)
  | ex (e : Exn) (s : S)
  | stuck
def M (α : Type) : Type := S → MO α
@[simp] def MO.bd {α β : Type} : MO α → (α → M β) → MO β
  | .ok a s, f => f a s
  | .ex e s, _ => .ex e s
  | .stuck, _ => .stuck
instance : Monad M where
  pure := fun a s => .ok a s
  bind := fun x f s => (x s).bd f
theorem M.bind_ap {α β : Type} (x : M α) (f : α → M β) (s : S) : (x >>= f) s = (x s).bd f := rfl
class Mo (m : Type → Type) extends Monad m where
  lift : {α : Type} → R α → m α
  wp : {α : Type} → m α → S → (α → S → Prop) → (Exn → S → Prop) → Prop
  wp_mono : ∀ {α : Type} {x : m α} {s : S} {Q Q' : α → S → Prop} {E E' : Exn → S → Prop}, wp x s Q E → (∀ a s, Q a s → Q' a s) → (∀ e s, E e s → E' e s) → wp x s Q' E'
  wp_pure : ∀ {α : Type} {a : α} {s : S} {Q : α → S → Prop} {E : Exn → S → Prop}, wp (pure a) s Q E → Q a s
  wp_bind : ∀ {α β : Type} {x : m α} {f : α → m β} {s : S} {Q : β → S → Prop} {E : Exn → S → Prop}, wp (x >>= f) s Q E → wp x s (fun a s' => wp (f a) s' Q E) E
  tryC : {α : Type} → m α → (Exn → m α) → m α
  wp_try : ∀ {α : Type} {x : m α} {h : Exn → m α} {s : S} {Q : α → S → Prop} {E : Exn → S → Prop}, wp (tryC x h) s Q E → wp x s Q (fun e s' => wp (h e) s' Q E)
  noex : {α : Type} → m α → m α
  wp_noex : ∀ {α : Type} {x : m α} {s : S} {Q : α → S → Prop} {E : Exn → S → Prop}, wp (noex x) s Q E → wp x s Q (fun _ _ => False)
  wp_lift : ∀ {α : Type} {r : R α} {s : S} {Q : α → S → Prop} {E : Exn → S → Prop}, wp (lift r) s Q E → (match r with | .ok a => Q a s | .ex e => E e s | .stuck => False)
def R.wp {α : Type} (x : R α) (s : S) (Q : α → S → Prop) (E : Exn → S → Prop) : Prop := match x with
  | .ok a => Q a s
  | .ex e => E e s
  | .stuck => False
def MO.wp {α : Type} (x : MO α) (Q : α → S → Prop) (E : Exn → S → Prop) : Prop := match x with
  | .ok a s => Q a s
  | .ex e s => E e s
  | .stuck => False
@[simp] def R.nx {α : Type} : R α → R α
  | .ok a => .ok a
  | .ex _ => .stuck
  | .stuck => .stuck
@[simp] def MO.nx {α : Type} : MO α → MO α
  | .ok a s => .ok a s
  | .ex _ _ => .stuck
  | .stuck => .stuck
def M.nx {α : Type} (x : M α) : M α := fun s => (x s).nx
@[simp] def R.tr {α : Type} : R α → (Exn → R α) → R α
  | .ok a, _ => .ok a
  | .ex e, h => h e
  | .stuck, _ => .stuck
@[simp] def MO.tr {α : Type} : MO α → (Exn → M α) → MO α
  | .ok a s, _ => .ok a s
  | .ex e s, h => h e s
  | .stuck, _ => .stuck
def M.tr {α : Type} (x : M α) (h : Exn → M α) : M α := fun s => (x s).tr h
instance : Mo R where
  tryC := R.tr
  wp_try := fun {α x h s Q E} w => by
    cases x with
    | ok a => exact w
    | ex e => exact w
    | stuck => exact w
  noex := R.nx
  wp_noex := fun {α x s Q E} h => by
    cases x with
    | ok a => exact h
    | ex e => exact h
    | stuck => exact h
  lift := fun x => x
  wp := R.wp
  wp_mono := fun {α x s Q Q' E E'} h hq he => by
    cases x with
    | ok a => exact hq _ _ h
    | ex e => exact he _ _ h
    | stuck => exact h
  wp_pure := fun h => h
  wp_bind := fun {α β x f s Q E} h => by
    cases x with
    | ok a => exact h
    | ex e => exact h
    | stuck => exact h
  wp_lift := fun {α r s Q E} h => by cases r <;> exact h
def liftM' {α : Type} (r : R α) : M α := fun s => match r with
  | .ok a => .ok a s
  | .ex e => .ex e s
  | .stuck => .stuck
instance : Mo M where
  tryC := M.tr
  wp_try := fun {α x h s Q E} w => by
    have w' : ((x s).tr h).wp Q E := w
    show (x s).wp _ _
    cases e : x s with
    | ok a s' => rw [e] at w'; exact w'
    | ex ee s' => rw [e] at w'; exact w'
    | stuck => rw [e] at w'; exact w'
  noex := M.nx
  wp_noex := fun {α x s Q E} h => by
    have h' : ((x s).nx).wp Q E := h
    show (x s).wp _ _
    cases e : x s with
    | ok a s' => rw [e] at h'; exact h'
    | ex ee s' => rw [e] at h'; exact h'
    | stuck => rw [e] at h'; exact h'
  lift := liftM'
  wp := fun x s Q E => (x s).wp Q E
  wp_mono := fun {α x s Q Q' E E'} h hq he => by
    show (x s).wp Q' E'
    have h' : (x s).wp Q E := h
    cases e : x s with
    | ok a s' => rw [e] at h'; exact hq _ _ h'
    | ex ee s' => rw [e] at h'; exact he _ _ h'
    | stuck => rw [e] at h'; exact h'
  wp_pure := fun h => h
  wp_bind := fun {α β x f s Q E} h => by
    have h' : ((x s).bd f).wp Q E := h
    show (x s).wp _ _
    cases e : x s with
    | ok a s' => rw [e] at h'; exact h'
    | ex ee s' => rw [e] at h'; exact h'
    | stuck => rw [e] at h'; exact h'
  wp_lift := fun {α r s Q E} h => by cases r <;> exact h
end DL
namespace DL
open PySem L2
def Sub (H H' : Hp) : Prop := ∀ a o, H a = some o → H' a = some o
theorem Sub.refl (H : Hp) : Sub H H := fun _ _ h => h
theorem Sub.trans {H H1 H2 : Hp} (a : Sub H H1) (b : Sub H1 H2) : Sub H H2 := fun x o h => b x o (a x o h)
theorem Sub.rd {H H' : Hp} {a : Addr} {u : HO} (e : Sub H H') (h : Rd H a u) : Rd H' a u := by
  rcases h with h | ⟨o, h⟩
  · exact .inl (e a _ h)
  · exact .inr ⟨o, e a _ h⟩
theorem Sub.sql {K : PySem.W.Frag} {H H' : Hp} {a : Addr} {xs : List V} (e : Sub H H') (h : SqL K H a xs) : SqL K H' a xs := by
  rcases h with h | h
  · exact .inl (e.rd h)
  · exact .inr h
theorem Sub.sqt {K : PySem.W.Frag} {H H' : Hp} {a : Addr} {xs : List V} (e : Sub H H') (h : SqT K H a xs) : SqT K H' a xs := by
  rcases h with h | h
  · exact .inl (e.rd h)
  · exact .inr h
def ScL (K : PySem.W.Frag) (H : Hp) (a : Addr) (xs : List V) : Prop := (∃ o, H a = some (.frz o (.lst xs))) ∨ ∃ (o : Obj) (its : Array Value) (n : Nat), K.lookup a = some o ∧ o.cls = .type "list" ∧ o.dict = none ∧ o.data = .seq its n ∧ its.size ≤ sizeLine ∧ Vals xs its.toList
theorem ScL.sq {K : PySem.W.Frag} {H : Hp} {a : Addr} {xs : List V} : ScL K H a xs → SqL K H a xs
  | .inl h => .inl (.inr h)
  | .inr h => .inr h
theorem Sub.scl {K : PySem.W.Frag} {H H' : Hp} {a : Addr} {xs : List V} (e : Sub H H') : ScL K H a xs → ScL K H' a xs
  | .inl ⟨o, h⟩ => .inl ⟨o, e _ _ h⟩
  | .inr h => .inr h
section
variable (K : PySem.W.Frag) (mg : Str → Option Value)
mutual
def Is (H : Hp) : D → V → Prop
  | .non, v => v = .non
  | .bl b, v => v = .bl b
  | .int i, v => v = .int i
  | .str s, v => v = .str ⟨s.toArray⟩ ∧ s.length ≤ sizeLine
  | .tup ds, v => ds.length ≤ sizeLine ∧ ∃ a vs, v = .ref a ∧ SqT K H a vs ∧ IsL H ds vs
  | .lst ds, v => ds.length ≤ sizeLine ∧ ∃ a vs, v = .ref a ∧ H a = some (.lst vs) ∧ IsL H ds vs
  | .dic ks ds, v => ∃ a kvs, v = .ref a ∧ Rd H a (.dK kvs) ∧ IsL H ks (kvs.map fun p => kV p.1) ∧ IsL H ds (kvs.map fun p => p.2)
  | .ins c ns ds, v => ∃ a C dx vs, v = .ref a ∧ mg c = some (.ref C) ∧ H a = some (.ins C dx (ns.zip vs)) ∧ ns.length = vs.length ∧ IsL H ds vs
  | .scr is, v => is.length ≤ sizeLine ∧ ∃ a, v = .ref a ∧ ScL K H a (is.map V.int)
  | .xc a dd f d, v => v = .ref a ∧ ∃ u, H dd = some (.xd [(f, u)]) ∧ Is H d u
def IsL (H : Hp) : List D → List V → Prop
  | [], vs => vs = []
  | d :: ds, vs => ∃ v r, vs = v :: r ∧ Is H d v ∧ IsL H ds r
end
end
section
variable {K : PySem.W.Frag} {mg : Str → Option Value}
mutual
theorem Is.mono {H H' : Hp} (s : Sub H H') : ∀ {d : D} {v : V}, Is K mg H d v → Is K mg H' d v
  | .non, _, h => h
  | .bl _, _, h => h
  | .int _, _, h => h
  | .str _, _, h => h
  | .tup ds, _, h => by
    obtain ⟨z, a, vs, e, t, l⟩ := h
    exact ⟨z, a, vs, e, s.sqt t, IsL.mono s l⟩
  | .lst ds, _, h => by
    obtain ⟨z, a, vs, e, t, l⟩ := h
    exact ⟨z, a, vs, e, s _ _ t, IsL.mono s l⟩
  | .dic ks ds, _, h => by
    obtain ⟨a, kvs, e, t, l, l'⟩ := h
    exact ⟨a, kvs, e, s.rd t, IsL.mono s l, IsL.mono s l'⟩
  | .ins c ns ds, _, h => by
    obtain ⟨a, C, dx, vs, e, m, t, n, l⟩ := h
    exact ⟨a, C, dx, vs, e, m, s _ _ t, n, IsL.mono s l⟩
  | .scr is, _, h => by
    obtain ⟨z, a, e, t⟩ := h
    exact ⟨z, a, e, s.scl t⟩
  | .xc a dd f d, _, h => by
    obtain ⟨e, u, q, i⟩ := h
    exact ⟨e, u, s _ _ q, Is.mono s i⟩
theorem IsL.mono {H H' : Hp} (s : Sub H H') : ∀ {ds : List D} {vs : List V}, IsL K mg H ds vs → IsL K mg H' ds vs
  | [], _, h => h
  | d :: ds, _, h => by
    obtain ⟨v, r, e, i, l⟩ := h
    exact ⟨v, r, e, Is.mono s i, IsL.mono s l⟩
end
theorem IsL.nil {H : Hp} : IsL K mg H [] [] := rfl
theorem IsL.cons {H : Hp} {d : D} {ds : List D} {v : V} {vs : List V} (h : Is K mg H d v) (l : IsL K mg H ds vs) : IsL K mg H (d :: ds) (v :: vs) := ⟨v, vs, rfl, h, l⟩
theorem IsL.len {H : Hp} : ∀ {ds : List D} {vs : List V}, IsL K mg H ds vs → ds.length = vs.length
  | [], _, h => by cases h; rfl
  | d :: ds, _, h => by
    obtain ⟨v, r, rfl, _, l⟩ := h
    simp [IsL.len l]
theorem IsL.app {H : Hp} : ∀ {ds es : List D} {vs ws : List V}, IsL K mg H ds vs → IsL K mg H es ws → IsL K mg H (ds ++ es) (vs ++ ws)
  | [], _, _, _, h, l => by cases h; exact l
  | d :: ds, _, _, _, h, l => by
    obtain ⟨v, r, rfl, i, t⟩ := h
    exact ⟨v, r ++ _, rfl, i, IsL.app t l⟩
theorem IsL.get {H : Hp} : ∀ {ds : List D} {vs : List V} {i : Nat} {d : D}, IsL K mg H ds vs → ds[i]? = some d → ∃ v, vs[i]? = some v ∧ Is K mg H d v
  | [], _, _, _, h, e => by simp at e
  | d :: ds, _, 0, _, h, e => by
    obtain ⟨v, r, rfl, i, t⟩ := h
    simp at e; subst e
    exact ⟨v, rfl, i⟩
  | d :: ds, _, i + 1, _, h, e => by
    obtain ⟨v, r, rfl, _, t⟩ := h
    simpa using IsL.get (i := i) t (by simpa using e)
theorem IsL.getV {H : Hp} : ∀ {ds : List D} {vs : List V} {i : Nat} {v : V}, IsL K mg H ds vs → vs[i]? = some v → ∃ d, ds[i]? = some d ∧ Is K mg H d v
  | [], _, _, _, h, e => by cases h; simp at e
  | d :: ds, _, 0, _, h, e => by
    obtain ⟨v, r, rfl, i, t⟩ := h
    simp at e; subst e
    exact ⟨d, rfl, i⟩
  | d :: ds, _, i + 1, _, h, e => by
    obtain ⟨v, r, rfl, _, t⟩ := h
    simpa using IsL.getV (i := i) t (by simpa using e)
theorem IsL.drop {H : Hp} : ∀ {ds : List D} {vs : List V} (n : Nat), IsL K mg H ds vs → IsL K mg H (ds.drop n) (vs.drop n)
  | _, _, 0, h => h
  | [], _, n + 1, h => by cases h; exact rfl
  | d :: ds, _, n + 1, h => by
    obtain ⟨v, r, rfl, _, t⟩ := h
    exact IsL.drop n t
theorem IsL.take {H : Hp} : ∀ {ds : List D} {vs : List V} (n : Nat), IsL K mg H ds vs → IsL K mg H (ds.take n) (vs.take n)
  | _, _, 0, h => rfl
  | [], _, n + 1, h => by cases h; exact rfl
  | d :: ds, _, n + 1, h => by
    obtain ⟨v, r, rfl, i, t⟩ := h
    exact ⟨v, _, rfl, i, IsL.take n t⟩
theorem IsL.set {H : Hp} {d' : D} {v' : V} (h' : Is K mg H d' v') : ∀ {ds : List D} {vs : List V} (n : Nat), IsL K mg H ds vs → IsL K mg H (ds.set n d') (vs.set n v')
  | [], _, _, h => by cases h; exact rfl
  | d :: ds, _, 0, h => by
    obtain ⟨v, r, rfl, _, t⟩ := h
    exact ⟨v', r, rfl, h', t⟩
  | d :: ds, _, n + 1, h => by
    obtain ⟨v, r, rfl, i, t⟩ := h
    exact ⟨v, _, rfl, i, IsL.set h' n t⟩
theorem IsL.reverse {H : Hp} : ∀ {ds : List D} {vs : List V}, IsL K mg H ds vs → IsL K mg H ds.reverse vs.reverse
  | [], _, h => by cases h; exact rfl
  | d :: ds, _, h => by
    obtain ⟨v, r, rfl, i, t⟩ := h
    rw [List.reverse_cons, List.reverse_cons]
    exact (IsL.reverse t).app (.cons i .nil)
end
class TC where
  T : List NdefX.NTab
section
variable [TC]
def TabOk (H : Hp) : Prop := NdefX.TabsN TC.T H
theorem TabOk.ext {H H' : Hp} (t : TabOk H) (e : ∀ b o, H b = some o → H' b = some o) : TabOk H' := NdefX.TabsN.ext t e
theorem TabOk.new {H : Hp} {p : Addr} {o : HO} (t : TabOk H) (hp : H p = none) : TabOk (upd H p o) := t.ext fun b u e => by rw [upd_ne (ne_of_none e hp)]; exact e
theorem TabOk.ext2 {H H' : Hp} (t : TabOk H) (e : ∀ b o, H b = some o → ((∃ ps, o = .tbl ps) ∨ ∃ φ, o = .ext φ) → H' b = some o) : TabOk H' := fun q hq => by
  obtain ⟨ps, h1, h2, h3⟩ := t q hq
  refine ⟨ps, e _ _ h1 (.inl ⟨_, rfl⟩), h2, fun pos cv hc => ?_⟩
  obtain ⟨c, e1, e2⟩ := h3 pos cv hc
  exact ⟨c, e1, e _ _ e2 (.inr ⟨_, rfl⟩)⟩
theorem TabOk.upd {H : Hp} {p : Addr} {u o : HO} (t : TabOk H) (hp : H p = some u) (h1 : ∀ ps, u ≠ .tbl ps) (h2 : ∀ φ, u ≠ .ext φ) : TabOk (L2.upd H p o) := t.ext2 fun b v e k => by
  rw [upd_ne]
  · exact e
  · rintro rfl
    rw [hp] at e
    cases e
    rcases k with ⟨ps, z⟩ | ⟨φ, z⟩
    · exact h1 _ z
    · exact h2 _ z
def Pl (H : Hp) (p : Addr) : Prop := ∀ u, H p = some u → (∀ ps, u ≠ .tbl ps) ∧ ∀ φ, u ≠ .ext φ
theorem Pl.none {H : Hp} {p : Addr} (h : H p = none) : Pl H p := fun u e => by rw [h] at e; cases e
theorem Pl.of {H : Hp} {p : Addr} {v : HO} (h : H p = some v) (h1 : ∀ ps, v ≠ .tbl ps) (h2 : ∀ φ, v ≠ .ext φ) : Pl H p := fun u e => by
  rw [h] at e
  cases e
  exact ⟨h1, h2⟩
theorem Pl.lst {H : Hp} {p : Addr} {vs : List V} (h : H p = some (.lst vs)) : Pl H p := .of h (fun _ z => (by cases z)) fun _ z => (by cases z)
theorem Pl.dK {H : Hp} {p : Addr} {vs : List (Key × V)} (h : H p = some (.dK vs)) : Pl H p := .of h (fun _ z => (by cases z)) fun _ z => (by cases z)
theorem Pl.ins {H : Hp} {p C dx : Addr} {vs : List (Str × V)} (h : H p = some (.ins C dx vs)) : Pl H p := .of h (fun _ z => (by cases z)) fun _ z => (by cases z)
theorem TabOk.updP {H : Hp} {p : Addr} {o : HO} (t : TabOk H) (h : Pl H p) : TabOk (L2.upd H p o) := t.ext2 fun b v e k => by
  rw [upd_ne]
  · exact e
  · rintro rfl
    obtain ⟨h1, h2⟩ := h v e
    rcases k with ⟨ps, z⟩ | ⟨φ, z⟩
    · exact (h1 _ z).elim
    · exact (h2 _ z).elim
theorem TabOk.ne {H : Hp} (t : TabOk H) {q : NdefX.NTab} (hq : q ∈ TC.T) {p : Addr} {u : HO} (hp : H p = some u) (h1 : ∀ ps, u ≠ .tbl ps) : q.1 ≠ p := fun z => by
  obtain ⟨ps, h, _⟩ := t q hq
  rw [z, hp] at h
  exact h1 _ (Option.some.inj h)
theorem TabOk.at {H : Hp} (t : TabOk H) {q : NdefX.NTab} (hq : q ∈ TC.T) : H q.1 ≠ none := fun z => by
  obtain ⟨ps, h, _⟩ := t q hq
  rw [z] at h
  cases h
def TbF (Hf H : Hp) : Prop := TabOk H ∧ ∀ q ∈ TC.T, Hf q.1 = none
structure SubT (Hf H : Hp) : Prop where
  s : Sub Hf H
  t : TbF Hf H
instance {Hf H : Hp} : CoeFun (SubT Hf H) (fun _ => ∀ a o, Hf a = some o → H a = some o) := ⟨fun x => x.s⟩
instance {Hf H : Hp} : CoeOut (SubT Hf H) (Sub Hf H) := ⟨fun x => x.s⟩
theorem SubT.sqt {K : PySem.W.Frag} {Hf H : Hp} {a : Addr} {xs : List V} (e : SubT Hf H) (h : SqT K Hf a xs) : SqT K H a xs := e.s.sqt h
theorem SubT.sql {K : PySem.W.Frag} {Hf H : Hp} {a : Addr} {xs : List V} (e : SubT Hf H) (h : SqL K Hf a xs) : SqL K H a xs := e.s.sql h
theorem SubT.rd {Hf H : Hp} {a : Addr} {u : HO} (e : SubT Hf H) (h : Rd Hf a u) : Rd H a u := e.s.rd h
theorem SubT.scl {K : PySem.W.Frag} {Hf H : Hp} {a : Addr} {xs : List V} (e : SubT Hf H) (h : ScL K Hf a xs) : ScL K H a xs := e.s.scl h
theorem TbF.upd {Hf H : Hp} {p : Addr} {u o : HO} (t : TbF Hf H) (hp : H p = some u) (h1 : ∀ ps, u ≠ .tbl ps) (h2 : ∀ φ, u ≠ .ext φ) : TbF Hf (L2.upd H p o) := ⟨t.1.upd hp h1 h2, t.2⟩
theorem TbF.updP {Hf H : Hp} {p : Addr} {o : HO} (t : TbF Hf H) (h : Pl H p) : TbF Hf (L2.upd H p o) := ⟨t.1.updP h, t.2⟩
theorem TbF.new {Hf H : Hp} {p : Addr} {o : HO} (t : TbF Hf H) (hp : H p = none) : TbF Hf (L2.upd H p o) := ⟨t.1.new hp, t.2⟩
theorem TbF.frz {Hf H : Hp} {p : Addr} {u o : HO} (t : TbF Hf H) (hp : H p = some u) (h1 : ∀ ps, u ≠ .tbl ps) : TbF (L2.upd Hf p o) H := ⟨t.1, fun q hq => by rw [upd_ne (t.1.ne hq hp h1)]; exact t.2 q hq⟩
end
def BagAt (bag : List Addr) (H : Hp) (s : S) : Prop := match bag with
  | [] => True
  | [b] => s.w = false ∧ H b = some (.lst [.int s.x, .int s.y])
  | b :: c :: _ => s.w = true ∧ b ≠ c ∧ H b = some (.lst [.ref c, .int s.y, .int s.z]) ∧ H c = some (.lst (s.l.map V.int))
section
variable [TC]
structure Ste (bag : List Addr) (Hf H Hf' H' : Hp) : Prop where
  sub : Sub Hf Hf'
  top : Sub Hf' H'
  keep : ∀ a o, H a = some o → a ∉ bag → (∀ ps, o ≠ .tbl ps) → H' a = some o
  dom : ∀ a, H a ≠ none → H' a ≠ none
  fresh : ∀ a o, Hf' a = some o → Hf a = some o ∨ H a = none
  tab : TabOk H → TabOk H'
theorem Ste.refl {bag : List Addr} {Hf H : Hp} (h : Sub Hf H) : Ste bag Hf H Hf H := ⟨.refl _, h, fun _ _ e _ _ => e, fun _ e => e, fun _ _ e => .inl e, id⟩
theorem Ste.trans {bag : List Addr} {Hf H Hf1 H1 Hf2 H2 : Hp} (a : Ste bag Hf H Hf1 H1) (b : Ste bag Hf1 H1 Hf2 H2) : Ste bag Hf H Hf2 H2 :=
  ⟨a.sub.trans b.sub, b.top, fun x o e n k => b.keep x o (a.keep x o e n k) n k, fun x e => b.dom x (a.dom x e), fun x o e => by
    rcases b.fresh x o e with h | h
    · exact a.fresh x o h
    · refine .inr ?_
      cases q : H x with
      | none => rfl
      | some u => exact absurd h (a.dom x (by rw [q]; simp)), fun t => b.tab (a.tab t)⟩
theorem Ste.wide {bag : List Addr} {Hf H Hf' H' : Hp} (a : Ste [] Hf H Hf' H') : Ste bag Hf H Hf' H' :=
  ⟨a.sub, a.top, fun x o e _ k => a.keep x o e (by simp) k, a.dom, a.fresh, a.tab⟩
theorem Ste.bag {bag : List Addr} {Hf H Hf' H' : Hp} {s : S} (a : Ste [] Hf H Hf' H') (h : BagAt bag H s) : BagAt bag H' s := by
  match bag, h with
  | [], _ => trivial
  | [b], ⟨hw, h⟩ => exact ⟨hw, a.keep _ _ h (by simp) nofun⟩
  | b :: c :: _, ⟨hw, h0, h1, h2⟩ => exact ⟨hw, h0, a.keep _ _ h1 (by simp) nofun, a.keep _ _ h2 (by simp) nofun⟩
theorem Ste.new {bag : List Addr} {Hf H : Hp} {p : Addr} {o : HO} (h : Sub Hf H) (hp : H p = none) : Ste bag Hf H (upd Hf p o) (upd H p o) := by
  have hf : Hf p = none := by
    cases q : Hf p with
    | none => rfl
    | some u => rw [h _ _ q] at hp; cases hp
  refine ⟨fun a u e => ?_, fun a u e => ?_, fun a u e _ _ => ?_, fun a e => ?_, fun a u e => ?_, fun t => t.new hp⟩
  · rw [upd_ne (ne_of_none e hf)]; exact e
  · by_cases q : a = p
    · subst q; rw [upd_same] at e ⊢; exact e
    · rw [upd_ne q] at e ⊢; exact h _ _ e
  · rw [upd_ne (ne_of_none e hp)]; exact e
  · by_cases q : a = p
    · subst q; exact absurd hp e
    · rw [upd_ne q]; exact e
  · by_cases q : a = p
    · subst q; exact .inr hp
    · rw [upd_ne q] at e; exact .inl e
theorem Ste.new' {bag : List Addr} {Hf H : Hp} {p : Addr} {o : HO} (h : Sub Hf H) (hp : H p = none) : Ste bag Hf H Hf (upd H p o) := by
  refine ⟨.refl _, fun a u e => ?_, fun a u e _ _ => ?_, fun a e => ?_, fun a u e => .inl e, fun t => t.new hp⟩
  · have : H a = some u := h _ _ e
    rw [upd_ne (ne_of_none this hp)]; exact this
  · rw [upd_ne (ne_of_none e hp)]; exact e
  · by_cases q : a = p
    · subst q; exact absurd hp e
    · rw [upd_ne q]; exact e
theorem Sub.none {Hf H : Hp} (h : Sub Hf H) {p : Addr} (hp : H p = none) : Hf p = none := by
  cases q : Hf p with
  | none => rfl
  | some u => rw [h _ _ q] at hp; cases hp
theorem SubT.of {Hs Hf H : Hp} (ss : Sub Hs Hf) (t : SubT Hf H) : SubT Hs H := ⟨ss.trans t.s, t.t.1, fun q hq => ss.none (t.t.2 q hq)⟩
theorem SubT.none {Hf H : Hp} (h : SubT Hf H) {p : Addr} (hp : H p = Option.none) : Hf p = Option.none := h.s.none hp
theorem SubT.trans {Hf H H1 : Hp} (h : SubT Hf H) (g : Sub H H1) : Sub Hf H1 := h.s.trans g
inductive Sl where
  | un
  | im (d : D)
  | ow (ds : List D)
  | bg
  | od (ks ds : List D)
  | ob (ns : List Str) (ds : List D)
structure Fx where
  bag : List Addr
  H0 : Hp
  Hf0 : Hp
  W : WX
  gx : Option (List Sl)
  nr : Bool
  me : List Addr
  nas : List Str
section
variable (K : PySem.W.Frag) (mg : Str → Option Value) [TC]
def SlOk (fx : Fx) (Hf H : Hp) (o : Option (Option V)) : Sl → Prop
  | .un => True
  | .im d => ∃ v, o = some (some v) ∧ Is K mg Hf d v
  | .ow ds => ∃ p vs, o = some (some (.ref p)) ∧ H p = some (.lst vs) ∧ Hf p = none ∧ fx.H0 p = none ∧ p ∉ fx.bag ∧ IsL K mg Hf ds vs ∧ ds.length ≤ sizeLine
  | .bg => ∃ b r, fx.bag = b :: r ∧ o = some (some (.ref b))
  | .od ks ds => ∃ p kvs, o = some (some (.ref p)) ∧ H p = some (.dK kvs) ∧ Hf p = none ∧ fx.H0 p = none ∧ p ∉ fx.bag ∧ IsL K mg Hf ks (kvs.map fun p => kV p.1) ∧ IsL K mg Hf ds (kvs.map fun p => p.2) ∧ ks.length ≤ sizeLine
  | .ob ns ds => ∃ p C dx vs, o = some (some (.ref p)) ∧ H p = some (.ins C dx (ns.zip vs)) ∧ Hf p = none ∧ (p ∈ fx.me ∧ ∃ f0, fx.H0 p = some (.ins C dx f0)) ∧ p ∉ fx.bag ∧ (Cls K C ∧ ∀ f ∈ fx.nas, NoAttr K C f) ∧ ns.length = vs.length ∧ IsL K mg Hf ds vs
def RtOk : Bool → Hp → Hp → Hp → D → V → Prop
  | false, _, Hf', _, d, v => Is K mg Hf' d v
  | true, H0, Hf', H', d, v => ∃ p vs ds, d = .lst ds ∧ v = .ref p ∧ H' p = some (.lst vs) ∧ Hf' p = none ∧ H0 p = none ∧ IsL K mg Hf' ds vs ∧ ds.length ≤ sizeLine
def isOw : Sl → Bool
  | .ow _ => true
  | .od _ _ => true
  | .ob _ _ => true
  | _ => false
structure StS (fx : Fx) (Hf H : Hp) (σ : L2.St) (G : List Sl) (s : S) : Prop where
  ste : Ste (fx.me ++ fx.bag) fx.Hf0 fx.H0 Hf H
  bag : BagAt fx.bag H s
  bagg : ∀ b ∈ fx.me ++ fx.bag, Hf b = none ∧ H b ≠ none ∧ (b ∈ fx.me → fx.H0 b ≠ none)
  tb : TbF Hf H
  len : σ.length = G.length
  sl : ∀ (i : Nat) (x : Sl), G[i]? = some x → SlOk K mg fx Hf H σ[i]? x
  dis : ∀ (i j : Nat) (x y : Sl) (p : Addr), i ≠ j → G[i]? = some x → G[j]? = some y → isOw x = true → isOw y = true → σ[i]? = some (some (.ref p)) → σ[j]? = some (some (.ref p)) → False
end
section
variable {K : PySem.W.Frag} {mg : Str → Option Value} {fx : Fx} {Hf H Hf' H' : Hp} {σ : L2.St} {G G' : List Sl} {s s' : S} [TC]
theorem StS.bagf (st : StS K mg fx Hf H σ G s) : ∀ b ∈ fx.bag, Hf b = none ∧ H b ≠ none := fun b m => ⟨(st.bagg b (List.mem_append_right _ m)).1, (st.bagg b (List.mem_append_right _ m)).2.1⟩
theorem StS.owNb (st : StS K mg fx Hf H σ G s) {p : Addr} (h0 : fx.H0 p = none) (nb : p ∉ fx.bag) : p ∉ fx.me ++ fx.bag := fun m => by
  rcases List.mem_append.mp m with q | q
  · exact (st.bagg p m).2.2 q h0
  · exact nb q
theorem Ste.wider {bag bag' : List Addr} {Hf H Hf' H' : Hp} (a : Ste bag Hf H Hf' H') : Ste (bag' ++ bag) Hf H Hf' H' :=
  ⟨a.sub, a.top, fun x o e n k => a.keep x o e (fun z => n (List.mem_append_right _ z)) k, a.dom, a.fresh, a.tab⟩
theorem StS.top (st : StS K mg fx Hf H σ G s) : Sub Hf H := st.ste.top
theorem StS.topT (st : StS K mg fx Hf H σ G s) : SubT Hf H := ⟨st.ste.top, st.tb⟩
theorem Ste.stayNone {bag : List Addr} {Hf H Hf' H' : Hp} (a : Ste bag Hf H Hf' H') {p : Addr} (hf : Hf p = none) (h : H p ≠ none) : Hf' p = none := by
  cases q : Hf' p with
  | none => rfl
  | some u =>
    rcases a.fresh _ _ q with z | z
    · rw [hf] at z; cases z
    · exact absurd z h
theorem Ste.subT {bag : List Addr} {Hf H Hf1 H1 : Hp} (st : Ste bag Hf H Hf1 H1) (t : TbF Hf H) : SubT Hf1 H1 := ⟨st.top, st.tab t.1, fun q hq => st.stayNone (t.2 q hq) (t.1.at hq)⟩
theorem SlOk.step {o : Option (Option V)} (a : Ste fx.bag Hf H Hf' H') : ∀ {x : Sl}, SlOk K mg fx Hf H o x → SlOk K mg fx Hf' H' o x
  | .un, _ => trivial
  | .im d, ⟨v, e, i⟩ => ⟨v, e, i.mono a.sub⟩
  | .ow ds, ⟨p, vs, e, h, hf, h0, nb, l, z⟩ => ⟨p, vs, e, a.keep _ _ h nb nofun, a.stayNone hf (by rw [h]; simp), h0, nb, l.mono a.sub, z⟩
  | .bg, h => h
  | .od ks ds, ⟨p, vs, e, h, hf, h0, nb, l, l', z⟩ => ⟨p, vs, e, a.keep _ _ h nb nofun, a.stayNone hf (by rw [h]; simp), h0, nb, l.mono a.sub, l'.mono a.sub, z⟩
  | .ob ns ds, ⟨p, C, dx, vs, e, h, hf, h0, nb, c, hn, l⟩ => ⟨p, C, dx, vs, e, a.keep _ _ h nb nofun, a.stayNone hf (by rw [h]; simp), h0, nb, c, hn, l.mono a.sub⟩
theorem StS.step (st : StS K mg fx Hf H σ G s) (a : Ste fx.bag Hf H Hf' H') (hb : BagAt fx.bag H' s') : StS K mg fx Hf' H' σ G s' :=
  ⟨st.ste.trans a.wider, hb, fun b m => ⟨a.stayNone (st.bagg b m).1 (st.bagg b m).2.1, a.dom _ (st.bagg b m).2.1, (st.bagg b m).2.2⟩, ⟨a.tab st.tb.1, fun q hq => a.stayNone (st.tb.2 q hq) (st.tb.1.at hq)⟩, st.len, fun i x e => (st.sl i x e).step a, st.dis⟩
def Wk : List Sl → List Sl → Prop
  | [], [] => True
  | x :: xs, y :: ys => (x = y ∨ y = .un) ∧ Wk xs ys
  | _, _ => False
theorem Wk.len : ∀ {G G' : List Sl}, Wk G G' → G.length = G'.length
  | [], [], _ => rfl
  | _ :: _, _ :: _, h => by simp [Wk.len h.2]
  | [], _ :: _, h => h.elim
  | _ :: _, [], h => h.elim
theorem Wk.get : ∀ {G G' : List Sl} {i : Nat} {y : Sl}, Wk G G' → G'[i]? = some y → ∃ x, G[i]? = some x ∧ (x = y ∨ y = .un)
  | [], [], _, _, _, e => by simp at e
  | x :: _, y :: _, 0, _, h, e => by simp at e; subst e; exact ⟨x, rfl, h.1⟩
  | _ :: _, _ :: _, i + 1, _, h, e => by simpa using Wk.get (i := i) h.2 (by simpa using e)
  | [], _ :: _, _, _, h, _ => h.elim
  | _ :: _, [], _, _, h, _ => h.elim
theorem Wk.refl : ∀ (G : List Sl), Wk G G
  | [] => trivial
  | x :: xs => ⟨.inl rfl, Wk.refl xs⟩
theorem StS.weak (st : StS K mg fx Hf H σ G s) (w : Wk G G') : StS K mg fx Hf H σ G' s :=
  ⟨st.ste, st.bag, st.bagg, st.tb, st.len.trans w.len, fun i y e => by
    obtain ⟨x, ex, h⟩ := w.get e
    rcases h with rfl | rfl
    · exact st.sl i x ex
    · trivial, fun i j x y p hij ex ey ox oy => by
    obtain ⟨x', ex', hx⟩ := w.get ex
    obtain ⟨y', ey', hy⟩ := w.get ey
    rcases hx with rfl | rfl
    · rcases hy with rfl | rfl
      · exact st.dis i j _ _ p hij ex' ey' ox oy
      · cases oy
    · cases ox⟩
theorem StS.set {i : Nat} {d : D} {v : V} (st : StS K mg fx Hf H σ G s) (h : Is K mg Hf d v) : StS K mg fx Hf H (σ.set i (some v)) (G.set i (.im d)) s := by
  refine ⟨st.ste, st.bag, st.bagg, st.tb, by simpa using st.len, fun j x e => ?_, fun j k x y p hjk ex ey ox oy e1 e2 => ?_⟩
  · by_cases q : i = j
    · subst q
      have hi : i < G.length := by
        have := (List.getElem?_eq_some_iff.mp e).1
        simpa using this
      rw [List.getElem?_set_self hi] at e
      cases e
      exact ⟨v, List.getElem?_set_self (by rw [st.len]; exact hi), h⟩
    · rw [List.getElem?_set_ne q] at e
      rw [List.getElem?_set_ne q]
      exact st.sl j x e
  · have nj : i ≠ j := by
      rintro rfl
      have hi : i < G.length := by
        have := (List.getElem?_eq_some_iff.mp ex).1
        simpa using this
      rw [List.getElem?_set_self hi] at ex
      cases ex; cases ox
    have nk : i ≠ k := by
      rintro rfl
      have hi : i < G.length := by
        have := (List.getElem?_eq_some_iff.mp ey).1
        simpa using this
      rw [List.getElem?_set_self hi] at ey
      cases ey; cases oy
    rw [List.getElem?_set_ne nj] at ex e1
    rw [List.getElem?_set_ne nk] at ey e2
    exact st.dis j k x y p hjk ex ey ox oy e1 e2
theorem StS.setOw {i : Nat} {ds : List D} {p : Addr} {vs : List V} (st : StS K mg fx Hf H σ G s) (hn : ∀ (j : Nat) (q : Addr), σ[j]? = some (some (.ref q)) → (∀ x, G[j]? = some x → isOw x = true → q ≠ p)) (h : H p = some (.lst vs)) (hf : Hf p = none) (h0 : fx.H0 p = none) (nb : p ∉ fx.bag) (l : IsL K mg Hf ds vs) (hz : ds.length ≤ sizeLine) :
    StS K mg fx Hf H (σ.set i (some (.ref p))) (G.set i (.ow ds)) s := by
  refine ⟨st.ste, st.bag, st.bagg, st.tb, by simpa using st.len, fun j x e => ?_, fun j k x y q hjk ex ey ox oy e1 e2 => ?_⟩
  · by_cases q : i = j
    · subst q
      have hi : i < G.length := by
        have := (List.getElem?_eq_some_iff.mp e).1
        simpa using this
      rw [List.getElem?_set_self hi] at e
      cases e
      exact ⟨p, vs, List.getElem?_set_self (by rw [st.len]; exact hi), h, hf, h0, nb, l, hz⟩
    · rw [List.getElem?_set_ne q] at e
      rw [List.getElem?_set_ne q]
      exact st.sl j x e
  · have hi : ∀ {z : Sl}, (G.set i (.ow ds))[i]? = some z → i < σ.length := fun e => by
      have := (List.getElem?_eq_some_iff.mp e).1
      rw [st.len]
      simpa using this
    by_cases a : i = j
    · subst a
      rw [List.getElem?_set_self (hi ex)] at e1
      have hk : i ≠ k := hjk
      rw [List.getElem?_set_ne hk] at ey e2
      cases e1
      exact hn k p e2 y ey oy rfl
    · rw [List.getElem?_set_ne a] at ex e1
      by_cases b : i = k
      · subst b
        rw [List.getElem?_set_self (hi ey)] at e2
        cases e2
        exact hn j p e1 x ex ox rfl
      · rw [List.getElem?_set_ne b] at ey e2
        exact st.dis j k x y q hjk ex ey ox oy e1 e2
end
theorem BagAt.upd {bag : List Addr} {H : Hp} {s : S} {p : Addr} {o : HO} (h : BagAt bag H s) (nb : p ∉ bag) : BagAt bag (L2.upd H p o) s := by
  match bag, h, nb with
  | [], _, _ => trivial
  | [b], h, nb =>
    have e : H b = some (.lst [.int s.x, .int s.y]) := h.2
    refine ⟨h.1, ?_⟩
    rw [upd_ne (fun z => nb (by simp [z]))]
    exact e
  | b :: c :: r, ⟨hw, h0, h1, h2⟩, nb =>
    refine ⟨hw, h0, ?_, ?_⟩
    · rw [upd_ne (fun z => nb (by simp [z]))]; exact h1
    · rw [upd_ne (fun z => nb (by simp [z]))]; exact h2
section
variable {K : PySem.W.Frag} {mg : Str → Option Value} {fx : Fx} {Hf H : Hp} {σ : L2.St} {G : List Sl} {s : S} [TC]
theorem SlOk.ref {o : Option (Option V)} : ∀ {x : Sl}, isOw x = true → SlOk K mg fx Hf H o x → ∃ p, o = some (some (.ref p)) ∧ H p ≠ none ∧ Hf p = none ∧ p ∉ fx.bag ∧ (fx.H0 p = none ∨ p ∈ fx.me)
  | .un, h, _ => by cases h
  | .im d, h, _ => by cases h
  | .bg, h, _ => by cases h
  | .ow ds, _, ⟨p, vs, e, h, hf, h0, nb, l, z⟩ => ⟨p, e, by rw [h]; simp, hf, nb, .inl h0⟩
  | .od ks ds, _, ⟨p, vs, e, h, hf, h0, nb, l, l', z⟩ => ⟨p, e, by rw [h]; simp, hf, nb, .inl h0⟩
  | .ob ns ds, _, ⟨p, C, dx, vs, e, h, hf, h0, nb, c, hn, l⟩ => ⟨p, e, by rw [h]; simp, hf, nb, .inr h0.1⟩
theorem SlOk.upd {o : Option (Option V)} {p : Addr} {u : HO} : ∀ {x : Sl}, (∀ q, isOw x = true → o = some (some (.ref q)) → q ≠ p) → SlOk K mg fx Hf H o x → SlOk K mg fx Hf (L2.upd H p u) o x
  | .un, _, _ => trivial
  | .im d, _, h => h
  | .bg, _, h => h
  | .ow ds, w, ⟨q, vs, e, h, hf, h0, nb, l, z⟩ => ⟨q, vs, e, by rw [upd_ne (w q rfl e)]; exact h, hf, h0, nb, l, z⟩
  | .od ks ds, w, ⟨q, vs, e, h, hf, h0, nb, l, l', z⟩ => ⟨q, vs, e, by rw [upd_ne (w q rfl e)]; exact h, hf, h0, nb, l, l', z⟩
  | .ob ns ds, w, ⟨q, C, dx, vs, e, h, hf, h0, nb, c, hn, l⟩ => ⟨q, C, dx, vs, e, by rw [upd_ne (w q rfl e)]; exact h, hf, h0, nb, c, hn, l⟩
theorem SlOk.frz {o : Option (Option V)} {p : Addr} {u : HO} (sb : Sub Hf (L2.upd Hf p u)) : ∀ {x : Sl}, (∀ q, isOw x = true → o = some (some (.ref q)) → q ≠ p) → SlOk K mg fx Hf H o x → SlOk K mg fx (L2.upd Hf p u) H o x
  | .un, _, _ => trivial
  | .im d, _, ⟨v, a, b⟩ => ⟨v, a, b.mono sb⟩
  | .bg, _, h => h
  | .ow ds, w, ⟨q, vs, e, h, hf, h0, nb, l, z⟩ => ⟨q, vs, e, h, by rw [upd_ne (w q rfl e)]; exact hf, h0, nb, l.mono sb, z⟩
  | .od ks ds, w, ⟨q, vs, e, h, hf, h0, nb, l, l', z⟩ => ⟨q, vs, e, h, by rw [upd_ne (w q rfl e)]; exact hf, h0, nb, l.mono sb, l'.mono sb, z⟩
  | .ob ns ds, w, ⟨q, C, dx, vs, e, h, hf, h0, nb, c, hn, l⟩ => ⟨q, C, dx, vs, e, h, by rw [upd_ne (w q rfl e)]; exact hf, h0, nb, c, hn, l.mono sb⟩
theorem SlOk.kind {o : Option (Option V)} {p : Addr} : ∀ {x : Sl}, isOw x = true → SlOk K mg fx Hf H o x → o = some (some (.ref p)) → ∃ u, H p = some u ∧ (∀ ps, u ≠ .tbl ps) ∧ ∀ φ, u ≠ .ext φ
  | .un, h, _, _ => by cases h
  | .im d, h, _, _ => by cases h
  | .bg, h, _, _ => by cases h
  | .ow ds, _, ⟨q, vs, e, h, _⟩, e2 => by
    rw [e] at e2
    cases e2
    exact ⟨_, h, fun _ z => (by cases z), fun _ z => (by cases z)⟩
  | .od ks ds, _, ⟨q, vs, e, h, _⟩, e2 => by
    rw [e] at e2
    cases e2
    exact ⟨_, h, fun _ z => (by cases z), fun _ z => (by cases z)⟩
  | .ob ns ds, _, ⟨q, C, dx, vs, e, h, _⟩, e2 => by
    rw [e] at e2
    cases e2
    exact ⟨_, h, fun _ z => (by cases z), fun _ z => (by cases z)⟩
theorem StS.updAt {i : Nat} {x x' : Sl} {p : Addr} {u : HO} (st : StS K mg fx Hf H σ G s) (hG : G[i]? = some x) (ox : isOw x = true) (hp : σ[i]? = some (some (.ref p))) (ox' : isOw x' = true) (new : SlOk K mg fx Hf (upd H p u) (some (some (.ref p))) x') :
    StS K mg fx Hf (upd H p u) σ (G.set i x') s := by
  obtain ⟨q, e, h, hf, nb, h0⟩ := (st.sl i _ hG).ref ox
  have eq : q = p := by rw [hp] at e; cases e; rfl
  subst eq
  have hi : i < G.length := (List.getElem?_eq_some_iff.mp hG).1
  obtain ⟨u0, hu0, ku1, ku2⟩ := (st.sl i _ hG).kind ox hp
  have tk : TabOk H → TabOk (upd H q u) := fun tt => tt.upd hu0 ku1 ku2
  clear e
  refine ⟨⟨st.ste.sub, fun a o e => ?_, fun a o e n k => ?_, fun a n => ?_, st.ste.fresh, fun tt => tk (st.ste.tab tt)⟩, st.bag.upd nb, fun b m => ⟨(st.bagg b m).1, ?_, (st.bagg b m).2.2⟩, ⟨tk st.tb.1, st.tb.2⟩, by simpa using st.len, fun j x ex => ?_, fun j k x y r hjk ex ey ox oy e1 e2 => ?_⟩
  · have ne : a ≠ q := fun z => by rw [z, hf] at e; cases e
    rw [upd_ne ne]
    exact st.top a o e
  · have ne : a ≠ q := fun z => by
      rcases h0 with y | y
      · rw [z, y] at e; cases e
      · exact n (List.mem_append_left _ (z ▸ y))
    rw [upd_ne ne]
    exact st.ste.keep a o e n k
  · by_cases ne : a = q
    · rw [ne, upd_same]; simp
    · rw [upd_ne ne]; exact st.ste.dom a n
  · by_cases ne : b = q
    · rw [ne, upd_same]; simp
    · rw [upd_ne ne]
      exact (st.bagg b m).2.1
  · by_cases c : i = j
    · subst c
      rw [List.getElem?_set_self hi] at ex
      cases ex
      rw [hp]
      exact new
    · rw [List.getElem?_set_ne c] at ex
      exact (st.sl j x ex).upd fun q2 o2 e2 z => st.dis i j _ _ q c hG ex ox o2 hp (by rw [e2, z])
  · have get : ∀ {n : Nat} {z : Sl}, (G.set i x')[n]? = some z → isOw z = true → ∃ z', G[n]? = some z' ∧ isOw z' = true := fun {n z} e o => by
      by_cases c : i = n
      · subst c; exact ⟨_, hG, by assumption⟩
      · rw [List.getElem?_set_ne c] at e; exact ⟨z, e, o⟩
    obtain ⟨x1, ex', ox1⟩ := get ex ox
    obtain ⟨y1, ey', oy1⟩ := get ey oy
    exact st.dis j k x1 y1 r hjk ex' ey' ox1 oy1 e1 e2
theorem StS.updOw {i : Nat} {ds ds' : List D} {p : Addr} {vs' : List V} (st : StS K mg fx Hf H σ G s) (hG : G[i]? = some (.ow ds)) (hp : σ[i]? = some (some (.ref p))) (l : IsL K mg Hf ds' vs') (hz : ds'.length ≤ sizeLine) :
    StS K mg fx Hf (upd H p (.lst vs')) σ (G.set i (.ow ds')) s := by
  obtain ⟨q, vs, e, h, hf, h0, nb, l0, z0⟩ := st.sl i _ hG
  have eq : q = p := by rw [hp] at e; cases e; rfl
  subst eq
  exact st.updAt hG rfl hp rfl ⟨q, vs', rfl, upd_same, hf, h0, nb, l, hz⟩
theorem StS.freezeAt {i : Nat} {x : Sl} {d : D} {p : Addr} {u : HO} (st : StS K mg fx Hf H σ G s) (hG : G[i]? = some x) (ox : isOw x = true) (hp : σ[i]? = some (some (.ref p))) (hu : H p = some u) (h0 : fx.H0 p = none) (is : ∀ Hf', Sub Hf Hf' → Hf' p = some u → Is K mg Hf' d (.ref p)) :
    ∃ Hf', (Sub Hf Hf' ∧ ∀ a o, Hf' a = some o → Hf a = some o ∨ o = u) ∧ StS K mg fx Hf' H σ (G.set i (.im d)) s := by
  obtain ⟨q, e, h, hf, nb, _⟩ := (st.sl i _ hG).ref ox
  have eq : q = p := by rw [hp] at e; cases e; rfl
  subst eq
  have hi : i < G.length := (List.getElem?_eq_some_iff.mp hG).1
  obtain ⟨u0, hu0, ku1, _⟩ := (st.sl i _ hG).kind ox hp
  have ku : ∀ ps, u ≠ .tbl ps := by
    rw [hu] at hu0
    cases hu0
    exact ku1
  have sb : Sub Hf (upd Hf q u) := fun a o z => by
    have ne : a ≠ q := fun y => by rw [y, hf] at z; cases z
    rw [upd_ne ne]; exact z
  refine ⟨upd Hf q u, ⟨sb, fun a o z => by
    by_cases c : a = q
    · subst c; rw [upd_same] at z; cases z; exact .inr rfl
    · rw [upd_ne c] at z; exact .inl z⟩, ⟨st.ste.sub.trans sb, fun a o z => ?_, st.ste.keep, st.ste.dom, fun a o z => ?_, st.ste.tab⟩, st.bag, fun b m => ⟨?_, (st.bagg b m).2⟩, st.tb.frz hu ku, by simpa using st.len, fun j x ex => ?_, fun j k x y r hjk ex ey ox oy e1 e2 => ?_⟩
  · by_cases c : a = q
    · subst c; rw [upd_same] at z; cases z; exact hu
    · rw [upd_ne c] at z; exact st.top a o z
  · by_cases c : a = q
    · subst c; exact .inr h0
    · rw [upd_ne c] at z; exact st.ste.fresh a o z
  · have ne : b ≠ q := fun z => st.owNb h0 nb (z ▸ m)
    rw [upd_ne ne]; exact (st.bagg b m).1
  · by_cases c : i = j
    · subst c
      rw [List.getElem?_set_self hi] at ex
      cases ex
      exact ⟨_, e, is _ sb upd_same⟩
    · rw [List.getElem?_set_ne c] at ex
      exact (st.sl j x ex).frz sb fun q2 o2 e2 z => st.dis i j _ _ q c hG ex ox o2 hp (by rw [e2, z])
  · have nx : i ≠ j := fun z => by subst z; rw [List.getElem?_set_self hi] at ex; cases ex; cases ox
    have ny : i ≠ k := fun z => by subst z; rw [List.getElem?_set_self hi] at ey; cases ey; cases oy
    rw [List.getElem?_set_ne nx] at ex
    rw [List.getElem?_set_ne ny] at ey
    exact st.dis j k x y r hjk ex ey ox oy e1 e2
theorem StS.freeze {i : Nat} {ds : List D} (st : StS K mg fx Hf H σ G s) (hG : G[i]? = some (.ow ds)) : ∃ Hf', Sub Hf Hf' ∧ StS K mg fx Hf' H σ (G.set i (.im (.lst ds))) s := by
  obtain ⟨p, vs, e, h, hf, h0, nb, l0, z0⟩ := st.sl i _ hG
  obtain ⟨Hf', ⟨sb, _⟩, st'⟩ := st.freezeAt (d := .lst ds) hG rfl e h h0 fun Hf' sb z => ⟨z0, p, vs, rfl, z, l0.mono sb⟩
  exact ⟨Hf', sb, st'⟩
theorem StS.freeze2 {i : Nat} {ds : List D} (st : StS K mg fx Hf H σ G s) (hG : G[i]? = some (.ow ds)) : ∃ Hf', Sub Hf Hf' ∧ (∀ a o, Hf' a = some o → Hf a = some o ∨ ∃ vs, o = .lst vs) ∧ StS K mg fx Hf' H σ (G.set i (.im (.lst ds))) s := by
  obtain ⟨p, vs, e, h, hf, h0, nb, l0, z0⟩ := st.sl i _ hG
  obtain ⟨Hf', ⟨sb, nw⟩, st'⟩ := st.freezeAt (d := .lst ds) hG rfl e h h0 fun Hf' sb z => ⟨z0, p, vs, rfl, z, l0.mono sb⟩
  exact ⟨Hf', sb, fun a o z => (nw a o z).imp id fun e => ⟨_, e⟩, st'⟩
theorem StS.new0 (st : StS K mg fx Hf H σ G s) {p : Addr} (h : H p = none) : fx.H0 p = none ∧ p ∉ fx.bag ∧ Hf p = none := by
  refine ⟨?_, fun m => (st.bagf p m).2 h, st.top.none h⟩
  cases q : fx.H0 p with
  | none => rfl
  | some o => exact absurd h (st.ste.dom p (by rw [q]; simp))
theorem StS.owNe (st : StS K mg fx Hf H σ G s) {p : Addr} (h : H p = none) : ∀ (j : Nat) (q : Addr), σ[j]? = some (some (.ref q)) → (∀ x, G[j]? = some x → isOw x = true → q ≠ p) := fun j q e x ex ox z => by
  obtain ⟨q2, e2, h2, _⟩ := (st.sl j _ ex).ref ox
  rw [e] at e2
  cases e2
  rw [z] at h2
  exact h2 h
end
end
end DL
namespace DL
open PySem L2
section
variable (K : PySem.W.Frag) (mg : Str → Option Value) (fx : Fx) [DL.TC]
def ExIs (Hf H : Hp) (e : Exn) (cls : Value) (dd : Option Addr) : Prop :=
  ∃ C a v, mg e.c = some (.ref C) ∧ cls = .ref C ∧ dd = some a ∧ Hf a = some (.xd [(e.f, v)]) ∧ Is K mg Hf e.d v
def EX (G : List Sl) (σ : L2.St) : Exn → S → Prop := fun e s' => ∀ cls dd Hf' H', StS K mg fx Hf' H' σ G s' → ExIs K mg Hf' H' e cls dd → fx.W cls dd σ H'
variable {m : Type → Type} [Mo m] {α β : Type}
def tX (G : List Sl) (rl : Hp → α → β → Prop) (x : m α) (Hf : Hp) (s : S) (σ : L2.St) (H : Hp) (Q : β → Hp → Prop) : Prop :=
  StS K mg fx Hf H σ G s ∧ Mo.wp x s (fun a s' => ∀ b Hf' H', Ste fx.bag Hf H Hf' H' → BagAt fx.bag H' s' → rl Hf' a b → Q b H') (EX K mg fx G σ)
def tG (G : List Sl) (rl : Hp → α → β → Prop) (x : m α) : L2.St → Hp → (β → Hp → Prop) → Prop := fun σ H Q => ∃ Hf s, tX K mg fx G rl x Hf s σ H Q
abbrev tE (G : List Sl) (x : m D) : TE := tG K mg fx G (fun H d v => Is K mg H d v) x
abbrev tT (G : List Sl) (x : m Bool) : TT := tG K mg fx G (fun _ a b => b = a) x
abbrev tA (G : List Sl) (x : m (List D)) : TA := tG K mg fx G (fun H d v => IsL K mg H d v) x
end
section
variable {K : PySem.W.Frag} {mg : Str → Option Value} {fx : Fx} {m : Type → Type} [Mo m] {α β γ δ : Type} {G : List Sl} {rl : Hp → α → β → Prop} {rm : Hp → γ → δ → Prop} [DL.TC]
theorem tX.mono {x : m α} {Hf : Hp} {s : S} {σ : L2.St} {H : Hp} {Q Q' : β → Hp → Prop} (h : tX K mg fx G rl x Hf s σ H Q) (q : ∀ b H', Q b H' → Q' b H') : tX K mg fx G rl x Hf s σ H Q' :=
  ⟨h.1, Mo.wp_mono h.2 (fun a s' k b Hf' H' e bg r => q b H' (k b Hf' H' e bg r)) fun e s' k => k⟩
theorem tX.bind {x : m α} {k : α → m γ} {Hf : Hp} {s : S} {σ : L2.St} {H : Hp} {Q : δ → Hp → Prop} (h : tX K mg fx G rm (x >>= k) Hf s σ H Q) :
    tX K mg fx G rl x Hf s σ H (fun b H1 => ∃ a Hf1 s1, Sub Hf Hf1 ∧ rl Hf1 a b ∧ tX K mg fx G rm (k a) Hf1 s1 σ H1 Q) :=
  ⟨h.1, Mo.wp_mono (Mo.wp_bind h.2) (fun a s1 h1 b Hf1 H1 ste bag r => ⟨a, Hf1, s1, ste.sub, r, h.1.step ste bag,
      Mo.wp_mono h1 (fun c s2 h2 d Hf2 H2 ste2 bag2 r2 => h2 d Hf2 H2 (ste.trans ste2) bag2 r2) fun e s2 h2 => h2⟩)
    fun e s' k => k⟩
theorem tX.pure {a : α} {Hf : Hp} {s : S} {σ : L2.St} {H : Hp} {Q : β → Hp → Prop} (h : tX K mg fx G rl (Pure.pure a : m α) Hf s σ H Q) {b : β} (r : rl Hf a b) : Q b H :=
  (Mo.wp_pure h.2) b Hf H (.refl h.1.top) h.1.bag r
theorem tX.to {x : m α} {Hf : Hp} {s : S} {σ : L2.St} {H : Hp} {Q : β → Hp → Prop} (h : tX K mg fx G rl x Hf s σ H Q) : tG K mg fx G rl x σ H Q := ⟨Hf, s, h⟩
end
def ask {m : Type → Type} [Mo m] {α : Type} (o : Option α) : m α := Mo.lift (match o with | some a => .ok a | none => .stuck)
@[simp] theorem ask_some {α : Type} (a : α) : (ask (some a) : R α) = .ok a := rfl
@[simp] theorem ask_none {α : Type} : (ask (none : Option α) : R α) = .stuck := rfl
@[simp] theorem askM_some {α : Type} (a : α) (s : S) : (ask (some a) : M α) s = .ok a s := rfl
@[simp] theorem askM_none {α : Type} (s : S) : (ask (none : Option α) : M α) s = .stuck := rfl
section
variable {K : PySem.W.Frag} {mg : Str → Option Value} {fx : Fx} {m : Type → Type} [Mo m] {α β : Type} {G : List Sl} {rl : Hp → α → β → Prop} [DL.TC]
theorem tX.ask {o : Option α} {Hf : Hp} {s : S} {σ : L2.St} {H : Hp} {Q : β → Hp → Prop} (h : tX K mg fx G rl (DL.ask o : m α) Hf s σ H Q) :
    ∃ a, o = some a ∧ ∀ b Hf' H', Ste [] Hf H Hf' H' → rl Hf' a b → Q b H' := by
  have h2 := Mo.wp_lift h.2
  cases o with
  | none => exact h2.elim
  | some a => exact ⟨a, rfl, fun b Hf' H' e r => h2 b Hf' H' e.wide (e.bag h.1.bag) r⟩
end
section
variable {X : Cx} [DL.TC]
theorem peI {e : Expr} {t t' : TE} (h : PE X e t) (w : ∀ σ H Q, t' σ H Q → t σ H Q) : PE X e t' := ⟨fun pins s σ H Q I q => h.run pins s σ H Q I (w _ _ _ q)⟩
theorem ptI {e : Expr} {t t' : TT} (h : PT X e t) (w : ∀ σ H Q, t' σ H Q → t σ H Q) : PT X e t' := ⟨fun pins s σ H Q I q => h.run pins s σ H Q I (w _ _ _ q)⟩
theorem pwI {e : Expr} {t t' : TT} (h : PW X e t) (w : ∀ σ H Q, t' σ H Q → t σ H Q) : PW X e t' := ⟨fun wh pins s σ H Q I q => h.run wh pins s σ H Q I (w _ _ _ q)⟩
theorem paI {e : List Expr} {t t' : TA} (h : PA X e t) (w : ∀ σ H Q, t' σ H Q → t σ H Q) : PA X e t' := ⟨fun pos pins s σ H Q I q => h.run pos pins s σ H Q I (w _ _ _ q)⟩
theorem pssI {e : List Stmt} {t t' : TS} (h : PSs X e t) (w : ∀ D σ H, t' D σ H → t D σ H) : PSs X e t' := ⟨fun pins s σ H D I q => h.run pins s σ H D I (w _ _ _ q)⟩
theorem psI {e : Stmt} {t t' : TS} (h : PS X e t) (w : ∀ D σ H, t' D σ H → t D σ H) : PS X e t' := ⟨fun pins s σ H D I q => h.run pins s σ H D I (w _ _ _ q)⟩
end
section
variable (K : PySem.W.Frag) (mg : Str → Option Value) [DL.TC]
def rD2 (f : D → D → Option D) : R2 := fun x y H Q => ∃ Hf dx dy d, SubT Hf H ∧ Is K mg Hf dx x ∧ Is K mg Hf dy y ∧ f dx dy = some d ∧ ∀ u Hf' H', Ste [] Hf H Hf' H' → Is K mg Hf' d u → Q u H'
def rDs (f : List D → Option D) : List V → Hp → VK → Prop := fun xs H Q => ∃ Hf ds d, SubT Hf H ∧ IsL K mg Hf ds xs ∧ f ds = some d ∧ ∀ u Hf' H', Ste [] Hf H Hf' H' → Is K mg Hf' d u → Q u H'
end
section
variable {X : Cx} {fx : Fx} {m : Type → Type} [Mo m] {G : List Sl} {a b c : Expr} {es : List Expr} {pos : Pos} {x y z : m D} {ys : m (List D)} {f : D → D → Option D} [DL.TC]
theorem de_op {op : Operator} (ho : OpR X (binaryOp op) (rD2 X.K X.mg f)) (ha : PE X a (tE X.K X.mg fx G x)) (hb : PE X b (tE X.K X.mg fx G y)) :
    PE X (.BinOp a op b pos) (tE X.K X.mg fx G (do let u ← x; let v ← y; ask (f u v))) := peI (pe_op ho ha hb) fun σ H Q ⟨Hf, s, h⟩ =>
  (h.bind.mono fun v1 H1 ⟨d1, Hf1, s1, sb1, r1, h1⟩ => (h1.bind.mono fun v2 H2 ⟨d2, Hf2, s2, sb2, r2, h2⟩ => by
    obtain ⟨d, e, q⟩ := h2.ask
    exact ⟨Hf2, d1, d2, d, h2.1.topT, r1.mono sb2, r2, e, q⟩).to).to
theorem de_cmp {op : CmpOp} (ho : OpR X (compareOp op) (rD2 X.K X.mg f)) (ha : PE X a (tE X.K X.mg fx G x)) (hb : PE X b (tE X.K X.mg fx G y)) (hm : behindInMarks op b = false) :
    PE X (.Compare a [op] [b] pos) (tE X.K X.mg fx G (do let u ← x; let v ← y; ask (f u v))) := peI (pe_cmpR ho ha hb hm) fun σ H Q ⟨Hf, s, h⟩ =>
  (h.bind.mono fun v1 H1 ⟨d1, Hf1, s1, sb1, r1, h1⟩ => (h1.bind.mono fun v2 H2 ⟨d2, Hf2, s2, sb2, r2, h2⟩ => by
    obtain ⟨d, e, q⟩ := h2.ask
    exact ⟨Hf2, d1, d2, d, h2.1.topT, r1.mono sb2, r2, e, q⟩).to).to
def bOf : D → Option Bool
  | .bl b => some b
  | _ => none
theorem dt_cmp {op : CmpOp} (ho : OpR X (compareOp op) (rD2 X.K X.mg f)) (ha : PE X a (tE X.K X.mg fx G x)) (hb : PE X b (tE X.K X.mg fx G y)) (hm : behindInMarks op b = false) :
    PT X (.Compare a [op] [b] pos) (tT X.K X.mg fx G (do let u ← x; let v ← y; ask ((f u v).bind bOf))) := ptI (pt_cmpR ho ha hb hm) fun σ H Q ⟨Hf, s, h⟩ =>
  (h.bind.mono fun v1 H1 ⟨d1, Hf1, s1, sb1, r1, h1⟩ => (h1.bind.mono fun v2 H2 ⟨d2, Hf2, s2, sb2, r2, h2⟩ => by
    obtain ⟨k, e, q⟩ := h2.ask
    cases e' : f d1 d2 with
    | none => rw [e'] at e; cases e
    | some d =>
      rw [e'] at e
      cases d with
      | bl b' =>
        have : b' = k := Option.some.inj e
        subst this
        exact ⟨Hf2, d1, d2, _, h2.1.topT, r1.mono sb2, r2, e', fun u Hf' H' st i => ⟨b', i, q b' Hf' H' st rfl⟩⟩
      | _ => cases e).to).to
theorem da_nil : PA X [] (tA X.K X.mg fx G (pure [] : m (List D))) := paI pa_nil fun σ H Q ⟨Hf, s, h⟩ => h.pure rfl
theorem da_cons (ha : PE X a (tE X.K X.mg fx G x)) (hr : PA X es (tA X.K X.mg fx G ys)) (hs : starEach (a :: es) X.env = (false, eval a X.env) :: starEach es X.env := by rfl) :
    PA X (a :: es) (tA X.K X.mg fx G (do let d ← x; let ds ← ys; pure (d :: ds))) := paI (pa_cons ha hr hs) fun σ H Q ⟨Hf, s, h⟩ =>
  (h.bind.mono fun v1 H1 ⟨d1, Hf1, s1, sb1, r1, h1⟩ => (h1.bind.mono fun v2 H2 ⟨d2, Hf2, s2, sb2, r2, h2⟩ => h2.pure (IsL.cons (r1.mono sb2) r2)).to).to
theorem de_callB {g : List D → Option D} {id : String} {n : Str} {p : Pos} {e : Expr} (hc : CallR X (.builtin id) (rDs X.K X.mg g)) (hg : Gl X n) (hm : X.mg n = none) (hv : bootBuiltins n = some (.builtin id)) (ha : PA X (e :: es) (tA X.K X.mg fx G ys))
    (hn : n ≠ "__name__" := by decide) (hdb : (n == ("__debug__" : Str)) = false := by decide) (he : starEach (e :: es) X.env = (false, eval e X.env) :: starEach es X.env := by rfl) (hpl : (backTo pos (starEach es X.env)).any (·.1) = false := by rfl) :
    PE X (.Call (.Name n p) (e :: es) [] pos) (tE X.K X.mg fx G (do let ds ← ys; ask (g ds))) := peI (pe_callB hc hg hm hv ha hn hdb he hpl) fun σ H Q ⟨Hf, s, h⟩ =>
  (h.bind.mono fun v1 H1 ⟨d1, Hf1, s1, sb1, r1, h1⟩ => by
    obtain ⟨d, e, q⟩ := h1.ask
    exact ⟨Hf1, d1, d, h1.1.topT, r1, e, q⟩).to
theorem de_callTy {g : List D → Option D} {T : String} {n : Str} {p : Pos} {e : Expr} (hc : CallR X (.type T) (rDs X.K X.mg g)) (hg : Gl X n) (hm : X.mg n = none) (hv : bootBuiltins n = some (.type T)) (ha : PA X (e :: es) (tA X.K X.mg fx G ys))
    (hn : n ≠ "__name__" := by decide) (hdb : (n == ("__debug__" : Str)) = false := by decide) (he : starEach (e :: es) X.env = (false, eval e X.env) :: starEach es X.env := by rfl) (hpl : (backTo pos (starEach es X.env)).any (·.1) = false := by rfl) :
    PE X (.Call (.Name n p) (e :: es) [] pos) (tE X.K X.mg fx G (do let ds ← ys; ask (g ds))) := peI (pe_callTy hc hg hm hv ha hn hdb he hpl) fun σ H Q ⟨Hf, s, h⟩ =>
  (h.bind.mono fun v1 H1 ⟨d1, Hf1, s1, sb1, r1, h1⟩ => by
    obtain ⟨d, e, q⟩ := h1.ask
    exact ⟨Hf1, d1, d, h1.1.topT, r1, e, q⟩).to
theorem de_var (i : Nat) {d : D} {n : Str} (hG : G[i]? = some (.im d) := by rfl) (hN : X.N[i]? = some n := by rfl) (hv : Vis X.env.scope n := by first | exact Or.inl rfl | exact Or.inr (Or.inl rfl) | exact Or.inr (Or.inr rfl))
    (hd : (n == ("__debug__" : Str)) = false := by decide) (hcd : (n == ("__classdict__" : Str)) = false := by decide) : PE X (.Name n pos) (tE X.K X.mg fx G (pure d : m D)) :=
  peI (pe_var hN hv hd hcd) fun σ H Q ⟨Hf, s, h⟩ => by
    obtain ⟨v, e, i⟩ := h.1.sl i _ hG
    exact ⟨v, e, h.pure i⟩
theorem de_int {j : Nat} {i : Int} : PE X (.Constant (.int i) j pos) (tE X.K X.mg fx G (pure (.int i) : m D)) := peI pe_int fun σ H Q ⟨Hf, s, h⟩ => h.pure (by rw [Is])
theorem de_bl {j : Nat} {i : Bool} : PE X (.Constant (.bool i) j pos) (tE X.K X.mg fx G (pure (.bl i) : m D)) := peI pe_bl fun σ H Q ⟨Hf, s, h⟩ => h.pure (by rw [Is])
theorem de_non {j : Nat} : PE X (.Constant .none j pos) (tE X.K X.mg fx G (pure .non : m D)) := peI pe_non fun σ H Q ⟨Hf, s, h⟩ => h.pure (by rw [Is])
theorem de_str {j : Nat} {t : Str} (l : List Nat) (ht : t = ⟨l.toArray⟩ := by first | rfl | decide +kernel) (hl : l.length ≤ 1000 := by decide) : PE X (.Constant (.str t) j pos) (tE X.K X.mg fx G (pure (.str l) : m D)) :=
  peI pe_str fun σ H Q ⟨Hf, s, h⟩ => h.pure (by rw [Is, ht]; exact ⟨rfl, Nat.le_of_lt (small1000 hl)⟩)
theorem de_glob {n : Str} {u : Value} {v : V} {d : D} (hg : Gl X n) (hm : X.mg n = some u) (r : RelV v u) (hi : Is X.K X.mg (fun _ => none) d v) (hd : (n == ("__debug__" : Str)) = false := by decide) : PE X (.Name n pos) (tE X.K X.mg fx G (pure d : m D)) :=
  peI (pe_glob hg hm r hd) fun σ H Q ⟨Hf, s, h⟩ => h.pure (hi.mono fun a o e => by cases e)
end
end DL
namespace DL
open PySem PySem.Spec PyProof.Rows L2
def Cool (mg : Str → Option Value) (cls : Value) : Prop := mg "BadRule" ≠ some cls
def CXm (P : Program) (w : World) (mg : Str → Option Value) : CXT := fun outer H s E u s' =>
  L2.CX P w outer H s (fun cls d H' => E cls d H' ∧ ¬ Cool mg cls) u s' ∨ L2N.CX P w outer H s E u s'
structure Takes (X : Cx) (W : WX) : Prop where
  hot : L2.Takes X fun cls d σ H => W cls d σ H ∧ ¬ Cool X.mg cls
  new : L2N.Takes X W
section
variable {X : Cx} {W : WX} {E : XK} [DL.TC]
theorem takes_of (hs : X.stack = X.env :: X.outer) (hf : X.env.frame = some X.env.locals) (hex : X.ex = []) {E₁ : Value → Shared → Prop}
    (hx : X.xe = fun e s' => wpAny (model X.prog X.w) X.A (leaving X.env e) (fun _ s'' => CXm X.prog X.w X.mg X.outer X.H_0 X.s_0 E e s'') E₁ s') : Takes X (fun cls d _ H => E cls d H) := by
  refine ⟨fun u s' x => ?_, fun u s' x => ?_⟩
  · rw [hx]
    exact wpAny_mono (L2.XE.leave (W := fun cls d _ H => E cls d H ∧ ¬ Cool X.mg cls) (E := fun cls d H => E cls d H ∧ ¬ Cool X.mg cls) hs hf hex (fun _ _ _ _ h => h) x) (fun _ _ h => .inl h) fun _ _ h => h
  · rw [hx]
    exact wpAny_mono (L2N.XE.leave (W := fun cls d _ H => E cls d H) (E := E) hs hf hex (fun _ _ _ _ h => h) x) (fun _ _ h => .inr h) fun _ _ h => h
theorem passAt (tk : Takes X W) (σ : L2.St) : PassesAt (CXm X.prog X.w X.mg) X σ (WE W σ) := fun pins H s e s' I c => by
  rcases c with c | c
  · exact tk.hot e s' (L2.XE.of_call (E := fun cls d H' => WE W σ cls d H' ∧ ¬ Cool X.mg cls) I (fun _ _ _ h => h) c)
  · exact tk.new e s' (L2N.XE.of_call I (fun _ _ _ h => h) c)
theorem cxm_false {P : Program} {w : World} {mg : Str → Option Value} {outer : List Env} {H : Hp} {s s' : Shared} {e : Value} (h : CXm P w mg outer H s (fun _ _ _ => False) e s') : False := by
  rcases h with h | h
  · obtain ⟨_, _, _, _, _, _, _, _, _, _, _, _, z⟩ := h
    exact z.1
  · obtain ⟨_, _, _, _, _, _, _, _, _, _, _, _, z⟩ := h
    exact z
section
variable {X : Cx} {W : WX} {E : XK} [DL.TC]
theorem ub_after {fs : List Addr} {H H2 H' : Hp} {h h2 B h' : Heap} (un : Un fs [] H H2 h h2) (kp : ∀ b o, h.get? b = some o → h2.get? b = some o) (ub : UB fs H2 H' h2 B h') : UB fs H H' h B h' where
  keep b o at_ no out := ub.keep b o (kp b o at_) (un.free b o at_ no List.not_mem_nil) out
  slot b o at_ out := ub.slot b o (kp b o at_) out
  free b o at_ no := ub.free b o (kp b o at_) (un.free b o at_ no List.not_mem_nil)
  there b o at_ out := ub.there b o (kp b o at_) out
  tups b xs t := ub.tups b xs (un.tups b xs t)
  frzs b o xs t := ub.frzs b o xs (un.frzs b o xs t)
  tbls b ps t :=
    let ⟨m1, t1⟩ := un.tbls b ps t
    let ⟨m2, t2⟩ := ub.tbls b (ps ++ m1) t1
    ⟨m1 ++ m2, t2.trans (by rw [Array.append_assoc])⟩
theorem cxUpN {P : Program} {w : World} : StX.CXUp (L2N.CX P w) := fun _ _ _ _ _ _ _ _ un kp same ⟨a, B, H', cls, d, e, fl, ok, ub, no, os, bare, want⟩ => ⟨a, B, H', cls, d, e, fl, ok, ub_after un kp ub, no, os.trans same, bare, want⟩
end
theorem cxUp {P : Program} {w : World} {mg : Str → Option Value} : StX.CXUp (CXm P w mg) := fun outer s H s2 H2 E e s' un kp ho h => by
  rcases h with h | h
  · exact .inl (StX.cxUp outer s H s2 H2 _ e s' un kp ho h)
  · exact .inr (cxUpN outer s H s2 H2 _ e s' un kp ho h)
end
end DL
namespace DL
open PySem L2
inductive Fl (α β : Type) where
  | nx (a : α)
  | rt (d : D)
  | bk (b : β)
  | ct (b : β)
section
variable {m : Type → Type} [Mo m] {α β γ : Type}
def seqF (x : m (Fl α β)) (k : α → m (Fl γ β)) : m (Fl γ β) := do
  match ← x with
  | .nx a => k a
  | .rt d => pure (.rt d)
  | .bk b => pure (.bk b)
  | .ct b => pure (.ct b)
def forF (u : D → Option γ) (xb : α → γ → m (Fl α α)) : List D → α → m (Fl α β)
  | [], a => pure (.nx a)
  | d :: ds, a => do
    let c ← ask (u d)
    match ← xb a c with
    | .nx a' => forF u xb ds a'
    | .ct a' => forF u xb ds a'
    | .bk a' => pure (.nx a')
    | .rt d => pure (.rt d)
end
section
variable (K : PySem.W.Frag) (mg : Str → Option Value) (fx : Fx) [DL.TC]
def GxOk (G : List Sl) : Prop := match fx.gx with
  | none => True
  | some g => Wk G g
def XSt (Hf H : Hp) (σ : L2.St) (s : S) : Prop := match fx.gx with
  | none => Ste (fx.me ++ fx.bag) fx.Hf0 fx.H0 Hf H ∧ BagAt fx.bag H s
  | some g => StS K mg fx Hf H σ g s
def EXS : Exn → S → Prop := fun e s' => ∀ cls dd σ' Hf' H', XSt K mg fx Hf' H' σ' s' → ExIs K mg Hf' H' e cls dd → fx.W cls dd σ' H'
variable {α β : Type}
def FP (Hf : Hp) (ex : α → List Sl) (exb : β → List Sl) (De : Ends) : Fl α β → S → Prop := fun f s' => match f with
  | .nx a => ∀ Hf' H' σ', Sub Hf Hf' → StS K mg fx Hf' H' σ' (ex a) s' → De.nx σ' H'
  | .rt d => ∀ v Hf' H', Ste (fx.me ++ fx.bag) fx.Hf0 fx.H0 Hf' H' → BagAt fx.bag H' s' → RtOk K mg fx.nr fx.H0 Hf' H' d v → De.rt v H'
  | .bk b => ∀ Hf' H' σ', Sub Hf Hf' → StS K mg fx Hf' H' σ' (exb b) s' → De.bk σ' H'
  | .ct b => ∀ Hf' H' σ', Sub Hf Hf' → StS K mg fx Hf' H' σ' (exb b) s' → De.ct σ' H'
variable {m : Type → Type} [Mo m]
def tSX (G : List Sl) (ex : α → List Sl) (exb : β → List Sl) (x : m (Fl α β)) (Hf : Hp) (s : S) (De : Ends) (σ : L2.St) (H : Hp) : Prop :=
  StS K mg fx Hf H σ G s ∧ Mo.wp x s (FP K mg fx Hf ex exb De) (EXS K mg fx)
def tS (G : List Sl) (ex : α → List Sl) (exb : β → List Sl) (x : m (Fl α β)) : TS := fun De σ H => ∃ Hf s, tSX K mg fx G ex exb x Hf s De σ H
end
section
variable {K : PySem.W.Frag} {mg : Str → Option Value} {fx : Fx} {m : Type → Type} [Mo m] {α β γ δ ε : Type} {G G' : List Sl} {ex : α → List Sl} {exb : β → List Sl} {rm : Hp → γ → δ → Prop} [DL.TC]
theorem exs_ex {σ : L2.St} {e : Exn} {s : S} (hx : GxOk fx G) (h : EXS K mg fx e s) : EX K mg fx G σ e s := fun cls dd Hf' H' st xi => by
  refine h cls dd σ Hf' H' ?_ xi
  unfold XSt
  unfold GxOk at hx
  cases q : fx.gx with
  | none => exact ⟨st.ste, st.bag⟩
  | some g =>
    rw [q] at hx
    exact st.weak hx
theorem FP.up {Hf Hf1 : Hp} {De : Ends} {f : Fl α β} {s : S} (sb : Sub Hf Hf1) (h : FP K mg fx Hf ex exb De f s) : FP K mg fx Hf1 ex exb De f s := by
  cases f with
  | nx a => exact fun Hf' H' σ' sb' => h Hf' H' σ' (sb.trans sb')
  | rt d => exact h
  | bk b => exact fun Hf' H' σ' sb' => h Hf' H' σ' (sb.trans sb')
  | ct b => exact fun Hf' H' σ' sb' => h Hf' H' σ' (sb.trans sb')
theorem tSX.to {x : m (Fl α β)} {Hf : Hp} {s : S} {σ : L2.St} {H : Hp} {De : Ends} (h : tSX K mg fx G ex exb x Hf s De σ H) : tS K mg fx G ex exb x De σ H := ⟨Hf, s, h⟩
theorem tSX.bind {x : m γ} {k : γ → m (Fl α β)} {Hf : Hp} {s : S} {σ : L2.St} {H : Hp} {De : Ends} (h : tSX K mg fx G ex exb (x >>= k) Hf s De σ H) (hx : GxOk fx G) :
    tX K mg fx G rm x Hf s σ H (fun b H1 => ∃ a Hf1 s1, Sub Hf Hf1 ∧ rm Hf1 a b ∧ tSX K mg fx G ex exb (k a) Hf1 s1 De σ H1) :=
  ⟨h.1, Mo.wp_mono (Mo.wp_bind h.2) (fun a s1 h1 b Hf1 H1 ste bag r => ⟨a, Hf1, s1, ste.sub, r, h.1.step ste bag, Mo.wp_mono h1 (fun f s2 h2 => h2.up ste.sub) fun e s' k => k⟩) fun e s' k => exs_ex hx k⟩
theorem tSX.weak {x : m (Fl α β)} {Hf : Hp} {s : S} {σ : L2.St} {H : Hp} {De : Ends} (h : tSX K mg fx G ex exb x Hf s De σ H) (w : Wk G G') : tSX K mg fx G' ex exb x Hf s De σ H := ⟨h.1.weak w, h.2⟩
theorem tSX.seq {exA : ε → List Sl} {x : m (Fl ε β)} {k : ε → m (Fl α β)} {Hf : Hp} {s : S} {σ : L2.St} {H : Hp} {De : Ends} (h : tSX K mg fx G ex exb (seqF x k) Hf s De σ H) :
    tSX K mg fx G exA exb x Hf s { De with nx := fun σ' H' => ∃ a, tS K mg fx (exA a) ex exb (k a) De σ' H' } σ H :=
  ⟨h.1, Mo.wp_mono (Mo.wp_bind h.2) (fun f s1 h1 => by
    cases f with
    | nx a => exact fun Hf' H' σ' sb st => ⟨a, Hf', s1, st, Mo.wp_mono h1 (fun f s2 h2 => h2.up sb) fun e s' k => k⟩
    | rt d => have z := Mo.wp_pure h1; exact z
    | bk b => have z := Mo.wp_pure h1; exact z
    | ct b => have z := Mo.wp_pure h1; exact z) fun e s' k => k⟩
end
section
variable {X : Cx} [DL.TC]
theorem pss_ex {ι : Type} {sts : List Stmt} {t : ι → TS} (h : ∀ i, PSs X sts (t i)) : PSs X sts (fun D σ H => ∃ i, t i D σ H) := ⟨fun pins s σ H D I ⟨i, q⟩ => (h i).run pins s σ H D I q⟩
structure Cok (X : Cx) (fx : Fx) (k : Nat) : Prop where
  calm : X.calm = true
  hp : X.stack = X.env :: X.outer → PassesOwn (model X.prog X.w) X.A X.env X.xe
  tk : Takes X fx.W
  rm : Room k X.A
  nd : X.N.Nodup
  gd : X.A.guards = some []
end
section
variable {X : Cx} {fx : Fx} {m : Type → Type} [Mo m] {α β γ δ ε : Type} {G G' : List Sl} {ex : α → List Sl} {exb : β → List Sl} {exA : ε → List Sl} {rest A B : List Stmt} {pos : Pos} {kk : Nat} {x : m D} {k : D → m (Fl α β)} {e : Expr} {i : Nat} [DL.TC]
theorem dss_nil {a : α} (w : Wk G (ex a)) : PSs X [] (tS X.K X.mg fx G ex exb (pure (.nx a) : m (Fl α β))) := pssI pss_nil fun D σ H ⟨Hf, s, h⟩ =>
  (Mo.wp_pure h.2) Hf H σ (.refl _) (h.1.weak w)
theorem dss_asg (C : Cok X fx kk) {n : Str} {pos' : Pos} (i : Nat) (he : PE X e (tE X.K X.mg fx G x)) (hr : ∀ d, PSs X rest (tS X.K X.mg fx (G.set i (.im d)) ex exb (k d))) (hi : X.N[i]? = some n := by rfl) (hx : Loc X.env.scope n := by first | exact Or.inl rfl | exact Or.inr rfl)
    (hs : swapsWith e (some (.Name n pos')) pos.line X.env = pure false := by rfl) (hf : X.fn n = true ∨ X.env.scope.names.lookup n = some .local := by first | exact .inl rfl | exact .inr rfl) (hg : GxOk fx G := by first | exact True.intro | repeat' (first | exact True.intro | exact Or.inl rfl | exact Or.inr rfl | refine And.intro ?_ ?_)) :
    PSs X (.Assign [.Name n pos'] e pos :: rest) (tS X.K X.mg fx G ex exb (x >>= k)) := pssI (pss_cons (ps_set C.nd hi hx he hs hf) (pss_ex hr)) fun D σ H ⟨Hf, s, h⟩ =>
  ((h.bind hg).mono fun v H1 ⟨d, Hf1, s1, sb, r, h1⟩ => ⟨d, Hf1, s1, h1.1.set r, h1.2⟩).to
theorem dss_ret (he : PE X e (tE X.K X.mg fx G x)) (hnr : fx.nr = false := by rfl) (hg : GxOk fx G := by first | exact True.intro | repeat' (first | exact True.intro | exact Or.inl rfl | exact Or.inr rfl | refine And.intro ?_ ?_)) : PSs X (.Return (some e) pos :: rest) (tS X.K X.mg fx G ex exb (do let d ← x; pure (.rt d))) := pssI (pss_cons (ps_ret he) pss_never) fun D σ H ⟨Hf, s, h⟩ =>
  ((h.bind hg).mono fun v H1 ⟨d, Hf1, s1, sb, r, h1⟩ => (Mo.wp_pure h1.2) v Hf1 H1 h1.1.ste h1.1.bag (by rw [hnr]; exact r)).to
theorem dss_if {c : Expr} {xc : m Bool} {xa xb : m (Fl ε β)} {k : ε → m (Fl α β)} (hc : PT X c (tT X.K X.mg fx G xc)) (ha : PSs X A (tS X.K X.mg fx G exA exb xa)) (hb : PSs X B (tS X.K X.mg fx G exA exb xb)) (hr : ∀ a, PSs X rest (tS X.K X.mg fx (exA a) ex exb (k a))) (hg : GxOk fx G := by first | exact True.intro | repeat' (first | exact True.intro | exact Or.inl rfl | exact Or.inr rfl | refine And.intro ?_ ?_)) :
    PSs X (.If c A B pos :: rest) (tS X.K X.mg fx G ex exb (do let t ← xc; seqF (if t = true then xa else xb) k)) := pssI (pss_cons (ps_if hc ha hb) (pss_ex hr)) fun D σ H ⟨Hf, s, h⟩ =>
  ((h.bind hg).mono fun v H1 ⟨d, Hf1, s1, sb, r, h1⟩ => by
    cases r
    cases v with
    | true => exact h1.seq.to
    | false => exact h1.seq.to).to
end
section
variable (K : PySem.W.Frag) (mg : Str → Option Value) [DL.TC]
def Yl (J : It) (Hf0 : Hp) (ds : List D) : Prop := ds.length ≤ sizeLine ∧ ∀ Hf H, Sub Hf0 Hf → Sub Hf H → ∀ i : Nat,
  (∀ d, ds[i]? = some d → J.go i H ∧ ∀ x H', J.yld i H x H' → ∃ Hf', Ste [] Hf H Hf' H' ∧ Is K mg Hf' d x) ∧ (ds.length ≤ i → J.stop i H)
abbrev tI (fx : Fx) (G : List Sl) {m : Type → Type} [Mo m] (x : m (List D)) : TI := tG K mg fx G (fun Hf ds J => Yl K mg J Hf ds) x
end
section
variable {X : Cx} {fx : Fx} {m : Type → Type} [Mo m] {α β γ : Type} {G G' : List Sl} {ex : α → List Sl} {exb : β → List Sl} {rest body : List Stmt} {pos : Pos} {kk : Nat} [DL.TC]
def PGd (X : Cx) (fx : Fx) (tg : Expr) (g : TG) (u : D → Option γ) (st : List Sl → γ → List Sl) (is : List Nat) : Prop :=
  PG X tg g ∧ ∀ {G : List Sl} {Hf : Hp} {d : D} {v : V} {σ : L2.St} {H : Hp} {s : S} {c : γ} {Q : L2.St → Hp → Prop}, StS X.K X.mg fx Hf H σ G s → Is X.K X.mg Hf d v → u d = some c → (∀ σ', (∀ j, j ∉ is → σ'[j]? = σ[j]?) → σ'.length = σ.length → StS X.K X.mg fx Hf H σ' (st G c) s → Q σ' H) → g v σ H Q
theorem pgd_name (C : Cok X fx kk) (i : Nat) {n : Str} (hi : X.N[i]? = some n := by rfl) (hx : Loc X.env.scope n := by first | exact Or.inl rfl | exact Or.inr rfl) (hf : X.fn n = true ∨ X.env.scope.names.lookup n = some .local := by first | exact .inl rfl | exact .inr rfl) :
    PGd X fx (.Name n pos) (gName i) (fun d => some d) (fun G d => G.set i (.im d)) [i] :=
  ⟨pg_name C.nd hi hx hf, fun {G Hf d v σ H s c Q} st r e q => by
    cases e
    exact q _ (fun j hj => List.getElem?_set_ne (fun z => hj (by simp [z]))) (by simp) (st.set r)⟩
theorem dss_for {ε : Type} {exl : ε → List Sl} {tg iter : Expr} {g : TG} {u : D → Option γ} {st : List Sl → γ → List Sl} {xi : m (List D)} {xb : ε → γ → m (Fl ε ε)} {k : ε → m (Fl α β)} {is : List Nat} (a0 : ε) (C : Cok X fx kk) (hi : PI X tg iter (tI X.K X.mg fx G xi)) (hg : PGd X fx tg g u st is)
    (w : Wk G (exl a0)) (hb : ∀ a c, PSs X body (tS X.K X.mg fx (st (exl a) c) exl exl (xb a c))) (hr : ∀ a, PSs X rest (tS X.K X.mg fx (exl a) ex exb (k a))) (hs : ∀ x, foldedSetIterable iter X.env x = pure x := by intro _; rfl) (hst : X.stack = X.env :: X.outer := by rfl) (hx : GxOk fx G := by first | exact True.intro | repeat' (first | exact True.intro | exact Or.inl rfl | exact Or.inr rfl | refine And.intro ?_ ?_)) :
    PSs X (.For tg iter body [] pos :: rest) (tS X.K X.mg fx G ex exb (do let ds ← xi; seqF (forF u xb ds a0) k)) := by
  refine pssI (pss_cons (ps_for (C.hp hst) C.calm hi hg.1 (pss_ex (ι := ε × γ) (t := fun p => tS X.K X.mg fx (st (exl p.1) p.2) exl exl (xb p.1 p.2)) fun p => hb p.1 p.2) hs) (pss_ex hr)) fun D σ H ⟨Hf, s, h⟩ => ?_
  refine ((h.bind hx).mono fun J H1 ⟨ds, Hf1, s1, sb, yl, h1⟩ => ?_).to
  have h2 := h1.seq (exA := exl)
  obtain ⟨st1, w1⟩ := h2
  refine ⟨fun i m σ H => m = ds.length - i ∧ i ≤ ds.length ∧ ∃ a Hf s, Sub Hf1 Hf ∧ StS X.K X.mg fx Hf H σ (exl a) s ∧
    Mo.wp (forF (β := β) u xb (ds.drop i) a) s (FP X.K X.mg fx Hf exl exb { D with nx := fun σ' H' => ∃ a, tS X.K X.mg fx (exl a) ex exb (k a) D σ' H' }) (EXS X.K X.mg fx), ⟨ds.length, by simp, Nat.zero_le _, a0, Hf1, s1, .refl _, st1.weak w, w1⟩, ?_⟩
  rintro i m σ H ⟨rfl, hi, a, Hf2, s2, sb2, st2, w2⟩
  obtain ⟨y1, y2⟩ := yl.2 Hf2 H sb2 st2.top i
  by_cases hlt : i < ds.length
  · obtain ⟨go, yd⟩ := y1 ds[i] (List.getElem?_eq_getElem hlt)
    rw [List.drop_eq_getElem_cons hlt] at w2
    have w3 := Mo.wp_bind w2
    have w4 := Mo.wp_lift w3
    refine .inr ⟨go, fun σ' H' => i + 1 ≤ ds.length ∧ ∃ a Hf s, Sub Hf1 Hf ∧ StS X.K X.mg fx Hf H' σ' (exl a) s ∧
      Mo.wp (forF (β := β) u xb (ds.drop (i + 1)) a) s (FP X.K X.mg fx Hf exl exb { D with nx := fun σ' H' => ∃ a, tS X.K X.mg fx (exl a) ex exb (k a) D σ' H' }) (EXS X.K X.mg fx), fun σ' H' q => ⟨ds.length - (i + 1), by omega, rfl, q⟩, fun x H' y => ?_⟩
    obtain ⟨Hf3, e3, is3⟩ := yd x H' y
    cases q : u ds[i] with
    | none => rw [q] at w4; exact w4.elim
    | some c =>
      rw [q] at w4
      have st3 := st2.step e3.wide (e3.bag st2.bag)
      refine hg.2 st3 is3 q fun σ' _ _ st4 => ?_
      refine ⟨(a, c), Hf3, s2, st4, ?_⟩
      refine Mo.wp_mono (Mo.wp_bind w4) (fun f s5 h5 => ?_) fun e s' k => k
      cases f with
      | nx a' => exact fun Hf' H' σ' sb' st' => ⟨hlt, a', Hf', s5, (sb2.trans e3.sub).trans sb', st', Mo.wp_mono h5 (fun f s2 h2 => h2.up (e3.sub.trans sb')) fun e s' k => k⟩
      | ct a' => exact fun Hf' H' σ' sb' st' => ⟨hlt, a', Hf', s5, (sb2.trans e3.sub).trans sb', st', Mo.wp_mono h5 (fun f s2 h2 => h2.up (e3.sub.trans sb')) fun e s' k => k⟩
      | bk a' => have z := Mo.wp_pure h5; exact fun Hf' H' σ' sb' => z Hf' H' σ' (e3.sub.trans sb')
      | rt d => have z := Mo.wp_pure h5; exact z
  · have e : i = ds.length := by omega
    subst e
    refine .inl ⟨y2 (Nat.le_refl _), ?_⟩
    rw [List.drop_length] at w2
    exact (Mo.wp_pure w2) Hf2 H σ (.refl _) st2
end
end DL
namespace DL
open PySem L2
def runR (nr : Bool) : R (Fl Unit Empty) → R D
  | .ok (.nx _) => if nr = true then .stuck else .ok .non
  | .ok (.rt d) => .ok d
  | .ok (.bk b) => b.elim
  | .ok (.ct b) => b.elim
  | .ex e => .ex e
  | .stuck => .stuck
def runM (nr : Bool) (x : M (Fl Unit Empty)) : M D := fun s => match x s with
  | .ok (.nx _) s => if nr = true then .stuck else .ok .non s
  | .ok (.rt d) s => .ok d s
  | .ok (.bk b) _ => b.elim
  | .ok (.ct b) _ => b.elim
  | .ex e s => .ex e s
  | .stuck => .stuck
def unG (N : List Str) : List Sl := N.map fun _ => .un
def G0 (N : List Str) (ds : List D) : List Sl := ds.map Sl.im ++ List.replicate (N.length - ds.length) .un
def G1 (N : List Str) (ds : List D) : List Sl := .bg :: (ds.map Sl.im ++ List.replicate (N.length - ds.length - 1) .un)
abbrev fxE (bag : List Addr) (nr : Bool) (H Hf : Hp) (E : XK) : Fx := ⟨bag, H, Hf, fun cls d _ H' => E cls d H', none, nr, [], []⟩
section
variable (K : PySem.W.Frag) (mg : Str → Option Value) [DL.TC]
def spR (nr : Bool) (n : Nat) (g : List D → R D) : Sp := fun vs H Q E => vs.length = n ∧ ∃ Hf ds, SubT Hf H ∧ IsL K mg Hf ds vs ∧ (match g ds with
  | .ok d => ∀ v Hf' H', Ste [] Hf H Hf' H' → RtOk K mg nr H Hf' H' d v → Q v H'
  | .ex e => ∀ cls dd Hf' H', Ste [] Hf H Hf' H' → ExIs K mg Hf' H' e cls dd → E cls dd H'
  | .stuck => False)
def spM (nr : Bool) (n : Nat) (g : List D → M D) : Sp := fun vs H Q E => vs.length = n ∧ ∃ bag b r Hf ds vs' s, bag = b :: r ∧ vs = .ref b :: vs' ∧ SubT Hf H ∧ (∀ b ∈ bag, Hf b = none ∧ H b ≠ none) ∧ BagAt bag H s ∧ IsL K mg Hf ds vs' ∧ (match g ds s with
  | .ok d s' => ∀ v Hf' H', Ste bag Hf H Hf' H' → BagAt bag H' s' → RtOk K mg nr H Hf' H' d v → Q v H'
  | .ex e s' => ∀ cls dd Hf' H', Ste bag Hf H Hf' H' → BagAt bag H' s' → ExIs K mg Hf' H' e cls dd → E cls dd H'
  | .stuck => False)
end
theorem start_at {N : List Str} {vs : List V} {i : Nat} {v : V} (h : vs[i]? = some v) : (start N vs)[i]? = some (some v) := by
  unfold L2.start
  have hl : i < vs.length := (List.getElem?_eq_some_iff.mp h).1
  rw [List.getElem?_append_left (by simpa using hl), List.getElem?_map, h]
  rfl
theorem start_len {N : List Str} {vs : List V} (h : vs.length ≤ N.length) : (start N vs).length = N.length := by
  unfold L2.start
  simp
  omega
theorem isOw_im {ds : List D} {n i : Nat} {x : Sl} (h : (ds.map Sl.im ++ List.replicate n .un)[i]? = some x) (o : isOw x = true) : False := by
  have hm := List.mem_of_getElem? h
  rcases List.mem_append.mp hm with hm | hm
  · obtain ⟨d, _, rfl⟩ := List.mem_map.mp hm
    cases o
  · have := List.eq_of_mem_replicate hm
    subst this
    cases o
section
variable {K : PySem.W.Frag} {mg : Str → Option Value} [DL.TC]
theorem slOk_G0 {fx : Fx} {Hf H : Hp} {ds : List D} {vs : List V} {N : List Str} {n : Nat} (l : IsL K mg Hf ds vs) {i : Nat} {x : Sl} (e : (ds.map Sl.im ++ List.replicate n .un)[i]? = some x) : SlOk K mg fx Hf H (vs[i]?.map some) x := by
  by_cases h : i < ds.length
  · rw [List.getElem?_append_left (by simpa using h), List.getElem?_map, List.getElem?_eq_getElem h] at e
    cases e
    obtain ⟨v, hv, hi⟩ := l.get (List.getElem?_eq_getElem h)
    exact ⟨v, by rw [hv]; rfl, hi⟩
  · rw [List.getElem?_append_right (by simpa using Nat.le_of_not_lt h)] at e
    have := List.eq_of_mem_replicate (List.mem_of_getElem? e)
    subst this
    trivial
theorem StS.init0 {nr : Bool} {Hf H : Hp} {E : XK} {ds : List D} {vs : List V} {N : List Str} {s : S} (sb : SubT Hf H) (l : IsL K mg Hf ds vs) (hn : vs.length ≤ N.length) : StS K mg (fxE [] nr H Hf E) Hf H (start N vs) (G0 N ds) s := by
  refine ⟨.refl sb.s, trivial, fun b hb => (by cases hb), sb.t, ?_, fun i x e => ?_, fun i j x y p _ ex _ ox _ => (isOw_im ex ox).elim⟩
  · rw [start_len hn]
    unfold G0
    have := l.len
    simp
    omega
  · have q := slOk_G0 (fx := fxE [] nr H Hf E) (H := H) (N := N) l e
    cases x with
    | un => trivial
    | im d =>
      obtain ⟨v, hv, hi⟩ := q
      refine ⟨v, ?_, hi⟩
      cases h : vs[i]? with
      | none => rw [h] at hv; cases hv
      | some w => rw [h] at hv; cases hv; exact start_at h
    | ow ds => exact (isOw_im e rfl).elim
    | od ks ds => exact (isOw_im e rfl).elim
    | ob ns ds => exact (isOw_im e rfl).elim
    | bg =>
      obtain ⟨b, r, e, _⟩ := q
      cases e
theorem StS.init1 {nr : Bool} {Hf H : Hp} {E : XK} {ds : List D} {vs : List V} {N : List Str} {s : S} {bag : List Addr} {b : Addr} {r : List Addr} (eb : bag = b :: r) (sb : SubT Hf H) (hb : ∀ b ∈ bag, Hf b = none ∧ H b ≠ none) (bg : BagAt bag H s) (l : IsL K mg Hf ds vs) (hn : vs.length + 1 ≤ N.length) :
    StS K mg (fxE bag nr H Hf E) Hf H (start N (.ref b :: vs)) (G1 N ds) s := by
  refine ⟨.refl sb.s, bg, fun b m => ⟨(hb b m).1, (hb b m).2, fun z => nomatch z⟩, sb.t, ?_, fun i x e => ?_, fun i j x y p _ ex _ ox _ => ?_⟩
  · rw [start_len (by simpa using hn)]
    unfold G1
    have := l.len
    simp
    omega
  · cases i with
    | zero =>
      cases e
      exact ⟨b, r, eb, start_at rfl⟩
    | succ i =>
      have e' : (ds.map Sl.im ++ List.replicate (N.length - ds.length - 1) .un)[i]? = some x := e
      have q := slOk_G0 (fx := fxE bag nr H Hf E) (H := H) (N := N) l e'
      cases x with
      | un => trivial
      | im d =>
        obtain ⟨v, hv, hi⟩ := q
        refine ⟨v, ?_, hi⟩
        cases h : vs[i]? with
        | none => rw [h] at hv; cases hv
        | some w => rw [h] at hv; cases hv; exact start_at (by simpa using h)
      | ow ds => exact (isOw_im e' rfl).elim
      | od ks ds => exact (isOw_im e' rfl).elim
      | ob ns ds => exact (isOw_im e' rfl).elim
      | bg =>
        have hm := List.mem_of_getElem? e'
        rcases List.mem_append.mp hm with hm | hm
        · obtain ⟨d, _, z⟩ := List.mem_map.mp hm
          cases z
        · have := List.eq_of_mem_replicate hm
          cases this
  · cases i with
    | zero => cases ex; cases ox
    | succ i => exact (isOw_im (n := N.length - ds.length - 1) (ds := ds) (i := i) ex ox).elim
end
structure FnG (P : Program) (w : World) (K : PySem.W.Frag) (mg : Str → Option Value) (base : Heap) (k : Nat) (f : Addr) (fd : FuncData) (ps : List Str) (sp : Sp) : Prop where
  len : ∀ vs H Q E, sp vs H Q E → vs.length = ps.length
  run : ∀ (A : Around) (outer : List Env) (s : Shared) (H : Hp) (args : Args) (us : List Value) (vs : List V) (Q : VK) (E : XK), A.guards = some [] → Room k A → Env0 P w K mg base A outer s H → BindsTo s fd args (ps.zip us) → Vals vs us → sp vs H Q E →
    codeAny (model P w) A (.call (.ref f) args) (CR (CXm P w mg) outer P w H s Q E) s
theorem ends_call {X : Cx} {pins : List (Addr × Obj)} {σ : L2.St} {H : Hp} {s s' : Shared} {Q : VK} {E : XK} {r : PySem.Result} (I : Inv X pins σ H s) (hx : PassesAt (CXm X.prog X.w X.mg) X σ E) (hq : CR (CXm X.prog X.w X.mg) X.stack X.prog X.w H s Q E r s') :
    match r with
    | .ok (.ret u) => EP X pins σ Q u s'
    | .ok _ => False
    | .error e => X.xe e s' := by
  cases r with
  | error e => exact hx pins H s e s' I hq
  | ok fl => cases fl <;> first | exact I.after hq | exact hq
theorem run_g {X : Cx} {k : Nat} {f : Addr} {fd : FuncData} {ps : List Str} {sp : Sp} {dvs : List V} {ds : List Value} {E : L2.St → XK} {pins : List (Addr × Obj)} {σ : L2.St} {H : Hp} {s : Shared} {Q : VK} {us : List Value} {vs : List V} (F : FnG X.prog X.w X.K X.mg X.base k f fd ps sp) (hg : X.A.guards = some []) (hr : Room k X.A) (hb : Binds X.K fd ps ds) (hd : Vals dvs ds)
    (hx : PassesAt (CXm X.prog X.w X.mg) X σ (E σ)) (I : Inv X pins σ H s) (r : Vals vs us) (h : sp (vs ++ dvs) H Q (E σ)) : wpAny (model X.prog X.w) X.A (call (.ref f) us) (EP X pins σ Q) X.xe s := by
  have ra := r.append hd
  have hl := F.len _ _ _ _ h
  rw [ra.length] at hl
  refine wpAny_call (codeAny_mono (F.run X.A X.stack s H ⟨us, []⟩ (us ++ ds) (vs ++ dvs) Q (E σ) hg hr I.env0 (hb s us I.kIn hl) ra h) fun r s' hq => ?_)
  have z := ends_call I hx hq
  cases r with
  | error e => exact z
  | ok fl => cases fl <;> first | exact z | exact z.elim
theorem pe_callG {X : Cx} {k : Nat} {f : Addr} {fd : FuncData} {ps : List Str} {sp : Sp} {dvs : List V} {ds : List Value} {E : L2.St → XK} {x : Str} {p pos : Pos} {e : Expr} {es : List Expr} {t : TA} (F : FnG X.prog X.w X.K X.mg X.base k f fd ps sp) (hgd : X.A.guards = some []) (hr : Room k X.A) (hg : Gl X x) (hm : X.mg x = some (.ref f)) (hk : PySem.W.keepIn X.K (.ref f) = true) (hb : Binds X.K fd ps ds) (hd : Vals dvs ds)
    (hx : ∀ σ, PassesAt (CXm X.prog X.w X.mg) X σ (E σ)) (ha : PA X (e :: es) t) (hdb : (x == ("__debug__" : Str)) = false := by decide) (he : starEach (e :: es) X.env = (false, eval e X.env) :: starEach es X.env := by rfl) (hpl : (backTo pos (starEach es X.env)).any (·.1) = false := by rfl) :
    PE X (.Call (.Name x p) (e :: es) [] pos) (fun σ H Q => t σ H fun vs H1 => sp (vs ++ dvs) H1 Q (E σ)) := ⟨fun pins s σ H Q I h =>
  wpAny_Call_Name_kw (ld_glob I hg hm (PySem.W.callWith_K (h₀ := X.base) I.ok.mod.kin hk (thn (ha.run pos pins s σ H _ I h) fun us s1 ⟨vs, H1, I1, r, q⟩ => ⟨I1.kIn, run_g F hgd hr hb hd (hx σ) I1 r q⟩) he hpl) hdb)⟩
section
variable {P : Program} {w : World} {K : PySem.W.Frag} {mg : Str → Option Value} {base : Heap} [DL.TC]
open PyProof.Rows PySem.Spec in
theorem fn_g {x qual : Str} {st : Stmt} {f : Addr} {fd : FuncData} {N ps : List Str} {k : Nat} {sp : Sp} (F : Fun K x qual st f fd) (Sc : FnScope N ps (defScope st)) (len : ∀ vs H Q E, sp vs H Q E → vs.length = ps.length)
    (hbody : ∀ (cdv : Value) (A : Around) (outer : List Env) (s : Shared) (H : Hp) (vs : List V) (Q : VK) (E : XK), A.guards = some [] → Room k (A.deeper (envOfC qual (defScope st) s.heap.objs.size f cdv)) → sp vs H Q E →
      ∃ t, PSs (cxOf (CXm P w mg) P w K mg base N qual (defScope st) f cdv A outer s H E) (defBody st) t ∧ t { nx := fun _ H' => Q .non H', rt := Q } (start N vs) H) : FnG P w K mg base (k + 1) f fd ps sp := by
  refine ⟨len, fun A outer s H args us vs Q E gd hr e0 hb r hsp => ?_⟩
  obtain ⟨oc, od, kV, doc, pm, an, cdv, ct, osl, rfl, lk, hcd⟩ := F.ex
  have kp := fun b o e => (e0.bs b o e).1
  have hk : ∀ y ∈ ps.zip us, (defScope st).names.lookup y.1 = some .local ∨ ((defScope st).names.lookup y.1 = some .cell ∧ ((cellsFrom (s.heap.objs.size + 1) (defScope st).names []).lookup y.1).isSome = true) := fun y hy =>
    (Sc.par y.1 (List.of_mem_zip (a := y.1) (b := y.2) hy).1).imp (fun q => q) fun q => ⟨q, PySem.W.cellsFrom_some _ _ _ (.inl q)⟩
  refine codeAny_call_function hr.depth (e0.mod.kin.keeps kp _ _ lk) rfl Sc.co Sc.gen rfl (PySem.W.codeRec_of (e0.mod.kin.keeps kp) hcd) (hb _ _ _ _ (wpAny_newFunctionEnv_cells Sc.kind hk fun env he s1 x => ?_))
  subst he
  obtain ⟨t, ht, hq⟩ := hbody cdv A outer s H vs Q E gd (hr.deeper _) hsp
  have I : Inv (cxOf (CXm P w mg) P w K mg base N qual (defScope st) f cdv A outer s H E) [] (start N vs) H s1 := inv_start Sc hr.hd e0 (len _ _ _ _ hsp) r x
  refine ⟨(e0.mod.nolimit.keeps kp).keeps x.toInCall.keep, codeAny_func (wpAny_mono (ht.run [] s1 (start N vs) H _ I hq) (fun fl s' hs => ?_) fun e s' hs => hs)⟩
  cases fl with
  | ret u =>
    obtain ⟨v, σ', H', J, rv, q⟩ := hs
    exact ⟨v, H', J.os, J.bare, J.base, J.hok, rv, q⟩
  | next =>
    obtain ⟨σ', H', J, q⟩ := hs
    exact ⟨.non, H', J.os, J.bare, J.base, J.hok, rfl, q⟩
  | brk => exact hs.elim fun _ h => h.elim fun _ h => h.2.elim
  | cont => exact hs.elim fun _ h => h.elim fun _ h => h.2.elim
theorem fnR {nr : Bool} {x qual : Str} {st : Stmt} {f : Addr} {fd : FuncData} {N ps : List Str} {k n : Nat} {g : List D → R D} (F : Fun K x qual st f fd) (Sc : FnScope N ps (defScope st)) (hn : ps.length = n) (hN : n ≤ N.length)
    (hb : ∀ (cdv : Value) (A : Around) (outer : List Env) (s : Shared) (H Hf : Hp) (E : XK) (ds : List D), Cok (cxOf (CXm P w mg) P w K mg base N qual (defScope st) f cdv A outer s H E) (fxE [] nr H Hf E) k → ds.length = n →
      ∃ body : R (Fl Unit Empty), PSs (cxOf (CXm P w mg) P w K mg base N qual (defScope st) f cdv A outer s H E) (defBody st)
        (tS (cxOf (CXm P w mg) P w K mg base N qual (defScope st) f cdv A outer s H E).K (cxOf (CXm P w mg) P w K mg base N qual (defScope st) f cdv A outer s H E).mg (fxE [] nr H Hf E) (G0 N ds) (fun _ => unG N) Empty.elim body) ∧ g ds = runR nr body) :
    FnG P w K mg base (k + 1) f fd ps (spR K mg nr n g) := by
  refine fn_g F Sc (fun vs H Q E h => h.1.trans hn.symm) (fun cdv A outer s H vs Q E gd hr h => ?_)
  obtain ⟨hl, Hf, ds, sb, l, q⟩ := h
  have C : Cok (cxOf (CXm P w mg) P w K mg base N qual (defScope st) f cdv A outer s H E) (fxE [] nr H Hf E) k := ⟨rfl, fun _ => passes_of rfl, takes_of rfl rfl rfl rfl, hr, Sc.nd, gd⟩
  obtain ⟨body, hp, hg⟩ := hb cdv A outer s H Hf E ds C (l.len.trans hl)
  refine ⟨_, hp, Hf, ⟨0, 0, 0, [], false⟩, .init0 sb l (by omega), ?_⟩
  rw [hg] at q
  show R.wp body _ _ _
  cases body with
  | ok f =>
    cases f with
    | nx a =>
      cases nr with
      | true => exact (show False from q).elim
      | false => exact fun Hf' H' σ' _ st => q .non Hf' H' st.ste (rfl : V.non = V.non)
    | rt d => exact fun v Hf' H' st _ i => q v Hf' H' st i
    | bk b => exact b.elim
    | ct b => exact b.elim
  | ex e => exact fun cls dd σ' Hf' H' st x => q cls dd Hf' H' st.1 x
  | stuck => exact q
theorem fnM {nr : Bool} {x qual : Str} {st : Stmt} {f : Addr} {fd : FuncData} {N ps : List Str} {k n : Nat} {g : List D → M D} (F : Fun K x qual st f fd) (Sc : FnScope N ps (defScope st)) (hn : ps.length = n + 1) (hN : n + 1 ≤ N.length)
    (hb : ∀ (cdv : Value) (A : Around) (outer : List Env) (s : Shared) (H Hf : Hp) (bag : List Addr) (E : XK) (ds : List D), Cok (cxOf (CXm P w mg) P w K mg base N qual (defScope st) f cdv A outer s H E) (fxE bag nr H Hf E) k → ds.length = n →
      ∃ body : M (Fl Unit Empty), PSs (cxOf (CXm P w mg) P w K mg base N qual (defScope st) f cdv A outer s H E) (defBody st)
        (tS (cxOf (CXm P w mg) P w K mg base N qual (defScope st) f cdv A outer s H E).K (cxOf (CXm P w mg) P w K mg base N qual (defScope st) f cdv A outer s H E).mg (fxE bag nr H Hf E) (G1 N ds) (fun _ => unG N) Empty.elim body) ∧ g ds = runM nr body) :
    FnG P w K mg base (k + 1) f fd ps (spM K mg nr (n + 1) g) := by
  refine fn_g F Sc (fun vs H Q E h => h.1.trans hn.symm) (fun cdv A outer s H vs Q E gd hr h => ?_)
  obtain ⟨hl, bag, b, r, Hf, ds, vs', s0, eb, rfl, sb, hbb, bg, l, q⟩ := h
  have C : Cok (cxOf (CXm P w mg) P w K mg base N qual (defScope st) f cdv A outer s H E) (fxE bag nr H Hf E) k := ⟨rfl, fun _ => passes_of rfl, takes_of rfl rfl rfl rfl, hr, Sc.nd, gd⟩
  have hl' : vs'.length = n := by simpa using hl
  obtain ⟨body, hp, hg⟩ := hb cdv A outer s H Hf bag E ds C (l.len.trans hl')
  refine ⟨_, hp, Hf, s0, .init1 eb sb hbb bg l (by omega), ?_⟩
  rw [hg] at q
  show (body s0).wp _ _
  have e : runM nr body s0 = (match body s0 with
    | .ok (.nx _) s => if nr = true then .stuck else .ok .non s
    | .ok (.rt d) s => .ok d s
    | .ok (.bk b) _ => b.elim
    | .ok (.ct b) _ => b.elim
    | .ex e s => .ex e s
    | .stuck => .stuck) := rfl
  rw [e] at q
  cases z : body s0 with
  | ok f s1 =>
    rw [z] at q
    cases f with
    | nx a =>
      cases nr with
      | true => exact (show False from q).elim
      | false => exact fun Hf' H' σ' _ st => q .non Hf' H' st.ste st.bag (rfl : V.non = V.non)
    | rt d => exact fun v Hf' H' st bg i => q v Hf' H' st bg i
    | bk b => exact b.elim
    | ct b => exact b.elim
  | ex e s1 => rw [z] at q; exact fun cls dd σ' Hf' H' st x => q cls dd Hf' H' st.1 st.2 x
  | stuck => rw [z] at q; exact q
end
section
variable {X : Cx} {fx : Fx} {m : Type → Type} [Mo m] {G : List Sl} {es : List Expr} {pos : Pos} {ys : m (List D)} {kk j n : Nat} {g : List D → R D} {f : Addr} {fd : FuncData} {ps : List Str} {nm : Str} {p : Pos} {e : Expr} [DL.TC]
theorem fn_core {vs : List V} {ds : List D} {Hf : Hp} {s : S} {σ : L2.St} {H : Hp} {Q : VK} (hn : vs.length = n) (r : IsL X.K X.mg Hf ds vs) (h : tX X.K X.mg fx G (fun H d v => Is X.K X.mg H d v) (Mo.lift (g ds) : m D) Hf s σ H Q) : spR X.K X.mg false n g vs H Q (WE fx.W σ) := by
  have w := Mo.wp_lift h.2
  refine ⟨hn, Hf, ds, h.1.topT, r, ?_⟩
  cases z : g ds with
  | ok d => rw [z] at w; exact fun v Hf' H' st i => w v Hf' H' st.wide (st.bag h.1.bag) i
  | ex e => rw [z] at w; exact fun cls dd Hf' H' st x => w cls dd Hf' H' (h.1.step st.wide (st.bag h.1.bag)) x
  | stuck => rw [z] at w; exact w
theorem de_fn (C : Cok X fx kk) (F : FnG X.prog X.w X.K X.mg X.base j f fd ps (spR X.K X.mg false n g)) (hm : X.mg nm = some (.ref f)) (hk : PySem.W.keepIn X.K (.ref f) = true) (hb : Binds X.K fd ps []) (ha : PA X (e :: es) (tA X.K X.mg fx G ys)) (hn : ∀ ds : List D, g ds ≠ .stuck → ds.length = n)
    (hj : j ≤ kk := by decide) (hg : Gl X nm := by rfl) (hdb : (nm == ("__debug__" : Str)) = false := by decide) (he : starEach (e :: es) X.env = (false, eval e X.env) :: starEach es X.env := by rfl) (hpl : (backTo pos (starEach es X.env)).any (·.1) = false := by rfl) :
    PE X (.Call (.Name nm p) (e :: es) [] pos) (tE X.K X.mg fx G (do let ds ← ys; Mo.lift (g ds))) := peI (pe_callG (E := WE fx.W) F C.gd (C.rm.mono hj) hg hm hk hb .nil (fun σ => passAt C.tk σ) ha hdb he hpl) fun σ H Q ⟨Hf, s, h⟩ =>
  (h.bind.mono fun vs H1 ⟨ds, Hf1, s1, sb, r, h1⟩ => by
    rw [List.append_nil]
    exact fn_core (by
    have w := Mo.wp_lift h1.2
    rw [← r.len]
    refine hn ds fun z => ?_
    rw [z] at w
    exact w) r h1).to
end
section
variable {X : Cx} {fx : Fx} {G : List Sl} {es : List Expr} {pos : Pos} {ys : M (List D)} {kk j n : Nat} {g : List D → M D} {f : Addr} {fd : FuncData} {ps : List Str} {nm bn : Str} {p bp : Pos} [DL.TC]
theorem de_fnM (C : Cok X fx kk) (i : Nat) (F : FnG X.prog X.w X.K X.mg X.base j f fd ps (spM X.K X.mg false (n + 1) g)) (hm : X.mg nm = some (.ref f)) (hk : PySem.W.keepIn X.K (.ref f) = true) (hb : Binds X.K fd ps []) (ha : PA X es (tA X.K X.mg fx G ys)) (hn : ∀ ds s, g ds s ≠ .stuck → ds.length = n)
    (hG : G[i]? = some .bg := by rfl) (hN : X.N[i]? = some bn := by rfl) (hv : Vis X.env.scope bn := by first | exact Or.inl rfl | exact Or.inr (Or.inl rfl) | exact Or.inr (Or.inr rfl))
    (hj : j ≤ kk := by decide) (hg : Gl X nm := by rfl) (hdb : (nm == ("__debug__" : Str)) = false := by decide) (he : starEach (.Name bn bp :: es) X.env = (false, eval (.Name bn bp) X.env) :: starEach es X.env := by rfl) (hpl : (backTo pos (starEach es X.env)).any (·.1) = false := by rfl)
    (hd : (bn == ("__debug__" : Str)) = false := by decide) (hcd : (bn == ("__classdict__" : Str)) = false := by decide) :
    PE X (.Call (.Name nm p) (.Name bn bp :: es) [] pos) (tE X.K X.mg fx G (do let ds ← ys; g ds)) :=
  peI (pe_callG (E := WE fx.W) F C.gd (C.rm.mono hj) hg hm hk hb .nil (fun σ => passAt C.tk σ) (pa_cons (pe_var hN hv hd hcd) ha he) hdb he hpl) fun σ H Q ⟨Hf, s, h⟩ => by
    obtain ⟨b, r, eb, ev⟩ := h.1.sl i _ hG
    refine ⟨.ref b, ev, (h.bind.mono fun vs H1 ⟨ds, Hf1, s1, sb, rl, h1⟩ => ?_).to⟩
    show spM X.K X.mg false (n + 1) g ((.ref b :: vs) ++ []) H1 Q (WE fx.W σ)
    rw [List.append_nil]
    have w : (g ds s1).wp _ _ := h1.2
    have hlen : ds.length = n := hn ds s1 fun z => by rw [z] at w; exact w
    refine ⟨by rw [List.length_cons, ← rl.len, hlen], fx.bag, b, r, Hf1, ds, vs, s1, eb, rfl, h1.1.topT, h1.1.bagf, h1.1.bag, rl, ?_⟩
    cases z : g ds s1 with
    | ok d s' => rw [z] at w; exact fun v Hf' H' st bg i => w v Hf' H' st bg i
    | ex e s' => rw [z] at w; exact fun cls dd Hf' H' st bg x => w cls dd Hf' H' (h1.1.step st bg) x
    | stuck => rw [z] at w; exact w
end
end DL
namespace DL
open PySem L2
mutual
def toPy : D → Option PyData
  | .non => some .none
  | .bl b => some (.bool b)
  | .int i => some (.int i)
  | .str s => some (.str ⟨s.toArray⟩)
  | .tup ds => (toPyL ds).map .tuple
  | .lst ds => (toPyL ds).map .list
  | _ => none
def toPyL : List D → Option (List PyData)
  | [] => some []
  | d :: ds => do
    let x ← toPy d
    let xs ← toPyL ds
    return x :: xs
end
section
variable {K : PySem.W.Frag} {mg : Str → Option Value} [DL.TC]
mutual
theorem Is.dp {H : Hp} : ∀ {d : D} {v : V} {p : PyData}, Is K mg H d v → toPy d = some p → Dp K H v p
  | .non, _, _, h, e => by cases e; cases h; exact .non
  | .bl b, _, _, h, e => by cases e; cases h; exact .bl b
  | .int i, _, _, h, e => by cases e; cases h; exact .int i
  | .str s, _, _, h, e => by cases e; cases h.1; exact .str _
  | .tup ds, _, _, h, e => by
    obtain ⟨_, a, vs, rfl, t, l⟩ := h
    unfold toPy at e
    cases q : toPyL ds with
    | none => rw [q] at e; cases e
    | some ps => rw [q] at e; cases e; exact .tup t (IsL.dp l q)
  | .lst ds, _, _, h, e => by
    obtain ⟨_, a, vs, rfl, t, l⟩ := h
    unfold toPy at e
    cases q : toPyL ds with
    | none => rw [q] at e; cases e
    | some ps => rw [q] at e; cases e; exact .lst (.inl (.inl t)) (IsL.dp l q)
  | .dic _ _, _, _, h, e => by unfold toPy at e; cases e
  | .ins _ _ _, _, _, h, e => by unfold toPy at e; cases e
  | .scr _, _, _, h, e => by unfold toPy at e; cases e
  | .xc _ _ _ _, _, _, h, e => by unfold toPy at e; cases e
theorem IsL.dp {H : Hp} : ∀ {ds : List D} {vs : List V} {ps : List PyData}, IsL K mg H ds vs → toPyL ds = some ps → DpAll K H vs ps
  | [], _, _, h, e => by cases h; unfold toPyL at e; cases e; exact .nil
  | d :: ds, _, _, h, e => by
    obtain ⟨v, r, rfl, i, l⟩ := h
    unfold toPyL at e
    cases q : toPy d with
    | none => rw [q] at e; cases e
    | some x =>
      cases q2 : toPyL ds with
      | none => rw [q, q2] at e; cases e
      | some xs => rw [q, q2] at e; cases e; exact .cons (Is.dp i q) (IsL.dp l q2)
end
end
def eqS (a b : D) : Option Bool := match toPy a, toPy b with
  | some x, some y => if SeqAt.shaped x && SeqAt.shaped y then some (PyData.eqv x y) else none
  | _, _ => none
def eqP : D → D → Option Bool
  | .str x, .str y => some (decide (x = y))
  | .int x, .int y => some (decide (x = y))
  | .bl x, .bl y => some (decide (x = y))
  | .non, .non => some true
  | a, b => eqS a b
def eqD (a b : D) : Option D := (eqP a b).map .bl
def neD (a b : D) : Option D := (eqP a b).map fun x => .bl (!x)
def addD : D → D → Option D
  | .int i, .int j => some (.int (i + j))
  | .str a, .str b => if a.length + b.length ≤ sizeLine then some (.str (a ++ b)) else none
  | .lst a, .lst b => if a.length + b.length ≤ sizeLine then some (.lst (a ++ b)) else none
  | .tup a, .tup b => if a.length + b.length ≤ sizeLine then some (.tup (a ++ b)) else none
  | _, _ => none
def subD : D → D → Option D
  | .int i, .int j => some (.int (i - j))
  | _, _ => none
def mulD : D → D → Option D
  | .int i, .int j => if i.natAbs.log2 + j.natAbs.log2 < 1000000 then some (.int (i * j)) else none
  | .str a, .int k => if 0 ≤ k ∧ k < 1000000 ∧ a.length * k.toNat ≤ 1000000 then some (.str (List.replicate k.toNat a).flatten) else none
  | .lst a, .int k => if 0 ≤ k ∧ k < 1000000 ∧ a.length * k.toNat ≤ 1000000 then some (.lst (List.replicate k.toNat a).flatten) else none
  | _, _ => none
def fdivD : D → D → Option D
  | .int i, .int j => if 0 < j ∧ j.natAbs.log2 < 9000 then some (.int (i / j)) else none
  | _, _ => none
def modD : D → D → Option D
  | .int i, .int j => if 0 < j then some (.int (i % j)) else none
  | _, _ => none
def ltP (a b : D) : Option Bool := match toPy a, toPy b with
  | some x, some y => if PySem.W.alike x y && decide (x.depth ≤ 60) && (isNonP x == false) then some (PySem.W.dataLt x y) else none
  | _, _ => none
where isNonP : PyData → Bool
  | .none => true
  | _ => false
def ltD : D → D → Option D
  | .int i, .int j => some (.bl (decide (i < j)))
  | .str a, .str b => some (.bl (decide (a < b)))
  | a, b => (ltP a b).map .bl
def leD : D → D → Option D
  | .int i, .int j => some (.bl (decide (i ≤ j)))
  | a, b => (leP a b).map .bl
where leP (a b : D) : Option Bool := match toPy a, toPy b with
  | some x, some y => if PySem.W.alike x y && decide (x.depth ≤ 60) && (ltP.isNonP x == false) then some (!PySem.W.dataLt y x) else none
  | _, _ => none
def gtD : D → D → Option D
  | .int i, .int j => some (.bl (decide (j < i)))
  | a, b => (gtP a b).map .bl
where gtP (a b : D) : Option Bool := match toPy a, toPy b with
  | some x, some y => if PySem.W.alike x y && decide (x.depth ≤ 60) && (ltP.isNonP x == false) then some (PySem.W.dataLt y x) else none
  | _, _ => none
def geD : D → D → Option D
  | .int i, .int j => some (.bl (decide (j ≤ i)))
  | a, b => (geP a b).map .bl
where geP (a b : D) : Option Bool := match toPy a, toPy b with
  | some x, some y => if PySem.W.alike x y && decide (x.depth ≤ 60) && (ltP.isNonP x == false) then some (!PySem.W.dataLt x y) else none
  | _, _ => none
def isNone : D → Option Bool
  | .non => some true
  | .bl _ => some false
  | .int _ => some false
  | .str _ => some false
  | .tup _ => some false
  | .lst _ => some false
  | .dic _ _ => some false
  | .ins _ _ _ => some false
  | .scr _ => some false
  | .xc _ _ _ _ => some false
def isD : D → D → Option D
  | a, .non => (isNone a).map .bl
  | .bl a, .bl b => some (.bl (decide (a = b)))
  | _, _ => none
def isNotD : D → D → Option D
  | a, .non => (isNone a).map fun x => .bl (!x)
  | .bl a, .bl b => some (.bl (!decide (a = b)))
  | _, _ => none
def inP : D → D → Option Bool
  | .str [c], .str z => some (decide (c ∈ z))
  | d, .lst ds => match toPy d, toPy (.lst ds) with
    | some x, some (.list ys) => if SeqAt.shaped x && SeqAt.shaped (.list ys) then some (ys.any fun z => PyData.eqv z x) else none
    | _, _ => none
  | d, .tup ds => match toPy d, toPy (.tup ds) with
    | some x, some (.tuple ys) => if SeqAt.shaped x && SeqAt.shaped (.tuple ys) then some (ys.any fun z => PyData.eqv z x) else none
    | _, _ => none
  | _, _ => none
def inD (a b : D) : Option D := (inP a b).map .bl
def notInD (a b : D) : Option D := (inP a b).map fun x => .bl (!x)
section
variable {X : Cx} [DL.TC]
theorem str_tl (s : List Nat) : (⟨s.toArray⟩ : Str).cps.toList = s := by simp
theorem str_len (s : List Nat) : (⟨s.toArray⟩ : Str).length = s.length := by
  show s.toArray.size = s.length
  simp
theorem str_app (a b : List Nat) : (⟨a.toArray⟩ ++ ⟨b.toArray⟩ : Str) = ⟨(a ++ b).toArray⟩ := by
  show (⟨a.toArray ++ b.toArray⟩ : Str) = _
  simp
theorem dec_str {a b : List Nat} : decide (V.str ⟨a.toArray⟩ = V.str ⟨b.toArray⟩) = decide (a = b) := by
  by_cases h : a = b
  · subst h; simp
  · rw [decide_eq_false h, decide_eq_false]
    intro z
    apply h
    have z1 : (⟨a.toArray⟩ : Str) = ⟨b.toArray⟩ := V.str.inj z
    have z2 : a.toArray = b.toArray := Str.mk.inj z1
    simpa using z2
theorem eq_core (hu : X.A.units + 64 < cLine) {pins : List (Addr × Obj)} {s : Shared} {σ : L2.St} {H : Hp} {x y : V} {v u : Value} (I : Inv X pins σ H s) (rx : RelV x v) (ry : RelV y u) {Hf : Hp} {dx dy : D} {b : Bool} (sb : Sub Hf H) (ix : Is X.K X.mg Hf dx x) (iy : Is X.K X.mg Hf dy y) (e : eqP dx dy = some b) :
    (∀ Q : VK, Q (.bl b) H → wpAny (model X.prog X.w) X.A (compareOp .Eq v u) (EP X pins σ Q) X.xe s) ∧ (∀ Q : VK, Q (.bl (!b)) H → wpAny (model X.prog X.w) X.A (compareOp .NotEq v u) (EP X pins σ Q) X.xe s) := by
  unfold eqP at e
  split at e
  · obtain ⟨rfl, _⟩ := ix
    obtain ⟨rfl, _⟩ := iy
    cases e
    exact ⟨fun Q q => op_eq pins s σ H _ _ v u Q I rx ry ⟨rfl, by rw [dec_str]; exact q⟩, fun Q q => op_ne pins s σ H _ _ v u Q I rx ry ⟨rfl, by rw [dec_str]; exact q⟩⟩
  · cases ix; cases iy; cases e
    refine ⟨fun Q q => op_eq pins s σ H _ _ v u Q I rx ry ⟨rfl, ?_⟩, fun Q q => op_ne pins s σ H _ _ v u Q I rx ry ⟨rfl, ?_⟩⟩ <;> simpa using q
  · cases ix; cases iy; cases e
    refine ⟨fun Q q => op_eq pins s σ H _ _ v u Q I rx ry ⟨rfl, ?_⟩, fun Q q => op_ne pins s σ H _ _ v u Q I rx ry ⟨rfl, ?_⟩⟩ <;> simpa using q
  · cases ix; cases iy; cases e
    exact ⟨fun Q q => op_eq pins s σ H _ _ v u Q I rx ry ⟨rfl, by simpa using q⟩, fun Q q => op_ne pins s σ H _ _ v u Q I rx ry ⟨rfl, by simpa using q⟩⟩
  · unfold eqS at e
    cases e1 : toPy dx with
    | none => rw [e1] at e; cases e
    | some p1 =>
      cases e2 : toPy dy with
      | none => rw [e1, e2] at e; cases e
      | some p2 =>
        rw [e1, e2] at e
        by_cases c : (SeqAt.shaped p1 && SeqAt.shaped p2) = true
        · simp only [c, if_true, Option.some.injEq] at e
          subst e
          rw [Bool.and_eq_true] at c
          exact ⟨fun Q q => op_eqD hu pins s σ H x y v u Q I rx ry ⟨p1, p2, (ix.mono sb).dp e1, (iy.mono sb).dp e2, c.1, c.2, q⟩, fun Q q => op_neD hu pins s σ H x y v u Q I rx ry ⟨p1, p2, (ix.mono sb).dp e1, (iy.mono sb).dp e2, c.1, c.2, q⟩⟩
        · simp only [c, if_false] at e
          cases e
theorem od_eq (hu : X.A.units + 64 < cLine) : OpR X (compareOp .Eq) (rD2 X.K X.mg eqD) := by
  intro pins s σ H x y v u Q I rx ry h
  obtain ⟨Hf, dx, dy, d, sb, ix, iy, e, q⟩ := h
  unfold eqD at e
  cases e1 : eqP dx dy with
  | none => rw [e1] at e; cases e
  | some b => rw [e1] at e; cases e; exact (eq_core hu I rx ry sb ix iy e1).1 Q (q _ Hf H (.refl sb) (by cases b <;> rw [Is]))
theorem od_ne (hu : X.A.units + 64 < cLine) : OpR X (compareOp .NotEq) (rD2 X.K X.mg neD) := by
  intro pins s σ H x y v u Q I rx ry h
  obtain ⟨Hf, dx, dy, d, sb, ix, iy, e, q⟩ := h
  unfold neD at e
  cases e1 : eqP dx dy with
  | none => rw [e1] at e; cases e
  | some b => rw [e1] at e; cases e; exact (eq_core hu I rx ry sb ix iy e1).2 Q (q _ Hf H (.refl sb) (by cases b <;> rw [Is]))
theorem od_add : OpR X (binaryOp .Add) (rD2 X.K X.mg addD) := by
  intro pins s σ H x y v u Q I rx ry h
  obtain ⟨Hf, dx, dy, d, sb, ix, iy, e, q⟩ := h
  unfold addD at e
  split at e
  · cases e; cases ix; cases iy
    exact op_add pins s σ H _ _ v u Q I rx ry ⟨_, _, rfl, rfl, q _ Hf H (.refl sb) (by rw [Is])⟩
  · split at e
    · rename_i a b hz
      cases e; cases ix.1; cases iy.1
      exact op_add_str pins s σ H _ _ v u Q I rx ry ⟨_, _, rfl, rfl, by rw [str_len, str_len]; exact hz, q _ Hf H (.refl sb) (by rw [Is, str_app]; exact ⟨rfl, by rw [List.length_append]; exact hz⟩)⟩
    · cases e
  · split at e
    · rename_i a b hz
      cases e
      obtain ⟨z1, p1, v1, rfl, h1, l1⟩ := ix
      obtain ⟨z2, p2, v2, rfl, h2, l2⟩ := iy
      refine op_cat pins s σ H _ _ v u Q I rx ry ⟨_, _, _, _, rfl, rfl, sb _ _ h1, sb _ _ h2, by rw [← l1.len, ← l2.len]; exact hz, fun p hp => q _ _ _ (.new sb hp) ?_⟩
      exact ⟨by rw [List.length_append]; exact hz, p, _, rfl, upd_same, (l1.app l2).mono (Ste.new (bag := []) sb hp).sub⟩
    · cases e
  · split at e
    · rename_i a b hz
      cases e
      obtain ⟨z1, p1, v1, rfl, h1, l1⟩ := ix
      obtain ⟨z2, p2, v2, rfl, h2, l2⟩ := iy
      refine op_catA pins s σ H _ _ v u Q I rx ry ⟨_, _, _, _, rfl, rfl, sb.sqt h1, sb.sqt h2, by rw [← l1.len, ← l2.len]; exact hz, fun z => ?_, fun z3 z4 => ?_, fun _ _ p hp => q _ _ _ (.new sb hp) ?_⟩
      · subst z
        have := l1.len
        have ea : a = [] := List.eq_nil_of_length_eq_zero (by simpa using this)
        subst ea
        exact q _ _ _ (.refl sb) ⟨z2, p2, v2, rfl, h2, l2⟩
      · subst z4
        have := l2.len
        have eb : b = [] := List.eq_nil_of_length_eq_zero (by simpa using this)
        subst eb
        rw [List.append_nil] at q
        exact q _ _ _ (.refl sb) ⟨z1, p1, v1, rfl, h1, l1⟩
      · exact ⟨by rw [List.length_append]; exact hz, p, _, rfl, .inl (.inl upd_same), (l1.app l2).mono (Ste.new (bag := []) sb hp).sub⟩
    · cases e
  · cases e
theorem od_sub : OpR X (binaryOp .Sub) (rD2 X.K X.mg subD) := by
  intro pins s σ H x y v u Q I rx ry h
  obtain ⟨Hf, dx, dy, d, sb, ix, iy, e, q⟩ := h
  unfold subD at e
  split at e
  · cases e; cases ix; cases iy
    exact op_sub pins s σ H _ _ v u Q I rx ry ⟨_, _, rfl, rfl, q _ Hf H (.refl sb) (by rw [Is])⟩
  · cases e
theorem od_fdiv : OpR X (binaryOp .FloorDiv) (rD2 X.K X.mg fdivD) := by
  intro pins s σ H x y v u Q I rx ry h
  obtain ⟨Hf, dx, dy, d, sb, ix, iy, e, q⟩ := h
  unfold fdivD at e
  split at e
  · split at e
    · rename_i hz
      cases e; cases ix; cases iy
      exact op_fdivW pins s σ H _ _ v u Q I rx ry ⟨_, _, rfl, rfl, hz, q _ Hf H (.refl sb) (by rw [Is])⟩
    · cases e
  · cases e
theorem od_mod : OpR X (binaryOp .Mod) (rD2 X.K X.mg modD) := by
  intro pins s σ H x y v u Q I rx ry h
  obtain ⟨Hf, dx, dy, d, sb, ix, iy, e, q⟩ := h
  unfold modD at e
  split at e
  · split at e
    · rename_i hz
      cases e; cases ix; cases iy
      exact op_mod pins s σ H _ _ v u Q I rx ry ⟨_, _, rfl, rfl, hz, q _ Hf H (.refl sb) (by rw [Is])⟩
    · cases e
  · cases e
theorem od_lt (hu : X.A.units + 64 < cLine) : OpR X (compareOp .Lt) (rD2 X.K X.mg ltD) := by
  intro pins s σ H x y v u Q I rx ry h
  obtain ⟨Hf, dx, dy, d, sb, ix, iy, e, q⟩ := h
  unfold ltD at e
  split at e
  · cases e; cases ix; cases iy
    exact op_lt pins s σ H _ _ v u Q I rx ry ⟨_, _, rfl, rfl, q _ Hf H (.refl sb) (by rw [Is])⟩
  · cases e; cases ix.1; cases iy.1
    refine op_lt_str pins s σ H _ _ v u Q I rx ry ⟨_, _, rfl, rfl, ?_⟩
    rw [str_tl, str_tl]
    exact q _ Hf H (.refl sb) (by rw [Is])
  · cases e1 : ltP dx dy with
    | none => rw [e1] at e; cases e
    | some b =>
      rw [e1] at e; cases e
      unfold ltP at e1
      split at e1
      · rename_i p1 p2 f1 f2
        split at e1
        · rename_i hc
          cases e1
          simp only [Bool.and_eq_true, decide_eq_true_eq, beq_iff_eq] at hc
          obtain ⟨as, r1⟩ := Dp.reads I p1 x v ((ix.mono sb).dp f1) rx
          obtain ⟨bs, r2⟩ := Dp.reads I p2 y u ((iy.mono sb).dp f2) ry
          have hm : X.A.units + min p1.depth p2.depth < cLine := by
            have := Nat.min_le_left p1.depth p2.depth
            omega
          exact PySem.W.lt_data r1 r2 hc.1.1 (fun z => by rw [z] at hc; exact Bool.noConfusion hc.2) hm ⟨.bl _, H, I, rfl, q _ Hf H (.refl sb) (by cases (PySem.W.dataLt p1 p2) <;> cases (PySem.W.dataLt p2 p1) <;> rw [Is])⟩
        · cases e1
      · cases e1
theorem od_le (hu : X.A.units + 64 < cLine) : OpR X (compareOp .LtE) (rD2 X.K X.mg leD) := by
  intro pins s σ H x y v u Q I rx ry h
  obtain ⟨Hf, dx, dy, d, sb, ix, iy, e, q⟩ := h
  unfold leD at e
  split at e
  · cases e; cases ix; cases iy
    exact op_le pins s σ H _ _ v u Q I rx ry ⟨_, _, rfl, rfl, q _ Hf H (.refl sb) (by rw [Is])⟩
  · cases e1 : leD.leP dx dy with
    | none => rw [e1] at e; cases e
    | some b =>
      rw [e1] at e; cases e
      unfold leD.leP at e1
      split at e1
      · rename_i p1 p2 f1 f2
        split at e1
        · rename_i hc
          cases e1
          simp only [Bool.and_eq_true, decide_eq_true_eq, beq_iff_eq] at hc
          obtain ⟨as, r1⟩ := Dp.reads I p1 x v ((ix.mono sb).dp f1) rx
          obtain ⟨bs, r2⟩ := Dp.reads I p2 y u ((iy.mono sb).dp f2) ry
          have hm : X.A.units + min p1.depth p2.depth < cLine := by
            have := Nat.min_le_left p1.depth p2.depth
            omega
          exact PySem.W.le_data r1 r2 hc.1.1 (fun z => by rw [z] at hc; exact Bool.noConfusion hc.2) hm ⟨.bl _, H, I, rfl, q _ Hf H (.refl sb) (by cases (PySem.W.dataLt p1 p2) <;> cases (PySem.W.dataLt p2 p1) <;> rw [Is])⟩
        · cases e1
      · cases e1
theorem od_gt (hu : X.A.units + 64 < cLine) : OpR X (compareOp .Gt) (rD2 X.K X.mg gtD) := by
  intro pins s σ H x y v u Q I rx ry h
  obtain ⟨Hf, dx, dy, d, sb, ix, iy, e, q⟩ := h
  unfold gtD at e
  split at e
  · cases e; cases ix; cases iy
    exact op_gt pins s σ H _ _ v u Q I rx ry ⟨_, _, rfl, rfl, q _ Hf H (.refl sb) (by rw [Is])⟩
  · cases e1 : gtD.gtP dx dy with
    | none => rw [e1] at e; cases e
    | some b =>
      rw [e1] at e; cases e
      unfold gtD.gtP at e1
      split at e1
      · rename_i p1 p2 f1 f2
        split at e1
        · rename_i hc
          cases e1
          simp only [Bool.and_eq_true, decide_eq_true_eq, beq_iff_eq] at hc
          obtain ⟨as, r1⟩ := Dp.reads I p1 x v ((ix.mono sb).dp f1) rx
          obtain ⟨bs, r2⟩ := Dp.reads I p2 y u ((iy.mono sb).dp f2) ry
          have hm : X.A.units + min p1.depth p2.depth < cLine := by
            have := Nat.min_le_left p1.depth p2.depth
            omega
          exact PySem.W.gt_data r1 r2 hc.1.1 (fun z => by rw [z] at hc; exact Bool.noConfusion hc.2) hm ⟨.bl _, H, I, rfl, q _ Hf H (.refl sb) (by cases (PySem.W.dataLt p1 p2) <;> cases (PySem.W.dataLt p2 p1) <;> rw [Is])⟩
        · cases e1
      · cases e1
theorem od_ge (hu : X.A.units + 64 < cLine) : OpR X (compareOp .GtE) (rD2 X.K X.mg geD) := by
  intro pins s σ H x y v u Q I rx ry h
  obtain ⟨Hf, dx, dy, d, sb, ix, iy, e, q⟩ := h
  unfold geD at e
  split at e
  · cases e; cases ix; cases iy
    exact op_ge pins s σ H _ _ v u Q I rx ry ⟨_, _, rfl, rfl, q _ Hf H (.refl sb) (by rw [Is])⟩
  · cases e1 : geD.geP dx dy with
    | none => rw [e1] at e; cases e
    | some b =>
      rw [e1] at e; cases e
      unfold geD.geP at e1
      split at e1
      · rename_i p1 p2 f1 f2
        split at e1
        · rename_i hc
          cases e1
          simp only [Bool.and_eq_true, decide_eq_true_eq, beq_iff_eq] at hc
          obtain ⟨as, r1⟩ := Dp.reads I p1 x v ((ix.mono sb).dp f1) rx
          obtain ⟨bs, r2⟩ := Dp.reads I p2 y u ((iy.mono sb).dp f2) ry
          have hm : X.A.units + min p1.depth p2.depth < cLine := by
            have := Nat.min_le_left p1.depth p2.depth
            omega
          exact PySem.W.ge_data r1 r2 hc.1.1 (fun z => by rw [z] at hc; exact Bool.noConfusion hc.2) hm ⟨.bl _, H, I, rfl, q _ Hf H (.refl sb) (by cases (PySem.W.dataLt p1 p2) <;> cases (PySem.W.dataLt p2 p1) <;> rw [Is])⟩
        · cases e1
      · cases e1
end
end DL
namespace DL
open PySem L2
section
variable (K : PySem.W.Frag) (mg : Str → Option Value) (fx : Fx) [DL.TC]
def FrQ (Hf H : Hp) (Q : VK) : List D → S → Prop := fun ds s' => ∀ p vs Hf' H', Ste fx.bag Hf H Hf' H' → BagAt fx.bag H' s' → H' p = some (.lst vs) → Hf' p = none → H p = none → IsL K mg Hf' ds vs → ds.length ≤ sizeLine → Q (.ref p) H'
def tF (G : List Sl) {m : Type → Type} [Mo m] (x : m (List D)) : TE := fun σ H Q => ∃ Hf s, StS K mg fx Hf H σ G s ∧ Mo.wp x s (FrQ K mg fx Hf H Q) (EX K mg fx G σ)
end
def mkL {m : Type → Type} [Mo m] (x : m (List D)) : m D := do
  let ds ← x
  pure (.lst ds)
def szL (ds : List D) : Option (List D) := if ds.length ≤ sizeLine then some ds else none
theorem Ste.upd [DL.TC] {bag : List Addr} {Hf H Hf' H' : Hp} (e : Ste bag Hf H Hf' H') {p : Addr} {o : HO} (hp : H p = none) (hf : Hf' p = none) (hk : Pl H' p) : Ste bag Hf H Hf' (L2.upd H' p o) := by
  refine ⟨e.sub, fun a u q => ?_, fun a u q n k => ?_, fun a n => ?_, e.fresh, fun t => (e.tab t).updP hk⟩
  · have ne : a ≠ p := fun z => by rw [z, hf] at q; cases q
    rw [upd_ne ne]; exact e.top a u q
  · have ne : a ≠ p := fun z => by rw [z, hp] at q; cases q
    rw [upd_ne ne]; exact e.keep a u q n k
  · by_cases c : a = p
    · rw [c, upd_same]; simp
    · rw [upd_ne c]; exact e.dom a n
section
variable {K : PySem.W.Frag} {mg : Str → Option Value} {fx : Fx} {Hf H : Hp} {σ : L2.St} {G : List Sl} {s : S} [DL.TC]
theorem StS.other (st : StS K mg fx Hf H σ G s) {p : Addr} {o : HO} (hf : Hf p = none) (h0 : fx.H0 p = none) (nb : p ∉ fx.bag) (hk : Pl H p) (no : ∀ (j : Nat) (q : Addr), σ[j]? = some (some (.ref q)) → (∀ x, G[j]? = some x → isOw x = true → q ≠ p)) : StS K mg fx Hf (upd H p o) σ G s := by
  refine ⟨st.ste.upd h0 hf hk, st.bag.upd nb, fun b m => ⟨(st.bagg b m).1, ?_, (st.bagg b m).2.2⟩, st.tb.updP hk, st.len, fun j x ex => ?_, st.dis⟩
  · have ne : b ≠ p := fun z => st.owNb h0 nb (z ▸ m)
    rw [upd_ne ne]; exact (st.bagg b m).2.1
  · exact (st.sl j x ex).upd fun q o e => no j q e x ex o
end
section
variable {X : Cx} {fx : Fx} {m : Type → Type} [Mo m] {G : List Sl} {e : Expr} [DL.TC]
theorem de_frz {x : m (List D)} (h : PE X e (tF X.K X.mg fx G x)) : PE X e (tE X.K X.mg fx G (mkL x)) := peI h fun σ H Q ⟨Hf, s, st, w⟩ =>
  ⟨Hf, s, st, Mo.wp_mono (Mo.wp_bind w) (fun ds s' k p vs Hf' H' e bg hp hf hn l hz => by
    have k' := Mo.wp_pure k
    have sb : Sub Hf' (upd Hf' p (.lst vs)) := fun a o q => by
      have ne : a ≠ p := fun z => by rw [z, hf] at q; cases q
      rw [upd_ne ne]; exact q
    refine k' (.ref p) (upd Hf' p (.lst vs)) H' ⟨e.sub.trans sb, fun a o q => ?_, e.keep, e.dom, fun a o q => ?_, e.tab⟩ bg ⟨hz, p, vs, rfl, upd_same, l.mono sb⟩
    · by_cases c : a = p
      · subst c; rw [upd_same] at q; cases q; exact hp
      · rw [upd_ne c] at q; exact e.top a o q
    · by_cases c : a = p
      · subst c; exact .inr hn
      · rw [upd_ne c] at q; exact e.fresh a o q) fun e s' k => k⟩
theorem frq_new {Hf H : Hp} {σ : L2.St} {s : S} {ds : List D} {vs : List V} {Q : VK} (st : StS X.K X.mg fx Hf H σ G s) {Hf0 H0 : Hp} (e : Ste fx.bag Hf0 H0 Hf H) (h : FrQ X.K X.mg fx Hf0 H0 Q ds s) (l : IsL X.K X.mg Hf ds vs) (hz : ds.length ≤ sizeLine) (p : Addr) (hp : H p = none) : Q (.ref p) (upd H p (.lst vs)) := by
  have hn : H0 p = none := by
    cases q : H0 p with
    | none => rfl
    | some o => exact absurd hp (e.dom p (by rw [q]; simp))
  obtain ⟨_, nb, hf⟩ := st.new0 hp
  exact h p vs Hf _ (e.upd hn hf (.none hp)) (st.bag.upd nb) upd_same hf hn l hz
theorem df_list {es : List Expr} {pos : Pos} {ys : m (List D)} (h : PA X es (tA X.K X.mg fx G ys)) : PE X (.List es pos) (tF X.K X.mg fx G (do let ds ← ys; ask (szL ds))) := peI (pe_lst h) fun σ H Q ⟨Hf, s, st, w⟩ =>
  ⟨Hf, s, st, Mo.wp_mono (Mo.wp_bind w) (fun ds s1 k vs Hf1 H1 e bg l => by
    have k' := Mo.wp_lift k
    by_cases hz : ds.length ≤ sizeLine
    · have e1 : szL ds = some ds := if_pos hz
      rw [e1] at k'
      exact ⟨by rw [← l.len]; exact hz, fun p hp => frq_new (st.step e bg) e k' l hz p hp⟩
    · have e1 : szL ds = none := if_neg hz
      rw [e1] at k'
      exact k'.elim) fun e s' k => k⟩
theorem de_tup {es : List Expr} {pos : Pos} {x1 : Nat} {ys : m (List D)} (h : PA X es (tA X.K X.mg fx G ys)) : PE X (.Tuple es x1 pos) (tE X.K X.mg fx G (do let ds ← ys; let ds ← ask (szL ds); pure (.tup ds))) := peI (pe_tup h) fun σ H Q ⟨Hf, s, h⟩ =>
  (h.bind.mono fun vs H1 ⟨ds, Hf1, s1, sb, l, h1⟩ => by
    have k' := Mo.wp_lift (Mo.wp_bind h1.2)
    by_cases hz : ds.length ≤ sizeLine
    · have e1 : szL ds = some ds := if_pos hz
      rw [e1] at k'
      refine ⟨by rw [← l.len]; exact hz, fun p hp => (Mo.wp_pure k') _ _ _ (.new h1.1.top hp) (h1.1.bag.upd (h1.1.new0 hp).2.1) ?_⟩
      exact ⟨hz, p, vs, rfl, .inl (.inl upd_same), l.mono (Ste.new (bag := []) h1.1.top hp).sub⟩
    · have e1 : szL ds = none := if_neg hz
      rw [e1] at k'
      exact k'.elim).to
end
def truD : D → Option Bool
  | .non => some false
  | .bl b => some b
  | .int i => some (i != 0)
  | .str s => some (!s.isEmpty)
  | .tup ds => some (!ds.isEmpty)
  | .lst ds => some (!ds.isEmpty)
  | _ => none
theorem isEmpty_len {α β : Type} {a : List α} {b : List β} (h : a.length = b.length) : a.isEmpty = b.isEmpty := by
  cases a <;> cases b <;> simp at h ⊢
section
variable {K : PySem.W.Frag} {mg : Str → Option Value} [DL.TC]
theorem is_bl {H : Hp} (b : Bool) : Is K mg H (.bl b) (.bl b) := by
  cases b <;> rw [Is]
theorem is_int {H : Hp} (b : Int) : Is K mg H (.int b) (.int b) := by rw [Is]
theorem tru_is {Hf H : Hp} (sb : Sub Hf H) {d : D} {v : V} {b : Bool} (i : Is K mg Hf d v) (e : truD d = some b) : TruV K v H b := by
  cases d with
  | non => cases i; cases e; exact rfl
  | bl c => cases i; cases e; exact rfl
  | int c => cases i; cases e; exact rfl
  | str c =>
    obtain ⟨rfl, hz⟩ := i
    cases e
    refine ⟨by rw [str_len]; exact hz, ?_⟩
    rw [str_len]
    cases c with
    | nil => rfl
    | cons x r =>
      show (!(x :: r).isEmpty) = ((((x :: r).length : Nat) : Int) != 0)
      simp
      omega
  | tup ds =>
    obtain ⟨_, a, vs, rfl, t, l⟩ := i
    cases e
    exact .inr (.inl ⟨vs, sb.sqt t, by rw [isEmpty_len l.len]⟩)
  | lst ds =>
    obtain ⟨_, a, vs, rfl, t, l⟩ := i
    cases e
    exact .inl ⟨vs, .inl (.inl (sb _ _ t)), by rw [isEmpty_len l.len]⟩
  | dic _ _ => cases e
  | ins _ _ _ => cases e
  | scr _ => cases e
  | xc _ _ _ _ => cases e
end
section
variable {X : Cx} {fx : Fx} {m : Type → Type} [Mo m] {G : List Sl} {a b c : Expr} {rest : List Expr} {pos : Pos} {x y : m D} {t u : m Bool} [DL.TC]
def andM (t u : m Bool) : m Bool := do
  let b ← t
  if b = true then u else pure false
def orM (t u : m Bool) : m Bool := do
  let b ← t
  if b = true then pure true else u
def notM (t : m Bool) : m Bool := do
  let b ← t
  pure (!b)
def iteM {α : Type} (t : m Bool) (x y : m α) : m α := do
  let b ← t
  if b = true then x else y
def andV (x y : m D) : m D := do
  let d ← x
  let b ← ask (truD d)
  if b = true then y else pure d
def notV (x : m D) : m D := do
  let d ← x
  let b ← ask (truD d)
  pure (.bl (!b))
theorem dt_tru (ha : PE X a (tE X.K X.mg fx G x)) (he : ∀ whole, isTrue a X.env whole = (do let v ← whole; standAt a.pos; holding [v] (truthy v)) := by intro _; rfl) :
    PT X a (tT X.K X.mg fx G (do let d ← x; ask (truD d))) := ptI (pt_truth ha he) fun σ H Q ⟨Hf, s, h⟩ =>
  (h.bind.mono fun v H1 ⟨d, Hf1, s1, sb, r, h1⟩ => by
    obtain ⟨k, e, q⟩ := h1.ask
    exact ⟨k, tru_is h1.1.top r e, q k Hf1 H1 (.refl h1.1.top) rfl⟩).to
theorem dw_and1 (ha : PT X a (tT X.K X.mg fx G t)) : PW X (.BoolOp .And [a] pos) (tT X.K X.mg fx G t) := pw_and1 ha
theorem dw_or1 (ha : PT X a (tT X.K X.mg fx G t)) : PW X (.BoolOp .Or [a] pos) (tT X.K X.mg fx G t) := pw_or1 ha
theorem dw_and (ha : PT X a (tT X.K X.mg fx G t)) (hb : PW X (.BoolOp .And (b :: rest) pos) (tT X.K X.mg fx G u)) : PW X (.BoolOp .And (a :: b :: rest) pos) (tT X.K X.mg fx G (andM t u)) := pwI (pw_and ha hb) fun σ H Q ⟨Hf, s, h⟩ =>
  (h.bind.mono fun v H1 ⟨d, Hf1, s1, sb, r, h1⟩ => by
    subst r
    cases v with
    | true => exact h1.to
    | false => exact h1.pure rfl).to
theorem dw_or (ha : PT X a (tT X.K X.mg fx G t)) (hb : PW X (.BoolOp .Or (b :: rest) pos) (tT X.K X.mg fx G u)) : PW X (.BoolOp .Or (a :: b :: rest) pos) (tT X.K X.mg fx G (orM t u)) := pwI (pw_or ha hb) fun σ H Q ⟨Hf, s, h⟩ =>
  (h.bind.mono fun v H1 ⟨d, Hf1, s1, sb, r, h1⟩ => by
    subst r
    cases v with
    | true => exact h1.pure rfl
    | false => exact h1.to).to
theorem dt_not (ha : PT X a (tT X.K X.mg fx G t)) : PT X (.UnaryOp .Not a pos) (tT X.K X.mg fx G (notM t)) := ptI (pt_not ha) fun σ H Q ⟨Hf, s, h⟩ =>
  (h.bind.mono fun v H1 ⟨d, Hf1, s1, sb, r, h1⟩ => by
    subst r
    exact h1.pure rfl).to
theorem de_not (ha : PE X a (tE X.K X.mg fx G x)) : PE X (.UnaryOp .Not a pos) (tE X.K X.mg fx G (notV x)) := peI (pe_notT ha) fun σ H Q ⟨Hf, s, h⟩ =>
  (h.bind.mono fun v H1 ⟨d, Hf1, s1, sb, r, h1⟩ => by
    have h2 := h1.bind (rl := fun _ a b => b = a) (β := Bool)
    have k := Mo.wp_lift (Mo.wp_bind h1.2)
    cases e : truD d with
    | none => rw [e] at k; exact k.elim
    | some b =>
      rw [e] at k
      exact ⟨b, tru_is h1.1.top r e, (Mo.wp_pure k) _ Hf1 H1 (.refl h1.1.top) h1.1.bag (is_bl _)⟩).to
theorem de_and (ha : PE X a (tE X.K X.mg fx G x)) (hb : PE X (.BoolOp .And (b :: rest) pos) (tE X.K X.mg fx G y)) : PE X (.BoolOp .And (a :: b :: rest) pos) (tE X.K X.mg fx G (andV x y)) := peI (pe_andT ha hb) fun σ H Q ⟨Hf, s, h⟩ =>
  (h.bind.mono fun v H1 ⟨d, Hf1, s1, sb, r, h1⟩ => by
    have k := Mo.wp_lift (Mo.wp_bind h1.2)
    cases e : truD d with
    | none => rw [e] at k; exact k.elim
    | some b =>
      rw [e] at k
      refine ⟨b, tru_is h1.1.top r e, ?_⟩
      cases b with
      | true => exact ⟨Hf1, s1, h1.1, k⟩
      | false => exact (Mo.wp_pure k) _ Hf1 H1 (.refl h1.1.top) h1.1.bag r).to
theorem de_one {op : BoolOp} (ha : PE X a (tE X.K X.mg fx G x)) : PE X (.BoolOp op [a] pos) (tE X.K X.mg fx G x) := pe_one ha
theorem de_ifExp (hc : PT X c (tT X.K X.mg fx G t)) (ha : PE X a (tE X.K X.mg fx G x)) (hb : PE X b (tE X.K X.mg fx G y)) : PE X (.IfExp c a b pos) (tE X.K X.mg fx G (iteM t x y)) := peI (pe_ifExp hc ha hb) fun σ H Q ⟨Hf, s, h⟩ =>
  (h.bind.mono fun v H1 ⟨d, Hf1, s1, sb, r, h1⟩ => by
    subst r
    cases v with
    | true => exact h1.to
    | false => exact h1.to).to
def chainM (f g : D → D → Option D) (x y z : m D) : m D := do
  let u ← x
  let v ← y
  let p ← ask ((f u v).bind bOf)
  if p = true then do
    let w ← z
    ask (g v w)
  else pure (.bl false)
theorem chain_read {op op' : CmpOp} {f g : D → D → Option D} {z : m D} {σ : L2.St} {H : Hp} {Q : VK} (h : tE X.K X.mg fx G (chainM f g x y z) σ H Q) :
    tChain (rD2 X.K X.mg f) (rD2 X.K X.mg g) (tE X.K X.mg fx G x) (tE X.K X.mg fx G y) (tE X.K X.mg fx G z) σ H Q := by
  obtain ⟨Hf, s, h⟩ := h
  refine (h.bind.mono fun v1 H1 ⟨d1, Hf1, s1, sb1, r1, h1⟩ => (h1.bind.mono fun v2 H2 ⟨d2, Hf2, s2, sb2, r2, h2⟩ => ?_).to).to
  have k := Mo.wp_lift (Mo.wp_bind h2.2)
  cases e : f d1 d2 with
  | none => rw [e] at k; exact k.elim
  | some d =>
    cases d with
    | bl p =>
      rw [e] at k
      have k' : Mo.wp (if p = true then (do let w ← z; ask (g d2 w)) else pure (.bl false) : m D) s2 _ _ := k
      refine ⟨Hf2, d1, d2, .bl p, h2.1.topT, r1.mono sb2, r2, e, fun u Hf3 H3 e3 i3 => ⟨p, i3, ?_⟩⟩
      have st3 := h2.1.step e3.wide (e3.bag h2.1.bag)
      cases p with
      | true =>
        have h3 : tX X.K X.mg fx G (fun H d v => Is X.K X.mg H d v) (do let w ← z; ask (g d2 w) : m D) Hf3 s2 σ H3 Q :=
          ⟨st3, Mo.wp_mono k' (fun a s' q b Hf' H' e bg i => q b Hf' H' (e3.wide.trans e) bg i) fun e s' q => q⟩
        show tE X.K X.mg fx G z σ H3 _
        exact (h3.bind.mono fun v4 H4 ⟨d4, Hf4, s4, sb4, r4, h4⟩ => by
          obtain ⟨d, e, q⟩ := h4.ask
          exact ⟨Hf4, d2, d4, d, h4.1.topT, (r2.mono e3.sub).mono sb4, r4, e, q⟩).to
      | false => exact (Mo.wp_pure k') _ Hf3 H3 e3.wide (e3.bag h2.1.bag) (is_bl _)
    | _ => rw [e] at k; exact k.elim
theorem test_read {x : m D} {Hf : Hp} {s : S} {σ : L2.St} {H : Hp} {Q : Bool → Hp → Prop} (h : tX X.K X.mg fx G (fun _ a b => b = a) (do let d ← x; ask (bOf d)) Hf s σ H Q) : tE X.K X.mg fx G x σ H fun v H' => ∃ k, v = .bl k ∧ Q k H' :=
  (h.bind.mono fun v H1 ⟨d, Hf1, s1, sb, r, h1⟩ => by
    obtain ⟨k, e, q⟩ := h1.ask
    cases d with
    | bl b =>
      cases e
      exact ⟨_, r, q _ Hf1 H1 (.refl h1.1.top) rfl⟩
    | _ => cases e).to
theorem dt_chain {op op' : CmpOp} {f g : D → D → Option D} {z : m D} (ho : OpR X (compareOp op) (rD2 X.K X.mg f)) (ho' : OpR X (compareOp op') (rD2 X.K X.mg g)) (ha : PE X a (tE X.K X.mg fx G x)) (hb : PE X b (tE X.K X.mg fx G y)) (hc : PE X c (tE X.K X.mg fx G z))
    (hm : lastMarks [op, op'] [b, c] = false := by with_unfolding_all rfl) : PT X (.Compare a [op, op'] [b, c] pos) (tT X.K X.mg fx G (do let d ← chainM f g x y z; ask (bOf d))) := ptI (pt_chain ho ho' ha hb hc hm) fun σ H Q ⟨Hf, s, h⟩ => chain_read (op := op) (op' := op') (test_read h)
end
end DL
namespace DL
open PySem L2
section
variable {X : Cx} {tg l : Expr} {tl : TE} [DL.TC]
theorem piI {it : Expr} {t t' : TI} (h : PI X tg it t) (w : ∀ σ H Q, t' σ H Q → t σ H Q) : PI X tg it t' := ⟨fun pins s σ H Q I q => h.run pins s σ H Q I (w _ _ _ q)⟩
end
def sqOf : D → Option (List D)
  | .lst ds => some ds
  | .tup ds => some ds
  | _ => none
def intOf : D → Option Int
  | .int i => some i
  | _ => none
def rangeL (lo : Int) (n : Nat) : List D := (List.range n).map fun (k : Nat) => .int (lo + (k : Int))
def enumL (ds : List D) : List D := ds.mapIdx fun i d => .tup [.int (i : Int), d]
section
variable {K : PySem.W.Frag} {mg : Str → Option Value} [DL.TC]
theorem yl_list {Hf : Hp} {ds : List D} {a : Addr} {vs : List V} (hz : ds.length ≤ sizeLine) (h : Hf a = some (.lst vs)) (l : IsL K mg Hf ds vs) : Yl K mg (Itl K a) Hf ds := ⟨hz, fun Hf2 H s1 s2 i => by
  have hq : SqL K H a vs := .inl (.inl (s2 _ _ (s1 _ _ h)))
  refine ⟨fun d hd => ?_, fun hl => ⟨vs, hq, by rw [← l.len]; exact hl⟩⟩
  obtain ⟨v, hv, iv⟩ := l.get hd
  exact ⟨⟨vs, v, hq, hv⟩, fun x H' ⟨e, f⟩ => by
    subst e
    have := f vs hq
    rw [hv] at this
    cases this
    exact ⟨Hf2, .refl s2, iv.mono s1⟩⟩⟩
theorem yl_tup {Hf : Hp} {ds : List D} {a : Addr} {vs : List V} (hz : ds.length ≤ sizeLine) (h : SqT K Hf a vs) (l : IsL K mg Hf ds vs) : Yl K mg (Itt K a) Hf ds := ⟨hz, fun Hf2 H s1 s2 i => by
  have hq : SqT K H a vs := s2.sqt (s1.sqt h)
  refine ⟨fun d hd => ?_, fun hl => ⟨vs, hq, by rw [← l.len]; exact hl⟩⟩
  obtain ⟨v, hv, iv⟩ := l.get hd
  exact ⟨⟨vs, v, hq, hv⟩, fun x H' ⟨e, f⟩ => by
    subst e
    have := f vs hq
    rw [hv] at this
    cases this
    exact ⟨Hf2, .refl s2, iv.mono s1⟩⟩⟩
theorem yl_range (lo : Int) (n : Nat) {Hf : Hp} (hz : n ≤ sizeLine) : Yl K mg (Itr lo n) Hf (rangeL lo n) := ⟨by simpa [rangeL] using hz, fun Hf2 H s1 s2 i => by
  refine ⟨fun d hd => ?_, fun hl => ?_⟩
  rotate_left
  · have z : n ≤ i := by simpa [rangeL] using hl
    exact z
  have hi : i < n := by
    have := (List.getElem?_eq_some_iff.mp hd).1
    simpa [rangeL] using this
  have e : d = .int (lo + (i : Int)) := by
    unfold rangeL at hd
    rw [List.getElem?_map, List.getElem?_range hi] at hd
    cases hd
    rfl
  subst e
  exact ⟨hi, fun x H' ⟨e1, e2⟩ => by
    subst e1 e2
    exact ⟨Hf2, .refl s2, is_int _⟩⟩⟩
theorem yl_str (s : List Nat) {Hf : Hp} (hz : s.length ≤ sizeLine) : Yl K mg (Its ⟨s.toArray⟩) Hf (s.map fun c => .str [c]) := ⟨by simpa using hz, fun Hf2 H s1 s2 i => by
  refine ⟨fun d hd => ?_, fun hl => ?_⟩
  · have hi : i < s.length := by
      have := (List.getElem?_eq_some_iff.mp hd).1
      simpa using this
    rw [List.getElem?_map, List.getElem?_eq_getElem hi] at hd
    cases hd
    refine ⟨?_, fun x H' ⟨e1, c, e2, e3⟩ => ?_⟩
    · show i < s.toArray.size
      simpa using hi
    · subst e1 e3
      refine ⟨Hf2, .refl s2, ?_⟩
      have e2' : s.toArray[i]? = some c := e2
      rw [List.getElem?_toArray, List.getElem?_eq_getElem hi] at e2'
      cases e2'
      exact ⟨rfl, by show 1 ≤ sizeLine; decide⟩
  · show s.toArray.size ≤ i
    simpa using hl⟩
theorem yl_enum {Hf : Hp} {ds : List D} {a : Addr} {vs : List V} (hz : ds.length ≤ sizeLine) (h : Hf a = some (.lst vs)) (l : IsL K mg Hf ds vs) : Yl K mg (Ite K a) Hf (enumL ds) := ⟨by simpa [enumL] using hz, fun Hf2 H s1 s2 i => by
  have hq : SqL K H a vs := .inl (.inl (s2 _ _ (s1 _ _ h)))
  refine ⟨fun d hd => ?_, fun hl => ⟨vs, hq, by rw [← l.len]; simpa [enumL] using hl⟩⟩
  have hi : i < ds.length := by
    have := (List.getElem?_eq_some_iff.mp hd).1
    simpa [enumL] using this
  have ed : d = .tup [.int (i : Int), ds[i]] := by
    unfold enumL at hd
    rw [List.getElem?_mapIdx, List.getElem?_eq_getElem hi] at hd
    cases hd
    rfl
  subst ed
  obtain ⟨v, hv, iv⟩ := l.get (List.getElem?_eq_getElem hi)
  refine ⟨⟨vs, v, hq, hv⟩, fun x H' ⟨T, y, e1, hT, e2, f⟩ => ?_⟩
  subst e1 e2
  have := f vs hq
  rw [hv] at this
  cases this
  refine ⟨upd Hf2 T (.tup [.int (i : Nat), v]), .new s2 hT, ?_⟩
  exact ⟨by show 2 ≤ sizeLine; decide, T, _, rfl, .inl (.inl upd_same), .cons (is_int _) (.cons ((iv.mono s1).mono (Ste.new (bag := []) s2 hT).sub) .nil)⟩⟩
end
section
variable {X : Cx} {fx : Fx} {m : Type → Type} [Mo m] {G : List Sl} {tg l a b : Expr} {x y : m D} {ys : m (List D)} {pos : Pos} {kk : Nat} [DL.TC]
def strOf : D → Option (List Nat)
  | .str s => some s
  | _ => none
def chrs (s : List Nat) : List D := s.map fun c => .str [c]
def rng1 : List D → Option (List D)
  | [.int j] => if -(2 ^ 62) ≤ j ∧ j ≤ 1000000 then some (rangeL 0 j.toNat) else none
  | _ => none
theorem di_range1 {p : Pos} (hg : Gl X "range") (hm : X.mg "range" = none) (ha : PA X [a] (tA X.K X.mg fx G ys)) (hs : starEach [a] X.env = [(false, eval a X.env)] := by rfl) :
    PI X tg (.Call (.Name "range" p) [a] [] pos) (tI X.K X.mg fx G (do let ds ← ys; ask (rng1 ds))) := piI (pi_range1 hg hm ha hs) fun σ H Q ⟨Hf, s, h⟩ =>
  (h.bind.mono fun v H1 ⟨d, Hf1, s1, sb, r, h1⟩ => by
    obtain ⟨ds, e, q⟩ := h1.ask
    unfold rng1 at e
    split at e
    · rename_i j
      split at e
      · rename_i hj
        cases e
        obtain ⟨v1, r1, rfl, rfl, rfl⟩ := r
        exact ⟨j, rfl, hj.1, Int.lt_of_le_of_lt hj.2 (by decide), q _ Hf1 H1 (.refl h1.1.top) (yl_range _ _ (by rw [sizeLine_eq]; omega))⟩
      · cases e
    · cases e).to
def enumOf : List D → Option (List D)
  | [.lst ds] => some (enumL ds)
  | _ => none
theorem di_enumL {p tpos : Pos} {elts : List Expr} {k : Nat} (hg : Gl X "enumerate") (hm : X.mg "enumerate" = none) (ha : PA X [a] (tA X.K X.mg fx G ys)) (hs : starEach [a] X.env = [(false, eval a X.env)] := by rfl) :
    PI X (.Tuple elts k tpos) (.Call (.Name "enumerate" p) [a] [] pos) (tI X.K X.mg fx G (do let ds ← ys; ask (enumOf ds))) := piI (pi_enum hg hm ha hs) fun σ H Q ⟨Hf, s, h⟩ =>
  (h.bind.mono fun v H1 ⟨d, Hf1, s1, sb, r, h1⟩ => by
    obtain ⟨ds, e, q⟩ := h1.ask
    unfold enumOf at e
    split at e
    · rename_i es
      cases e
      obtain ⟨v1, r1, rfl, ⟨hz, a, vs, rfl, t, il⟩, rfl⟩ := r
      exact ⟨a, vs, rfl, .inl (.inl (h1.1.top _ _ t)), q _ Hf1 H1 (.refl h1.1.top) (yl_enum hz t il)⟩
    · cases e).to
def un2 : D → Option (D × D)
  | .tup [a, b] => some (a, b)
  | _ => none
def un3 : D → Option (D × D × D)
  | .tup [a, b, c] => some (a, b, c)
  | _ => none
theorem pgd_tup2 (C : Cok X fx kk) (i j : Nat) {n1 n2 : Str} {p1 p2 : Pos} {k : Nat} (hi : X.N[i]? = some n1 := by rfl) (hx : Loc X.env.scope n1 := by first | exact Or.inl rfl | exact Or.inr rfl) (hf : X.fn n1 = true ∨ X.env.scope.names.lookup n1 = some .local := by first | exact .inl rfl | exact .inr rfl)
    (hi2 : X.N[j]? = some n2 := by rfl) (hx2 : Loc X.env.scope n2 := by first | exact Or.inl rfl | exact Or.inr rfl) (hf2 : X.fn n2 = true ∨ X.env.scope.names.lookup n2 = some .local := by first | exact .inl rfl | exact .inr rfl) :
    PGd X fx (.Tuple [.Name n1 p1, .Name n2 p2] k pos) (gTup X.K 2 (gCons (gName i) (gCons (gName j) gNil))) un2 (fun G d => (G.set i (.im d.1)).set j (.im d.2)) [i, j] :=
  ⟨pg_tup C.calm (pgs_cons (pg_name C.nd hi hx hf) (pgs_cons (pg_name C.nd hi2 hx2 hf2) pgs_nil)), fun {G Hf d v σ H s c Q} st r e q => by
    cases d with
    | tup ds =>
      obtain ⟨hz, a, vs, rfl, t, l⟩ := r
      unfold un2 at e
      split at e
      · rename_i d1 d2 eq
        cases eq
        cases e
        obtain ⟨v1, r1, rfl, i1, v2, r2, rfl, i2, rfl⟩ := l
        refine ⟨a, _, rfl, st.top.sqt t, rfl, v1, _, rfl, v2, _, rfl, rfl, q _ (fun k hk => ?_) (by simp) ((st.set i1).set i2)⟩
        rw [List.getElem?_set_ne (fun z => hk (by simp [z])), List.getElem?_set_ne (fun z => hk (by simp [z]))]
      · cases e
    | _ => cases e⟩
end
end DL
namespace DL
open PySem L2
section
variable {m : Type → Type} [Mo m] {γ : Type}
def lcF (u : D → Option γ) (xt : γ → m Bool) (xe : γ → m D) : List D → m (List D)
  | [] => pure []
  | d :: ds => do
    let c ← ask (u d)
    let b ← Mo.noex (xt c)
    if b = true then do
      let y ← Mo.noex (xe c)
      let r ← lcF u xt xe ds
      pure (y :: r)
    else lcF u xt xe ds
end
abbrev Fx.nox (fx : Fx) : Fx := { fx with W := fun _ _ _ _ => False, gx := none }
def wipeG (G : List Sl) : List Nat → List Sl
  | [] => G
  | v :: vs => (wipeG G vs).set v .un
theorem wipe_get {σ : L2.St} {i : Nat} : ∀ {vs : List Nat}, i ∉ vs → (wipe σ vs)[i]? = σ[i]?
  | [], _ => rfl
  | v :: vs, h => by
    unfold wipe
    rw [List.getElem?_set_ne (fun z => h (by simp [z])), wipe_get (fun z => h (List.mem_cons_of_mem _ z))]
theorem wipe_in {σ : L2.St} {i : Nat} : ∀ {vs : List Nat}, i ∈ vs → i < σ.length → (wipe σ vs)[i]? = some none
  | [], h, _ => by cases h
  | v :: vs, h, hl => by
    unfold wipe
    by_cases c : v = i
    · subst c
      rw [List.getElem?_set_self (by rw [wipe_length]; exact hl)]
    · rw [List.getElem?_set_ne c]
      rcases List.mem_cons.mp h with e | h'
      · exact absurd e.symm c
      · exact wipe_in h' hl
theorem wipeG_len {G : List Sl} : ∀ (vs : List Nat), (wipeG G vs).length = G.length
  | [] => rfl
  | v :: vs => by unfold wipeG; rw [List.length_set, wipeG_len vs]
theorem wipeG_get {G : List Sl} {i : Nat} : ∀ {vs : List Nat}, i ∉ vs → (wipeG G vs)[i]? = G[i]?
  | [], _ => rfl
  | v :: vs, h => by
    unfold wipeG
    rw [List.getElem?_set_ne (fun z => h (by simp [z])), wipeG_get (fun z => h (List.mem_cons_of_mem _ z))]
theorem wipeG_in {G : List Sl} {i : Nat} : ∀ {vs : List Nat} {x : Sl}, i ∈ vs → (wipeG G vs)[i]? = some x → x = .un
  | [], _, h, _ => by cases h
  | v :: vs, x, h, e => by
    unfold wipeG at e
    by_cases c : v = i
    · subst c
      have hl : v < (wipeG G vs).length := by
        have := (List.getElem?_eq_some_iff.mp e).1
        simpa using this
      rw [List.getElem?_set_self hl] at e
      cases e
      rfl
    · rw [List.getElem?_set_ne c] at e
      rcases List.mem_cons.mp h with e' | h'
      · exact absurd e'.symm c
      · exact wipeG_in h' e
theorem wipe_eq {σ σ2 : L2.St} {vs : List Nat} (hl : σ2.length = (wipe σ vs).length) (h : ∀ j, j ∉ vs → σ2[j]? = (wipe σ vs)[j]?) : wipe σ2 vs = wipe σ vs := by
  apply List.ext_getElem?
  intro i
  by_cases c : i ∈ vs
  · by_cases hi : i < σ.length
    · rw [wipe_in c hi, wipe_in c (by rw [hl, wipe_length]; exact hi)]
    · rw [List.getElem?_eq_none (by rw [wipe_length, hl, wipe_length]; omega), List.getElem?_eq_none (by rw [wipe_length]; omega)]
  · rw [wipe_get c, h i c]
section
variable {K : PySem.W.Frag} {mg : Str → Option Value} {fx : Fx} {Hf H : Hp} {σ : L2.St} {G : List Sl} {s : S} [DL.TC]
theorem StS.wiped (st : StS K mg fx Hf H σ G s) (vs : List Nat) : StS K mg fx.nox Hf H (wipe σ vs) (wipeG G vs) s := by
  have get : ∀ {i : Nat} {x : Sl}, (wipeG G vs)[i]? = some x → x ≠ .un → G[i]? = some x ∧ (wipe σ vs)[i]? = σ[i]? := fun {i x} e n => by
    by_cases c : i ∈ vs
    · exact absurd (wipeG_in c e) n
    · rw [wipeG_get c] at e
      exact ⟨e, wipe_get c⟩
  refine ⟨st.ste, st.bag, st.bagg, st.tb, by rw [wipe_length, wipeG_len]; exact st.len, fun i x e => ?_, fun i j x y p hij ex ey ox oy e1 e2 => ?_⟩
  · cases x with
    | un => trivial
    | im d =>
      obtain ⟨e', q⟩ := get e (by simp)
      rw [q]; exact st.sl i _ e'
    | bg =>
      obtain ⟨e', q⟩ := get e (by simp)
      rw [q]; exact st.sl i _ e'
    | ow ds =>
      obtain ⟨e', q⟩ := get e (by simp)
      rw [q]; exact st.sl i _ e'
    | od ks ds =>
      obtain ⟨e', q⟩ := get e (by simp)
      rw [q]; exact st.sl i _ e'
    | ob ns ds =>
      obtain ⟨e', q⟩ := get e (by simp)
      rw [q]; exact st.sl i _ e'
  · have nx : x ≠ .un := fun z => by subst z; cases ox
    have ny : y ≠ .un := fun z => by subst z; cases oy
    obtain ⟨ex', q1⟩ := get ex nx
    obtain ⟨ey', q2⟩ := get ey ny
    rw [q1] at e1
    rw [q2] at e2
    exact st.dis i j x y p hij ex' ey' ox oy e1 e2
theorem StS.nox (st : StS K mg fx Hf H σ G s) : StS K mg fx.nox Hf H σ G s := ⟨st.ste, st.bag, st.bagg, st.tb, st.len, fun i x e => by
  have so := st.sl i x e
  cases x with
  | un => trivial
  | im d => exact so
  | ow ds => exact so
  | od ks ds => exact so
  | ob ns ds => exact so
  | bg => exact so, st.dis⟩
end
section
variable {X : Cx} {fx : Fx} {m : Type → Type} [Mo m] {G : List Sl} {γ : Type} {kk : Nat} [DL.TC]
theorem lc_read {xi : m (List D)} {u : D → Option γ} {xt : γ → m Bool} {xe : γ → m D} {g : TG} {st : List Sl → γ → List Sl} {is vs : List Nat} {tg : Expr} {K : PySem.W.Frag} {mg : Str → Option Value}
    (hg : ∀ {G : List Sl} {Hf : Hp} {d : D} {v : V} {σ : L2.St} {H : Hp} {s : S} {c : γ} {Q : L2.St → Hp → Prop}, StS K mg fx.nox Hf H σ G s → Is K mg Hf d v → u d = some c → (∀ σ', (∀ j, j ∉ is → σ'[j]? = σ[j]?) → σ'.length = σ.length → StS K mg fx.nox Hf H σ' (st G c) s → Q σ' H) → g v σ H Q)
    (hsub : ∀ i ∈ is, i ∈ vs) {σ : L2.St} {H : Hp} {Q : VK} (h : tF K mg fx G (do let ds ← xi; lcF u xt xe ds) σ H Q) :
    tLc (tI K mg fx G xi) g (fun σ H Q => ∃ c, tT K mg fx.nox (st (wipeG G vs) c) (xt c) σ H Q) (fun σ H Q => ∃ c, tE K mg fx.nox (st (wipeG G vs) c) (xe c) σ H Q) vs σ H Q := by
  obtain ⟨Hf0, s0, st0, w0⟩ := h
  refine ⟨Hf0, s0, st0, Mo.wp_mono (Mo.wp_bind w0) (fun ds s1 w1 J Hf1 H1 e1 bg1 yl Da hD => ?_) fun e s' k => k⟩
  have st1 := st0.step e1 bg1
  obtain ⟨nH0, nb, nf⟩ := st1.new0 hD
  have hn0 : H Da = none := by
    cases q : H Da with
    | none => rfl
    | some o => exact absurd hD (e1.dom Da (by rw [q]; simp))
  have no := st1.owNe hD
  refine ⟨fun i m H' => m = ds.length - i ∧ i ≤ ds.length ∧ ∃ Hf s acc accV, Sub Hf1 Hf ∧ StS K mg fx Hf H' σ G s ∧ Ste fx.bag Hf0 H Hf H' ∧ H' Da = some (.lst accV) ∧ IsL K mg Hf acc accV ∧ Hf Da = none ∧ acc.length ≤ i ∧
    Mo.wp (lcF u xt xe (ds.drop i)) s (fun r s' => FrQ K mg fx Hf0 H Q (acc ++ r) s') (EX K mg fx G σ), ⟨ds.length, by simp, Nat.zero_le _, Hf1, s1, [], [], .refl _, st1.other nf nH0 nb (.none hD) no, e1.upd hn0 nf (.none hD), upd_same, .nil, nf, Nat.zero_le _, w1⟩, ?_⟩
  rintro i m H2 ⟨rfl, hi, Hf2, s2, acc, accV, sb2, st2, e2, hD2, l2, nf2, la, w2⟩
  obtain ⟨y1, y2⟩ := yl.2 Hf2 H2 sb2 st2.top i
  by_cases hlt : i < ds.length
  · obtain ⟨go, yd⟩ := y1 ds[i] (List.getElem?_eq_getElem hlt)
    rw [List.drop_eq_getElem_cons hlt] at w2
    have w4 := Mo.wp_lift (Mo.wp_bind w2)
    refine .inr ⟨go, fun H' => i + 1 ≤ ds.length ∧ ∃ Hf s acc accV, Sub Hf1 Hf ∧ StS K mg fx Hf H' σ G s ∧ Ste fx.bag Hf0 H Hf H' ∧ H' Da = some (.lst accV) ∧ IsL K mg Hf acc accV ∧ Hf Da = none ∧ acc.length ≤ i + 1 ∧
      Mo.wp (lcF u xt xe (ds.drop (i + 1))) s (fun r s' => FrQ K mg fx Hf0 H Q (acc ++ r) s') (EX K mg fx G σ), fun H' q => ⟨ds.length - (i + 1), by omega, rfl, q⟩, fun x H3 y => ?_⟩
    obtain ⟨Hf3, e3, is3⟩ := yd x H3 y
    cases q : u ds[i] with
    | none => rw [q] at w4; exact w4.elim
    | some c =>
      rw [q] at w4
      have st3 := st2.step e3.wide (e3.bag st2.bag)
      refine hg (st3.wiped vs) is3 q fun σ2 hs hl st4 => ⟨wipe_eq hl fun j hj => hs j fun z => hj (hsub j z), c, Hf3, s2, st4, ?_⟩
      refine Mo.wp_mono (Mo.wp_noex (Mo.wp_bind w4)) (fun b s5 w5 b' Hf5 H5 e5 bg5 eb => ?_) fun _ _ f => f.elim
      subst eb
      have st5 := st3.step (fx := fx) (Hf' := Hf5) (H' := H5) e5 bg5
      have hD5 : H5 Da = some (.lst accV) := e5.keep _ _ (e3.keep _ _ hD2 (by simp) nofun) nb nofun
      have nf5 : Hf5 Da = none := e5.stayNone (e3.stayNone nf2 (by rw [hD2]; simp)) (by rw [e3.keep _ _ hD2 (by simp) nofun]; simp)
      have e25 : Ste fx.bag Hf2 H2 Hf5 H5 := (e3.wide).trans e5
      cases b' with
      | true =>
        refine ⟨c, Hf5, s5, st4.step e5 bg5, ?_⟩
        have w6 : Mo.wp (Mo.noex (xe c) >>= fun y => lcF u xt xe (ds.drop (i + 1)) >>= fun r => pure (y :: r)) s5 _ _ := w5
        refine Mo.wp_mono (Mo.wp_noex (Mo.wp_bind w6)) (fun y s6 w7 yv Hf6 H6 e6 bg6 is6 => ?_) fun _ _ f => f.elim
        have hD6 : H6 Da = some (.lst accV) := e6.keep _ _ hD5 nb nofun
        have nf6 : Hf6 Da = none := e6.stayNone nf5 (by rw [hD5]; simp)
        have e26 := e25.trans e6
        have st6 := st5.step (fx := fx) (Hf' := Hf6) (H' := H6) e6 bg6
        refine ⟨accV, hD6, ?_, hlt, Hf6, s6, acc ++ [y], accV ++ [yv], sb2.trans e26.sub, st6.other nf6 nH0 nb (.lst hD6) no, (e2.trans e26).upd hn0 nf6 (.lst hD6), upd_same, (l2.mono e26.sub).app (.cons is6 .nil), nf6, ?_, ?_⟩
        · rw [← l2.len]
          exact Nat.lt_of_lt_of_le (Nat.lt_of_le_of_lt la hlt) yl.1
        · rw [List.length_append, List.length_singleton]
          omega
        · refine Mo.wp_mono (Mo.wp_bind w7) (fun r s8 w8 => ?_) fun e s' k => k
          have w9 := Mo.wp_pure w8
          rw [List.append_assoc, List.singleton_append]
          exact w9
      | false => exact ⟨hlt, Hf5, s5, acc, accV, sb2.trans e25.sub, st5, e2.trans e25, hD5, l2.mono e25.sub, nf5, Nat.le_succ_of_le la, w5⟩
  · have e : i = ds.length := by omega
    subst e
    refine .inl ⟨y2 (Nat.le_refl _), ?_⟩
    rw [List.drop_length] at w2
    have w3 := Mo.wp_pure w2
    rw [List.append_nil] at w3
    exact w3 Da accV Hf2 H2 e2 st2.bag hD2 nf2 hn0 l2 (Nat.le_trans la yl.1)
end
end DL
namespace DL
open PySem L2
theorem Cok.blk {X : Cx} {fx : Fx} {kk : Nat} (C : Cok X fx kk) (s : Shared) (H : Hp) (scope : Scope) (cenv : Env) (fp : List Addr) : Cok (X.blk s H scope cenv fp) fx.nox kk :=
  ⟨C.calm, fun _ => PassesOwn.never, ⟨fun _ _ ⟨_, _, _, _, _, _, _, _, _, _, _, _, _, _, _, _, w⟩ => w.1.elim, fun _ _ ⟨_, _, _, _, _, _, _, _, _, _, _, _, _, _, _, _, w⟩ => w.elim⟩, C.rm, C.nd, C.gd⟩
theorem pts_true [DL.TC] {X : Cx} {fx : Fx} {m : Type → Type} [Mo m] {G : List Sl} : PTs X [] (tT X.K X.mg fx G (pure true : m Bool)) := ⟨fun pins s σ H Q I ⟨Hf, s', h⟩ => pts_nil.run pins s σ H Q I (h.pure rfl)⟩
theorem pts_test [DL.TC] {X : Cx} {fx : Fx} {m : Type → Type} [Mo m] {G : List Sl} {c : Expr} {t : m Bool} (h : PT X c (tT X.K X.mg fx G t)) : PTs X [c] (tT X.K X.mg fx G t) := pts_one h
theorem pts_ex {X : Cx} {ι : Type} {ifs : List Expr} {t : ι → TT} (h : ∀ i, PTs X ifs (t i)) : PTs X ifs (fun σ H Q => ∃ i, t i σ H Q) := ⟨fun pins s σ H Q I ⟨i, q⟩ => (h i).run pins s σ H Q I q⟩
theorem pe_ex {X : Cx} {ι : Type} {e : Expr} {t : ι → TE} (h : ∀ i, PE X e (t i)) : PE X e (fun σ H Q => ∃ i, t i σ H Q) := ⟨fun pins s σ H Q I ⟨i, q⟩ => (h i).run pins s σ H Q I q⟩
section
variable {X : Cx} {fx : Fx} {m : Type → Type} [Mo m] {G : List Sl} {γ α β : Type} {kk : Nat} {elt tg iter : Expr} {ifs : List Expr} {scope : Scope} {pos : Pos} {xi : m (List D)} {u : D → Option γ} {xt : γ → m Bool} {xe : γ → m D} {g : TG} {st : List Sl → γ → List Sl} {is : List Nat} [DL.TC]
theorem df_lc (own : List (Str × Nat)) (C : Cok X fx kk) (hi : PI X tg iter (tI X.K X.mg fx G xi)) (ok : BlkOk X.N X.env.scope scope own)
    (hg : ∀ (s : Shared) (H : Hp) (A : Addr) (cl : List (Str × Addr)) (fp : List Addr), PGd (X.blk s H scope (compEnvC scope cl A X.env) fp) fx.nox tg g u st is)
    (ht : ∀ (s : Shared) (H : Hp) (A : Addr) (cl : List (Str × Addr)) (fp : List Addr), Cok (X.blk s H scope (compEnvC scope cl A X.env) fp) fx.nox kk → ∀ c, PTs (X.blk s H scope (compEnvC scope cl A X.env) fp) ifs (tT X.K X.mg fx.nox (st (wipeG G (own.map (·.2))) c) (xt c)))
    (he : ∀ (s : Shared) (H : Hp) (A : Addr) (cl : List (Str × Addr)) (fp : List Addr), Cok (X.blk s H scope (compEnvC scope cl A X.env) fp) fx.nox kk → ∀ c, PE (X.blk s H scope (compEnvC scope cl A X.env) fp) elt (tE X.K X.mg fx.nox (st (wipeG G (own.map (·.2))) c) (xe c)))
    (hsub : ∀ i ∈ is, i ∈ own.map (·.2)) (hs : ∀ x, foldedSetIterable iter X.env x = pure x := by intro _; rfl) :
    PE X (.ListComp elt [⟨tg, iter, ifs, 0⟩] scope pos) (tF X.K X.mg fx G (do let ds ← xi; lcF u xt xe ds)) :=
  peI (pe_lc (own := own) C.calm C.nd hi ok (fun s H A cl fp => (hg s H A cl fp).1) (fun s H A cl fp => pts_ex (ht s H A cl fp (C.blk ..))) (fun s H A cl fp => pe_ex (he s H A cl fp (C.blk ..))) hs) fun σ H Q h =>
    lc_read (tg := tg) (fun {G Hf d v σ H s c Q} => (hg {} (fun _ => none) 0 [] []).2) hsub h
theorem dss_asgOw {e : Expr} {rest : List Stmt} {ex : α → List Sl} {exb : β → List Sl} {x : m (List D)} {k : List D → m (Fl α β)} (C : Cok X fx kk) {n : Str} {pos' : Pos} (i : Nat) (he : PE X e (tF X.K X.mg fx G x)) (hr : ∀ ds, PSs X rest (tS X.K X.mg fx (G.set i (.ow ds)) ex exb (k ds))) (hi : X.N[i]? = some n := by rfl) (hx : Loc X.env.scope n := by first | exact Or.inl rfl | exact Or.inr rfl)
    (hs : swapsWith e (some (.Name n pos')) pos.line X.env = pure false := by rfl) (hf : X.fn n = true ∨ X.env.scope.names.lookup n = some .local := by first | exact .inl rfl | exact .inr rfl) (hg : GxOk fx G := by first | exact True.intro | repeat' (first | exact True.intro | exact Or.inl rfl | exact Or.inr rfl | refine And.intro ?_ ?_)) :
    PSs X (.Assign [.Name n pos'] e pos :: rest) (tS X.K X.mg fx G ex exb (do let ds ← x; k ds)) := pssI (pss_cons (ps_set C.nd hi hx he hs hf) (pss_ex hr)) fun D σ H ⟨Hf, s, h⟩ =>
  ⟨Hf, s, h.1, Mo.wp_mono (Mo.wp_bind h.2) (fun ds s1 w p vs Hf1 H1 e bg hp hf1 hn l hz => by
    have st1 := h.1.step e bg
    have n0 : fx.H0 p = none ∧ p ∉ fx.bag := ⟨(h.1.new0 hn).1, (h.1.new0 hn).2.1⟩
    exact ⟨ds, Hf1, s1, st1.setOw (h.1.owNe hn) hp hf1 n0.1 n0.2 l hz, Mo.wp_mono w (fun f s2 h2 => h2.up e.sub) fun e s' k => k⟩) fun e s' k => exs_ex hg k⟩
theorem ps_setLcF (own : List (Str × Nat)) (C : Cok X fx kk) {n : Str} {pos' : Pos} (i : Nat) (hi : PI X tg iter (tI X.K X.mg fx G xi)) (ok : BlkOk X.N X.env.scope scope own)
    (hg : ∀ (s : Shared) (H : Hp) (A : Addr) (cl : List (Str × Addr)) (fp : List Addr), PGd (X.blk s H scope (compEnvC scope cl A X.env) fp) fx.nox tg g u st is)
    (ht : ∀ (s : Shared) (H : Hp) (A : Addr) (cl : List (Str × Addr)) (fp : List Addr), Cok (X.blk s H scope (compEnvC scope cl A X.env) fp) fx.nox kk → ∀ c, PTs (X.blk s H scope (compEnvC scope cl A X.env) fp) ifs (tT X.K X.mg fx.nox (st (wipeG G (own.map (·.2))) c) (xt c)))
    (he : ∀ (s : Shared) (H : Hp) (A : Addr) (cl : List (Str × Addr)) (fp : List Addr), Cok (X.blk s H scope (compEnvC scope cl A X.env) fp) fx.nox kk → ∀ c, PE (X.blk s H scope (compEnvC scope cl A X.env) fp) elt (tE X.K X.mg fx.nox (st (wipeG G (own.map (·.2))) c) (xe c)))
    (hsub : ∀ i ∈ is, i ∈ own.map (·.2)) {spos : Pos} (hn : X.N[i]? = some n := by rfl) (hyl : X.env.scope.names.lookup n = some .local := by rfl)
    (hsw : swapsWith (.ListComp elt [⟨tg, iter, ifs, 0⟩] scope pos) (some (.Name n pos')) spos.line X.env = pure true := by exact sw_true rfl rfl rfl (by decide +kernel)) (hs : ∀ x, foldedSetIterable iter X.env x = pure x := by intro _; rfl) :
    PS X (.Assign [.Name n pos'] (.ListComp elt [⟨tg, iter, ifs, 0⟩] scope pos) spos) (fun D σ H => tF X.K X.mg fx G (do let ds ← xi; lcF u xt xe ds) σ H fun x H1 => D.nx (σ.set i (some x)) H1) :=
  psI (ps_setLc (own := own) C.calm C.nd hn hyl hsw hi ok (fun s H A cl fp => (hg s H A cl fp).1) (fun s H A cl fp => pts_ex (ht s H A cl fp (C.blk ..))) (fun s H A cl fp => pe_ex (he s H A cl fp (C.blk ..))) hs) fun D σ H h =>
    lc_read (tg := tg) (fun {G Hf d v σ H s c Q} => (hg {} (fun _ => none) 0 [] []).2) hsub h
theorem dss_setF {stm : Stmt} {rest : List Stmt} {ex : α → List Sl} {exb : β → List Sl} {x : m (List D)} {k : D → m (Fl α β)} {i : Nat} (h : PS X stm (fun D σ H => tF X.K X.mg fx G x σ H fun v H1 => D.nx (σ.set i (some v)) H1)) (hr : ∀ d, PSs X rest (tS X.K X.mg fx (G.set i (.im d)) ex exb (k d))) (hg : GxOk fx G := by first | exact True.intro | repeat' (first | exact True.intro | exact Or.inl rfl | exact Or.inr rfl | refine And.intro ?_ ?_)) :
    PSs X (stm :: rest) (tS X.K X.mg fx G ex exb (do let d ← mkL x; k d)) := pssI (pss_cons h (pss_ex hr)) fun D σ H ⟨Hf, s, h⟩ =>
  ⟨Hf, s, h.1, Mo.wp_mono (Mo.wp_bind (Mo.wp_bind h.2)) (fun ds s1 w p vs Hf1 H1 e bg hp hf1 hn l hz => by
    have st1 := h.1.step e bg
    have n0 := h.1.new0 hn
    have w' := Mo.wp_pure w
    have st2 := st1.setOw (i := i) (h.1.owNe hn) hp hf1 n0.1 n0.2.1 l hz
    have sb : Sub Hf1 (L2.upd Hf1 p (.lst vs)) := fun a o q => by
      have ne : a ≠ p := fun z => by rw [z, hf1] at q; cases q
      rw [upd_ne ne]; exact q
    have e2 : Ste fx.bag Hf H (L2.upd Hf1 p (.lst vs)) H1 := by
      refine ⟨e.sub.trans sb, fun a o q => ?_, e.keep, e.dom, fun a o q => ?_, e.tab⟩
      · by_cases c : a = p
        · subst c; rw [upd_same] at q; cases q; exact hp
        · rw [upd_ne c] at q; exact e.top a o q
      · by_cases c : a = p
        · subst c; exact .inr hn
        · rw [upd_ne c] at q; exact e.fresh a o q
    exact ⟨.lst ds, _, s1, (h.1.step e2 bg).set ⟨hz, p, vs, rfl, upd_same, l.mono sb⟩, Mo.wp_mono w' (fun f s2 h2 => h2.up e2.sub) fun e s' k => k⟩) fun e s' k => exs_ex hg k⟩
theorem dss_frz {rest : List Stmt} {ex : α → List Sl} {exb : β → List Sl} {ds : List D} {x : m (Fl α β)} (i : Nat) (hG : G[i]? = some (.ow ds)) (hr : PSs X rest (tS X.K X.mg fx (G.set i (.im (.lst ds))) ex exb x)) : PSs X rest (tS X.K X.mg fx G ex exb x) := pssI hr fun D σ H ⟨Hf, s, h⟩ => by
  obtain ⟨Hf', sb, st⟩ := h.1.freeze hG
  exact ⟨Hf', s, st, Mo.wp_mono h.2 (fun f s2 h2 => h2.up sb) fun e s' k => k⟩
def apd (ds : List D) (d : D) : Option (List D) := if ds.length < sizeLine then some (ds ++ [d]) else none
theorem dss_append {e : Expr} {rest : List Stmt} {ex : α → List Sl} {exb : β → List Sl} {x : m D} {ds : List D} {k : List D → m (Fl α β)} {n : Str} {np apos cpos : Pos} (i : Nat) (he : PE X e (tE X.K X.mg fx G x)) (hr : ∀ ds, PSs X rest (tS X.K X.mg fx (G.set i (.ow ds)) ex exb (k ds)))
    (hG : G[i]? = some (.ow ds) := by rfl) (hN : X.N[i]? = some n := by rfl) (hv : Vis X.env.scope n := by first | exact Or.inl rfl | exact Or.inr (Or.inl rfl) | exact Or.inr (Or.inr rfl)) (hd : (n == ("__debug__" : Str)) = false := by decide) (hcd : (n == ("__classdict__" : Str)) = false := by decide)
    (hst : starEach [e] X.env = [(false, eval e X.env)] := by rfl) (hbase : attributeBase (.Name n np) "append" X.env (eval (.Name n np) X.env) = eval (.Name n np) X.env := by rfl)
    (hfew : ((backTo cpos (starEach [e] X.env)).all (fun x => !x.1) && (backToKw cpos (keywordEach [] X.env)).all (fun x => x.1.isSome) && decide ([e].length + ([] : List Keyword).length + (if ([] : List Keyword).isEmpty then 0 else 1) < 30)) = true := by rfl)
    (hline : (apos.endLine == cpos.line) = true := by rfl) (hplain : (backTo cpos (starEach [] X.env)).any (·.1) = false := by rfl)
    (hs : swapsWith (.Call (.Attribute (.Name n np) "append" apos) [e] [] cpos) none pos.line X.env = pure false := by rfl) (hg : GxOk fx G := by first | exact True.intro | repeat' (first | exact True.intro | exact Or.inl rfl | exact Or.inr rfl | refine And.intro ?_ ?_)) :
    PSs X (.Expr (.Call (.Attribute (.Name n np) "append" apos) [e] [] cpos) pos :: rest) (tS X.K X.mg fx G ex exb (do let d ← x; let ds ← ask (apd ds d); k ds)) :=
  pssI (pss_cons (ps_expr (pe_bm PySem.F.plainAttrs_list PySem.F.slot_list_append PySem.F.type_list_append mt_append (pe_var hN hv hd hcd) (pa_cons he pa_nil hst) hbase hfew hline hst hplain) hs) (pss_ex hr)) fun D σ H ⟨Hf, s, h⟩ => by
    obtain ⟨p, vs, ep, hp, hf, h0, nb, l, hz⟩ := h.1.sl i _ hG
    refine ⟨.ref p, ep, .inl ⟨rfl, _, .inl (.inl hp)⟩, ?_⟩
    refine ((h.bind hg).mono fun v H1 ⟨d, Hf1, s1, sb, r, h1⟩ => ?_).to
    obtain ⟨p1, vs1, ep1, hp1, hf1, _, _, l1, hz1⟩ := h1.1.sl i _ hG
    have eq : p1 = p := by rw [ep] at ep1; cases ep1; rfl
    subst eq
    have k' := Mo.wp_lift (Mo.wp_bind h1.2)
    by_cases c : ds.length < sizeLine
    · have e1 : apd ds d = some (ds ++ [d]) := if_pos c
      rw [e1] at k'
      refine ⟨p1, vs1, v, rfl, rfl, hp1, by rw [← l1.len]; exact c, ds ++ [d], Hf1, s1, h1.1.updOw hG ep (l1.app (.cons r .nil)) (by rw [List.length_append, List.length_singleton]; exact c), k'⟩
    · have e1 : apd ds d = none := if_neg c
      rw [e1] at k'
      exact k'.elim
end
end DL
namespace DL
open PySem L2
theorem IsL.atI {K : PySem.W.Frag} {mg : Str → Option Value} {H : Hp} {ds : List D} {vs : List V} {i : Int} {d : D} (l : IsL K mg H ds vs) (e : L2.atI ds i = some d) : ∃ v, L2.atI vs i = some v ∧ Is K mg H d v := by
  unfold L2.atI at e ⊢
  rw [← l.len]
  cases q : ixN ds.length i with
  | none => rw [q] at e; cases e
  | some j =>
    rw [q] at e
    exact l.get e
def ixD : D → D → Option D
  | .lst ds, .int i => L2.atI ds i
  | .tup ds, .int i => L2.atI ds i
  | .str s, .int i => (L2.atI s i).map fun c => .str [c]
  | .scr is, .int i => (L2.atI is i).map .int
  | _, _ => none
def cutL {α : Type} (xs : List α) (lo hi : Option Int) : List α := (xs.drop (HT.sIx xs.length 0 lo)).take (HT.sIx xs.length xs.length hi - HT.sIx xs.length 0 lo)
theorem cutL_len {α : Type} (xs : List α) (lo hi : Option Int) : (cutL xs lo hi).length ≤ xs.length := by
  unfold cutL
  rw [List.length_take, List.length_drop]
  omega
def sliceD : D → Option Int → Option Int → Option D
  | .lst ds, lo, hi => some (.lst (cutL ds lo hi))
  | .tup ds, lo, hi => some (.tup (cutL ds lo hi))
  | .str s, lo, hi => some (.str (cutL s lo hi))
  | .scr is, lo, hi => some (.lst ((cutL is lo hi).map .int))
  | _, _, _ => none
section
variable {X : Cx} [DL.TC]
theorem oix : IxR X (rD2 X.K X.mg ixD) := by
  intro value slice pins s σ H x y v u Q I rx ry h hs
  obtain ⟨Hf, dx, dy, d, sb, ix, iy, e, q⟩ := h
  unfold ixD at e
  split at e
  · obtain ⟨z1, p1, v1, rfl, h1, l1⟩ := ix
    cases iy
    obtain ⟨w, hw, iw⟩ := l1.atI e
    exact ix_list value slice pins s σ H _ _ v u Q I rx ry ⟨_, _, _, _, rfl, rfl, .inl (.inl (sb _ _ h1)), hw, q _ Hf H (.refl sb) iw⟩ hs
  · obtain ⟨z1, p1, v1, rfl, h1, l1⟩ := ix
    cases iy
    obtain ⟨w, hw, iw⟩ := l1.atI e
    exact ix_tup value slice pins s σ H _ _ v u Q I rx ry ⟨_, _, _, _, rfl, rfl, sb.sqt h1, hw, q _ Hf H (.refl sb) iw⟩ hs
  · rename_i z i
    obtain ⟨rfl, hz⟩ := ix
    cases iy
    cases e1 : L2.atI z i with
    | none => rw [e1] at e; cases e
    | some c =>
      rw [e1] at e
      cases e
      exact ix_str value slice pins s σ H _ _ v u Q I rx ry ⟨_, _, c, rfl, rfl, by rw [str_len]; exact hz, by rw [str_tl]; exact e1, q _ Hf H (.refl sb) ⟨rfl, by show 1 ≤ sizeLine; decide⟩⟩ hs
  · rename_i z i
    obtain ⟨z1, p1, rfl, h1⟩ := ix
    cases iy
    cases e1 : L2.atI z i with
    | none => rw [e1] at e; cases e
    | some c =>
      rw [e1] at e
      cases e
      refine ix_list value slice pins s σ H _ _ v u Q I rx ry ⟨_, _, _, _, rfl, rfl, sb.sql h1.sq, ?_, q _ Hf H (.refl sb) (is_int _)⟩ hs
      unfold L2.atI at e1 ⊢
      rw [List.length_map]
      cases q2 : ixN z.length i with
      | none => rw [q2] at e1; cases e1
      | some j =>
        rw [q2] at e1
        have e1' : z[j]? = some c := e1
        show (z.map V.int)[j]? = _
        rw [List.getElem?_map, e1']
        rfl
  · cases e
theorem isL_ints {K : PySem.W.Frag} {mg : Str → Option Value} {H : Hp} : ∀ z : List Int, IsL K mg H (z.map .int) (z.map V.int)
  | [] => rfl
  | c :: z => ⟨_, _, rfl, is_int _, isL_ints z⟩
theorem osl : SlR X (fun x lo hi H Q => ∃ Hf dx d, Sub Hf H ∧ Is X.K X.mg Hf dx x ∧ sliceD dx lo hi = some d ∧ ∀ u Hf' H', Ste [] Hf H Hf' H' → Is X.K X.mg Hf' d u → Q u H') := by
  intro pins s σ H x v vl vu lo hi sl Q I rx hs pl pu h
  obtain ⟨Hf, dx, d, sb, ix, e, q⟩ := h
  unfold sliceD at e
  split at e
  · cases e
    obtain ⟨z1, p1, v1, rfl, h1, l1⟩ := ix
    refine sl_list pins s σ H _ v vl vu lo hi sl Q I rx hs pl pu ⟨_, _, rfl, .inl (.inl (sb _ _ h1)), fun p hp => q _ _ _ (.new sb hp) ?_⟩
    refine ⟨Nat.le_trans (cutL_len _ _ _) z1, p, _, rfl, upd_same, ?_⟩
    have l2 := l1.mono (Ste.new (bag := []) (o := .lst (cutV v1 lo hi)) sb hp).sub
    unfold cutL cutV
    rw [l1.len]
    exact (l2.drop _).take _
  · cases e
    obtain ⟨z1, p1, v1, rfl, h1, l1⟩ := ix
    refine sl_tupA pins s σ H _ v vl vu lo hi sl Q I rx hs pl pu ⟨_, _, rfl, sb.sqt h1, fun z => ?_, fun z p hp => q _ _ _ (.new sb hp) ?_⟩
    · refine q _ _ _ (.refl sb) ⟨Nat.le_trans (cutL_len _ _ _) z1, p1, v1, rfl, h1, ?_⟩
      unfold cutL
      rw [l1.len, z.1, z.2, List.drop_zero, Nat.sub_zero, ← l1.len, List.take_length]
      exact l1
    · refine ⟨Nat.le_trans (cutL_len _ _ _) z1, p, _, rfl, .inl (.inl upd_same), ?_⟩
      have l2 := l1.mono (Ste.new (bag := []) (o := .tup (cutV v1 lo hi)) sb hp).sub
      unfold cutL cutV
      rw [l1.len]
      exact (l2.drop _).take _
  · cases e
    obtain ⟨rfl, hz⟩ := ix
    refine sl_str pins s σ H _ v vl vu lo hi sl Q I rx hs pl pu ⟨_, rfl, by rw [str_len]; exact hz, q _ Hf H (.refl sb) ?_⟩
    refine ⟨?_, Nat.le_trans (cutL_len _ _ _) hz⟩
    unfold cutS cutL
    rw [str_tl, str_len]
  · cases e
    obtain ⟨z1, p1, rfl, h1⟩ := ix
    refine sl_list pins s σ H _ v vl vu lo hi sl Q I rx hs pl pu ⟨_, _, rfl, sb.sql h1.sq, fun p hp => q _ _ _ (.new sb hp) ?_⟩
    refine ⟨by rw [List.length_map]; exact Nat.le_trans (cutL_len _ _ _) z1, p, _, rfl, upd_same, ?_⟩
    have e2 : ∀ (z : List Int) (lo hi : Option Int), cutV (z.map V.int) lo hi = (cutL z lo hi).map V.int := fun z lo hi => by
      unfold cutL cutV
      rw [List.length_map, List.map_take, List.map_drop]
    rw [e2]
    exact isL_ints _
  · cases e
end
section
variable {X : Cx} {fx : Fx} {m : Type → Type} [Mo m] {G : List Sl} {a b e : Expr} {lo hi : Option Expr} {pos p2 : Pos} {x y : m D} {tl th : m (Option Int)} [DL.TC]
theorem de_ix (ha : PE X a (tE X.K X.mg fx G x)) (hb : PE X b (tE X.K X.mg fx G y)) (hs : PlainIx b := by exact fun _ _ => rfl) : PE X (.Subscript a b pos) (tE X.K X.mg fx G (do let u ← x; let v ← y; ask (ixD u v))) := peI (pe_ix oix ha hb hs) fun σ H Q ⟨Hf, s, h⟩ =>
  (h.bind.mono fun v1 H1 ⟨d1, Hf1, s1, sb1, r1, h1⟩ => (h1.bind.mono fun v2 H2 ⟨d2, Hf2, s2, sb2, r2, h2⟩ => by
    obtain ⟨d, e, q⟩ := h2.ask
    exact ⟨Hf2, d1, d2, d, h2.1.topT, r1.mono sb2, r2, e, q⟩).to).to
theorem poI {o : Option Expr} {t t' : TO} (h : PO X o t) (w : ∀ σ H Q, t' σ H Q → t σ H Q) : PO X o t' := ⟨fun pins s σ H Q I q => h.run pins s σ H Q I (w _ _ _ q)⟩
abbrev tOp' (K : PySem.W.Frag) (mg : Str → Option Value) (fx : Fx) (G : List Sl) (x : m (Option Int)) : TO := tG K mg fx G (fun _ a b => b = a) x
theorem do_none : PO X none (tOp' X.K X.mg fx G (pure none : m (Option Int))) := poI po_none fun σ H Q ⟨Hf, s, h⟩ => h.pure rfl
theorem do_some (he : PE X e (tE X.K X.mg fx G x)) : PO X (some e) (tOp' X.K X.mg fx G (do let d ← x; let i ← ask (intOf d); pure (some i))) := poI (po_some he) fun σ H Q ⟨Hf, s, h⟩ =>
  (h.bind.mono fun v1 H1 ⟨d1, Hf1, s1, sb1, r1, h1⟩ => by
    have k := Mo.wp_lift (Mo.wp_bind h1.2)
    cases d1 with
    | int i => exact ⟨i, r1, (Mo.wp_pure k) _ Hf1 H1 (.refl h1.1.top) h1.1.bag rfl⟩
    | _ => exact k.elim).to
theorem de_sl (he : PE X e (tE X.K X.mg fx G x)) (hl : PO X lo (tOp' X.K X.mg fx G tl)) (hu : PO X hi (tOp' X.K X.mg fx G th)) : PE X (.Subscript e (.Slice lo hi none p2) pos) (tE X.K X.mg fx G (do let d ← x; let l ← tl; let u ← th; ask (sliceD d l u))) :=
  peI (pe_slice osl he hl hu) fun σ H Q ⟨Hf, s, h⟩ =>
  (h.bind.mono fun v1 H1 ⟨d1, Hf1, s1, sb1, r1, h1⟩ => (h1.bind.mono fun v2 H2 ⟨d2, Hf2, s2, sb2, r2, h2⟩ => (h2.bind.mono fun v3 H3 ⟨d3, Hf3, s3, sb3, r3, h3⟩ => by
    subst r2 r3
    obtain ⟨d, e, q⟩ := h3.ask
    exact ⟨Hf3, d1, d, h3.1.top, (r1.mono sb2).mono sb3, e, q⟩).to).to).to
end
def lenD : List D → Option D
  | [.lst ds] => some (.int ds.length)
  | [.tup ds] => some (.int ds.length)
  | [.str s] => some (.int s.length)
  | [.scr s] => some (.int s.length)
  | _ => none
def listD : List D → Option (List D)
  | [.lst ds] => some ds
  | [.tup ds] => some ds
  | [.str s] => some (chrs s)
  | _ => none
def tupleD : List D → Option D
  | [.lst ds] => some (.tup ds)
  | [.tup ds] => some (.tup ds)
  | _ => none
def intD : List D → Option D
  | [.int i] => some (.int i)
  | [.bl b] => some (.int (if b then 1 else 0))
  | _ => none
def absD : List D → Option D
  | [.int i] => some (.int (if i < 0 then -i else i))
  | _ => none
def maxD : List D → Option D
  | [.int i, .int j] => some (.int (if j > i then j else i))
  | _ => none
def minD : List D → Option D
  | [.int i, .int j] => some (.int (if j < i then j else i))
  | _ => none
section
variable {X : Cx} [DL.TC]
theorem oc_len : CallR X (.builtin "len") (rDs X.K X.mg lenD) := by
  intro pins s σ H xs us Q I r h
  obtain ⟨Hf, ds, d, sb, l, e, q⟩ := h
  unfold lenD at e
  split at e
  · cases e
    obtain ⟨v, r1, rfl, ⟨z1, p1, v1, rfl, h1, l1⟩, rfl⟩ := l
    exact call_len_seq pins s σ H _ us Q I r ⟨_, _, rfl, .inl (.inl (.inl (sb _ _ h1))), by rw [← l1.len]; exact q _ Hf H (.refl sb) (is_int _)⟩
  · cases e
    obtain ⟨v, r1, rfl, ⟨z1, p1, v1, rfl, h1, l1⟩, rfl⟩ := l
    exact call_len_seq pins s σ H _ us Q I r ⟨_, _, rfl, .inr (sb.sqt h1), by rw [← l1.len]; exact q _ Hf H (.refl sb) (is_int _)⟩
  · cases e
    obtain ⟨v, r1, rfl, ⟨rfl, hz⟩, rfl⟩ := l
    exact call_len_str pins s σ H _ us Q I r ⟨_, rfl, by rw [str_len]; exact hz, by rw [str_len]; exact q _ Hf H (.refl sb) (is_int _)⟩
  · cases e
    obtain ⟨v, r1, rfl, ⟨z1, p1, rfl, h1⟩, rfl⟩ := l
    exact call_len_seq pins s σ H _ us Q I r ⟨_, _, rfl, .inl (sb.sql h1.sq), by rw [List.length_map]; exact q _ Hf H (.refl sb) (is_int _)⟩
  · cases e
theorem oc_tuple : CallR X (.type "tuple") (rDs X.K X.mg tupleD) := by
  intro pins s σ H xs us Q I r h
  obtain ⟨Hf, ds, d, sb, l, e, q⟩ := h
  unfold tupleD at e
  split at e
  · cases e
    obtain ⟨v, r1, rfl, ⟨z1, p1, v1, rfl, h1, l1⟩, rfl⟩ := l
    refine call_tuple_of pins s σ H _ us Q I r ⟨_, _, rfl, .inl ⟨.inl (.inl (sb _ _ h1)), fun p hp => q _ _ _ (.new sb hp) ?_⟩⟩
    exact ⟨z1, p, _, rfl, .inl (.inl upd_same), l1.mono (Ste.new (bag := []) sb hp).sub⟩
  · cases e
    obtain ⟨v, r1, rfl, ⟨z1, p1, v1, rfl, h1, l1⟩, rfl⟩ := l
    exact call_tuple_of pins s σ H _ us Q I r ⟨_, _, rfl, .inr ⟨sb.sqt h1, q _ _ _ (.refl sb) ⟨z1, p1, v1, rfl, h1, l1⟩⟩⟩
  · cases e
theorem oc_int : CallR X (.type "int") (rDs X.K X.mg intD) := by
  intro pins s σ H xs us Q I r h
  obtain ⟨Hf, ds, d, sb, l, e, q⟩ := h
  unfold intD at e
  split at e
  · cases e
    obtain ⟨v, r1, rfl, rfl, rfl⟩ := l
    exact call_int1 pins s σ H _ us Q I r (.inl ⟨_, rfl, q _ Hf H (.refl sb) (is_int _)⟩)
  · cases e
    obtain ⟨v, r1, rfl, rfl, rfl⟩ := l
    exact call_int1 pins s σ H _ us Q I r (.inr ⟨_, rfl, q _ Hf H (.refl sb) (is_int _)⟩)
  · cases e
theorem oc_abs : CallR X (.builtin "abs") (rDs X.K X.mg absD) := by
  intro pins s σ H xs us Q I r h
  obtain ⟨Hf, ds, d, sb, l, e, q⟩ := h
  unfold absD at e
  split at e
  · cases e
    obtain ⟨v, r1, rfl, rfl, rfl⟩ := l
    exact call_abs pins s σ H _ us Q I r ⟨_, rfl, q _ Hf H (.refl sb) (is_int _)⟩
  · cases e
theorem call_list_chrs (hc : X.calm = true) : CallR X (.type "list") (fun xs H Q => ∃ z : List Nat, xs = [.str ⟨z.toArray⟩] ∧ z.length ≤ sizeLine ∧ ∀ q, H q = none → Q (.ref q) (upd H q (.lst (z.map fun c => .str ⟨#[c]⟩)))) := by
  intro pins s σ H xs us Q I r h
  obtain ⟨z, rfl, hz, q⟩ := h
  obtain ⟨u, rfl, rx⟩ := vals1 r
  obtain ⟨t, rfl⟩ := rx
  have hz' : (⟨z.toArray⟩ : Str).cps.size ≤ sizeLine := by
    show z.toArray.size ≤ sizeLine
    simpa using hz
  refine PySem.call_list_str (hn := hz') (I.ok.hd hc) _ t fun h' tk acc' c' hk hS hacc => ?_
  refine ⟨.ref s.heap.objs.size, upd H s.heap.objs.size (.lst (z.map fun c => .str ⟨#[c]⟩)), I.laid hk (Nat.le_refl _) (show ObjOk X.prog X.w _ _ _ (.lst (z.map fun c => .str ⟨#[c]⟩)) from ⟨by simpa using hz, acc'.toList, c', ?_, by rw [Array.toArray_toList]; exact hS⟩), rfl, q _ (I.hok.fresh (Nat.le_refl _))⟩
  have el : acc'.toList.length = z.length := by
    have := hacc.1
    simpa using this
  refine vals_of_at (by rw [List.length_map, el]) fun j x w h1 h2 => ?_
  obtain ⟨c, u, hc', ew⟩ := hacc.2 j w (by rw [← Array.getElem?_toList]; exact h2)
  subst ew
  have hc2 : z[j]? = some c := by
    have : z.toArray[j]? = some c := hc'
    rwa [List.getElem?_toArray] at this
  rw [List.getElem?_map, hc2] at h1
  cases h1
  exact ⟨u, rfl⟩
def rDl (K : PySem.W.Frag) (mg : Str → Option Value) (g : List D → Option (List D)) : List V → Hp → VK → Prop := fun xs H Q => ∃ Hf ds es, SubT Hf H ∧ IsL K mg Hf ds xs ∧ g ds = some es ∧ es.length ≤ sizeLine ∧ ∀ p Hf' H' vs, Ste [] Hf H Hf' H' → H p = none → Hf' p = none → H' p = some (.lst vs) → IsL K mg Hf' es vs → Q (.ref p) H'
theorem isL_chrs {K : PySem.W.Frag} {mg : Str → Option Value} {H : Hp} : ∀ z : List Nat, IsL K mg H (chrs z) (z.map fun c => .str ⟨#[c]⟩)
  | [] => rfl
  | c :: z => ⟨_, _, rfl, ⟨rfl, by show 1 ≤ sizeLine; decide⟩, isL_chrs z⟩
theorem oc_list (hc : X.calm = true) : CallR X (.type "list") (rDl X.K X.mg listD) := by
  intro pins s σ H xs us Q I r h
  obtain ⟨Hf, ds, d, sb, l, e, hz, q⟩ := h
  unfold listD at e
  split at e
  · cases e
    obtain ⟨v, r1, rfl, ⟨z1, p1, v1, rfl, h1, l1⟩, rfl⟩ := l
    exact call_list_of pins s σ H _ us Q I r ⟨_, _, rfl, .inl (.inl (.inl (sb _ _ h1))), fun p hp => q p Hf _ _ (.new' sb hp) hp (sb.none hp) upd_same l1⟩
  · cases e
    obtain ⟨v, r1, rfl, ⟨z1, p1, v1, rfl, h1, l1⟩, rfl⟩ := l
    exact call_list_of pins s σ H _ us Q I r ⟨_, _, rfl, .inr (sb.sqt h1), fun p hp => q p Hf _ _ (.new' sb hp) hp (sb.none hp) upd_same l1⟩
  · cases e
    obtain ⟨v, r1, rfl, ⟨rfl, hz⟩, rfl⟩ := l
    exact call_list_chrs hc pins s σ H _ us Q I r ⟨_, rfl, hz, fun p hp => q p Hf _ _ (.new' sb hp) hp (sb.none hp) upd_same (isL_chrs _)⟩
  · cases e
end
section
variable {X : Cx} {fx : Fx} {m : Type → Type} [Mo m] {G : List Sl} {e : Expr} {es : List Expr} {pos p : Pos} {ys : m (List D)} [DL.TC]
theorem df_callTy {g : List D → Option (List D)} {T : String} {n : Str} (hc : CallR X (.type T) (rDl X.K X.mg g)) (hg : Gl X n) (hm : X.mg n = none) (hv : bootBuiltins n = some (.type T)) (ha : PA X (e :: es) (tA X.K X.mg fx G ys))
    (hn : n ≠ "__name__" := by decide) (hdb : (n == ("__debug__" : Str)) = false := by decide) (he : starEach (e :: es) X.env = (false, eval e X.env) :: starEach es X.env := by rfl) (hpl : (backTo pos (starEach es X.env)).any (·.1) = false := by rfl) :
    PE X (.Call (.Name n p) (e :: es) [] pos) (tF X.K X.mg fx G (do let ds ← ys; let ds ← ask (g ds); ask (szL ds))) := peI (pe_callTy hc hg hm hv ha hn hdb he hpl) fun σ H Q ⟨Hf, s, st, w⟩ =>
  ⟨Hf, s, st, Mo.wp_mono (Mo.wp_bind w) (fun ds s1 k vs Hf1 H1 e bg l => by
    have k' := Mo.wp_lift (Mo.wp_bind k)
    cases e1 : g ds with
    | none => rw [e1] at k'; exact k'.elim
    | some es =>
      rw [e1] at k'
      have k2 := Mo.wp_lift k'
      by_cases hz : es.length ≤ sizeLine
      · have e2 : szL es = some es := if_pos hz
        rw [e2] at k2
        exact ⟨Hf1, ds, es, (st.step e bg).topT, l, e1, hz, fun p Hf' H' vs e3 hp hf' hp' l' => by
          have hn : H p = none := by
            cases q : H p with
            | none => rfl
            | some o => exact absurd hp (e.dom p (by rw [q]; simp))
          exact k2 p vs Hf' H' (e.trans e3.wide) (e3.bag bg) hp' hf' hn l' hz⟩
      · have e2 : szL es = none := if_neg hz
        rw [e2] at k2
        exact k2.elim) fun e s' k => k⟩
end
def joinN (S : List Nat) : List (List Nat) → List Nat
  | [] => []
  | [p] => p
  | p :: q :: r => p ++ (S ++ joinN S (q :: r))
def strsOf : List D → Option (List (List Nat))
  | [] => some []
  | .str s :: r => (strsOf r).map (s :: ·)
  | _ :: _ => none
def joinD (a b : D) : Option D := match a, sqOf b with
  | .str S, some ds => match strsOf ds with
    | some ps => if (ps.map (·.length)).sum + ps.length * S.length ≤ 16777216 then some (.str (joinN S ps)) else none
    | none => none
  | _, _ => none
theorem joinN_eq (S : List Nat) : ∀ ps, joinN S ps = TL.joinL S ps
  | [] => rfl
  | [_] => rfl
  | p :: q :: r => by rw [joinN, TL.joinL, joinN_eq S (q :: r)]
theorem joinN_len (S : List Nat) : ∀ ps : List (List Nat), (joinN S ps).length ≤ (ps.map (·.length)).sum + ps.length * S.length
  | [] => by simp [joinN]
  | [p] => by simp [joinN]
  | p :: q :: r => by
    have := joinN_len S (q :: r)
    rw [joinN, List.length_append, List.length_append, List.map_cons, List.sum_cons, List.length_cons, Nat.add_mul]
    omega
theorem isL_strs {K : PySem.W.Frag} {mg : Str → Option Value} {H : Hp} : ∀ {ds : List D} {vs : List V} {ps : List (List Nat)}, IsL K mg H ds vs → strsOf ds = some ps → vs = ps.map fun p => .str ⟨p.toArray⟩
  | [], _, _, h, e => by cases h; cases e; rfl
  | .str s :: ds, _, _, h, e => by
    obtain ⟨v, r, rfl, ⟨rfl, _⟩, l⟩ := h
    unfold strsOf at e
    cases q : strsOf ds with
    | none => rw [q] at e; cases e
    | some ps => rw [q] at e; cases e; rw [isL_strs l q]; rfl
  | .non :: _, _, _, _, e => by cases e
  | .bl _ :: _, _, _, _, e => by cases e
  | .int _ :: _, _, _, _, e => by cases e
  | .tup _ :: _, _, _, _, e => by cases e
  | .lst _ :: _, _, _, _, e => by cases e
  | .dic _ _ :: _, _, _, _, e => by cases e
  | .ins _ _ _ :: _, _, _, _, e => by cases e
  | .scr _ :: _, _, _, _, e => by cases e
  | .xc _ _ _ _ :: _, _, _, _, e => by cases e
section
variable {X : Cx} {fx : Fx} {m : Type → Type} [Mo m] {G : List Sl} {o e : Expr} {apos pos : Pos} {x y : m D} [DL.TC]
theorem de_join (ho : PE X o (tE X.K X.mg fx G x)) (he : PE X e (tE X.K X.mg fx G y)) (hs : starEach [e] X.env = [(false, eval e X.env)] := by rfl) (hbase : attributeBase o "join" X.env (eval o X.env) = eval o X.env := by rfl) (hline : (apos.endLine == pos.line) = true := by rfl) :
    PE X (.Call (.Attribute o "join" apos) [e] [] pos) (tE X.K X.mg fx G (do let u ← x; let _ ← ask (strOf u); let v ← y; ask (joinD u v))) := peI (pe_join ho he hs hbase hline) fun σ H Q ⟨Hf, s, h⟩ =>
  (h.bind.mono fun v1 H1 ⟨d1, Hf1, s1, sb1, r1, h1⟩ => by
    have k := Mo.wp_lift (Mo.wp_bind h1.2)
    cases d1 with
    | str S =>
      obtain ⟨rfl, hz1⟩ := r1
      refine ⟨⟨_, rfl⟩, ?_⟩
      have h2 : tX X.K X.mg fx G (fun H d v => Is X.K X.mg H d v) (do let v ← y; ask (joinD (.str S) v) : m D) Hf1 s1 σ H1 Q := ⟨h1.1, k⟩
      refine (h2.bind.mono fun v2 H2 ⟨d2, Hf2, s2, sb2, r2, h3⟩ => ?_).to
      obtain ⟨d, e, q⟩ := h3.ask
      unfold joinD at e
      cases e2 : sqOf d2 with
      | none => rw [e2] at e; cases e
      | some ds =>
        rw [e2] at e
        cases e3 : strsOf ds with
        | none => simp only [e3] at e; cases e
        | some ps =>
          simp only [e3] at e
          split at e
          · rename_i hz
            cases e
            have fin : Q (.str (Txt.join ⟨S.toArray⟩ (ps.map fun p => (⟨p.toArray⟩ : Str)))) H2 := by
              refine q _ Hf2 H2 (.refl h3.1.top) ⟨?_, Nat.le_trans (joinN_len S ps) (by rw [sizeLine_eq]; exact hz)⟩
              rw [TL.join_eq]
              congr 1
              have e4 := TL.tl_join ⟨S.toArray⟩ (ps.map fun p => (⟨p.toArray⟩ : Str))
              refine TL.ext_tl ?_
              refine (e4.trans ?_).trans (str_tl (joinN S ps)).symm
              rw [joinN_eq, List.map_map]
              have e5 : (ps.map (TL.tl ∘ fun p => (⟨p.toArray⟩ : Str))) = ps := by
                conv => rhs; rw [← List.map_id ps]
                exact List.map_congr_left fun p _ => str_tl p
              rw [e5]
            have hz' : ((ps.map fun p => (⟨p.toArray⟩ : Str)).map (·.length)).sum + (ps.map fun p => (⟨p.toArray⟩ : Str)).length * (⟨S.toArray⟩ : Str).length ≤ 16777216 := by
              rw [List.map_map, List.length_map, str_len]
              have e5 : (ps.map ((fun x : Str => x.length) ∘ fun p => (⟨p.toArray⟩ : Str))) = ps.map (·.length) := List.map_congr_left fun p _ => str_len p
              rw [e5]
              exact hz
            have em : (ps.map fun p => V.str ⟨p.toArray⟩) = (ps.map fun p => (⟨p.toArray⟩ : Str)).map V.str := by rw [List.map_map]; rfl
            cases d2 with
            | lst es =>
              cases e2
              obtain ⟨z1, p1, w1, rfl, t1, l1⟩ := r2
              have ew := isL_strs l1 e3
              subst ew
              exact ⟨_, p1, _, rfl, rfl, .inl (.inl (.inl (by rw [← em]; exact h3.1.top _ _ t1))), hz', fin⟩
            | tup es =>
              cases e2
              obtain ⟨z1, p1, w1, rfl, t1, l1⟩ := r2
              have ew := isL_strs l1 e3
              subst ew
              exact ⟨_, p1, _, rfl, rfl, .inr (by rw [← em]; exact h3.1.top.sqt t1), hz', fin⟩
            | _ => cases e2
          · cases e
    | _ => exact k.elim).to
end
end DL
namespace DL
open PySem L2
theorem foldl_app (x : Array Nat) : ∀ (n : Nat) (acc : Array Nat), (List.replicate n x).foldl (· ++ ·) acc = acc ++ (List.replicate n x.toList).flatten.toArray
  | 0, acc => by simp
  | n + 1, acc => by
    rw [List.replicate_succ, List.foldl_cons, foldl_app x n, List.replicate_succ, List.flatten_cons]
    apply Array.ext'
    simp
theorem mulS_eq [DL.TC] (a : List Nat) (k : Int) (h0 : 0 ≤ k) : Txt.mul ⟨a.toArray⟩ k = ⟨(List.replicate k.toNat a).flatten.toArray⟩ := by
  unfold Txt.mul
  by_cases h1 : k < 1
  · have : k = 0 := by omega
    subst this
    rfl
  · rw [if_neg h1]
    by_cases h2 : (k == 1 || (⟨a.toArray⟩ : Str).length == 0) = true
    · rw [if_pos h2]
      rw [str_len] at h2
      by_cases h3 : k = 1
      · subst h3
        simp
      · have : a.length = 0 := by simpa [h3] using h2
        have : a = [] := List.length_eq_zero_iff.mp this
        subst this
        simp
    · rw [if_neg h2, foldl_app]
      simp
theorem rep_len {α : Type} (a : List α) (n : Nat) : (List.replicate n a).flatten.length = a.length * n := by
  simp [Nat.mul_comm]
theorem isL_rep {K : PySem.W.Frag} {mg : Str → Option Value} {H : Hp} {ds : List D} {vs : List V} (l : IsL K mg H ds vs) : ∀ n : Nat, IsL K mg H (List.replicate n ds).flatten (List.replicate n vs).flatten
  | 0 => rfl
  | n + 1 => by
    rw [List.replicate_succ, List.replicate_succ, List.flatten_cons, List.flatten_cons]
    exact l.app (isL_rep l n)
section
variable {X : Cx} [DL.TC]
theorem od_mul : OpR X (binaryOp .Mult) (rD2 X.K X.mg mulD) := by
  intro pins s σ H x y v u Q I rx ry h
  obtain ⟨Hf, dx, dy, d, sb, ix, iy, e, q⟩ := h
  unfold mulD at e
  split at e
  · split at e
    · rename_i i j hc
      cases e; cases ix; cases iy
      exact op_mulW pins s σ H _ _ v u Q I rx ry ⟨_, _, rfl, rfl, hc, q _ Hf H (.refl sb) (is_int _)⟩
    · cases e
  · split at e
    · rename_i a k hc
      cases e
      obtain ⟨rfl, hz⟩ := ix
      cases iy
      obtain ⟨t, rfl⟩ := rx
      obtain ⟨t2, rfl⟩ := ry
      have hl : (⟨a.toArray⟩ : Str).length = a.length := str_len a
      refine SB.mul ⟨?_, fun h1 _ => ?_, fun h1 _ => ?_⟩ fun t' k' => ?_
      · rw [Bool.or_eq_false_iff]
        exact ⟨decide_eq_false (by omega), decide_eq_false (by omega)⟩
      · rw [hl]
        have h2 : ((a.length * k.toNat : Nat) : Int) ≤ 1000000 := by omega
        rw [Int.natCast_mul, Int.toNat_of_nonneg hc.1] at h2
        have := Int.le_ediv_of_mul_le (a := (a.length : Int)) (b := 2 ^ 63 - 1) (c := k) (by omega) (by omega)
        omega
      · unfold Builtin.Str.tooLong
        rw [hl, sizeLine_eq]
        exact decide_eq_false (by omega)
      · rw [mulS_eq a k hc.1]
        refine ⟨.str _, H, I.tok k', ⟨t', rfl⟩, q _ Hf H (.refl sb) ⟨rfl, ?_⟩⟩
        rw [rep_len, sizeLine_eq]
        omega
    · cases e
  · split at e
    · rename_i a k hc
      cases e
      obtain ⟨z1, p1, v1, rfl, h1, l1⟩ := ix
      cases iy
      refine op_rep pins s σ H _ _ v u Q I rx ry ⟨_, _, _, rfl, rfl, sb _ _ h1, by omega, by omega, ?_, fun p hp => q _ _ _ (.new sb hp) ⟨?_, p, _, rfl, upd_same, ?_⟩⟩
      · rw [← l1.len, sizeLine_eq]; omega
      · rw [rep_len, sizeLine_eq]; omega
      · have l2 := l1.mono (Ste.new (bag := []) (o := .lst (List.replicate k.toNat v1).flatten) sb hp).sub
        exact isL_rep l2 _
    · cases e
  · cases e
end
end DL
namespace DL
open PySem L2
section
variable {X : Cx} [DL.TC]
theorem isNone_is {K : PySem.W.Frag} {mg : Str → Option Value} {H : Hp} {d : D} {v : V} {b : Bool} (i : Is K mg H d v) (e : isNone d = some b) : decide (v = .non) = b := by
  cases d with
  | non => cases i; cases e; rfl
  | bl c => cases i; cases e; rfl
  | int c => cases i; cases e; rfl
  | str c => obtain ⟨rfl, _⟩ := i; cases e; rfl
  | tup ds => obtain ⟨_, a, vs, rfl, _⟩ := i; cases e; rfl
  | lst ds => obtain ⟨_, a, vs, rfl, _⟩ := i; cases e; rfl
  | dic _ _ => obtain ⟨a, vs, rfl, _⟩ := i; cases e; rfl
  | ins _ _ _ => obtain ⟨a, c, dd, vs, rfl, _⟩ := i; cases e; rfl
  | scr _ => obtain ⟨_, a, rfl, _⟩ := i; cases e; rfl
  | xc _ _ _ _ => obtain ⟨rfl, _⟩ := i; cases e; rfl
theorem od_is : OpR X (compareOp .Is) (rD2 X.K X.mg isD) := by
  intro pins s σ H x y v u Q I rx ry h
  obtain ⟨Hf, dx, dy, d, sb, ix, iy, e, q⟩ := h
  unfold isD at e
  split at e
  · cases iy
    cases e1 : isNone dx with
    | none => rw [e1] at e; cases e
    | some b =>
      rw [e1] at e; cases e
      have e2 := isNone_is ix e1
      exact op_isN pins s σ H _ _ v u Q I rx ry ⟨rfl, by rw [e2]; exact q _ Hf H (.refl sb) (is_bl _)⟩
  · cases e; cases ix; cases iy
    exact op_isBl pins s σ H _ _ v u Q I rx ry ⟨_, _, rfl, rfl, q _ Hf H (.refl sb) (is_bl _)⟩
  · cases e
theorem in_core (hu : X.A.units + 65 < cLine) {pins : List (Addr × Obj)} {s : Shared} {σ : L2.St} {H : Hp} {x y : V} {v u : Value} (I : Inv X pins σ H s) (rx : RelV x v) (ry : RelV y u) {Hf : Hp} {dx dy : D} {b : Bool} (sb : Sub Hf H) (ix : Is X.K X.mg Hf dx x) (iy : Is X.K X.mg Hf dy y) (e : inP dx dy = some b) :
    (∀ Q : VK, Q (.bl b) H → wpAny (model X.prog X.w) X.A (compareOp .In v u) (EP X pins σ Q) X.xe s) ∧ (∀ Q : VK, Q (.bl (!b)) H → wpAny (model X.prog X.w) X.A (compareOp .NotIn v u) (EP X pins σ Q) X.xe s) := by
  unfold inP at e
  split at e
  · obtain ⟨rfl, _⟩ := ix
    obtain ⟨rfl, _⟩ := iy
    cases e
    refine ⟨fun Q q => op_in_sign pins s σ H _ _ v u Q I rx ry ⟨_, _, rfl, rfl, by rw [str_tl]; exact q⟩, fun Q q => op_notIn_sign pins s σ H _ _ v u Q I rx ry ⟨_, _, rfl, rfl, by rw [str_tl]; exact q⟩⟩
  · rename_i ds
    split at e
    · rename_i p ys e1 e2
      split at e
      · rename_i hc
        cases e
        rw [Bool.and_eq_true] at hc
        refine ⟨fun Q q => op_inD hu pins s σ H _ _ v u Q I rx ry ⟨p, ys, (ix.mono sb).dp e1, (iy.mono sb).dp e2, hc.1, hc.2, q⟩, fun Q q => op_notInD hu pins s σ H _ _ v u Q I rx ry ⟨p, ys, (ix.mono sb).dp e1, (iy.mono sb).dp e2, hc.1, hc.2, q⟩⟩
      · cases e
    · cases e
  · rename_i ds
    split at e
    · rename_i p ys e1 e2
      split at e
      · rename_i hc
        cases e
        rw [Bool.and_eq_true] at hc
        obtain ⟨as, r1⟩ := Dp.reads I p x v ((ix.mono sb).dp e1) rx
        obtain ⟨bs, r2⟩ := Dp.reads I _ y u ((iy.mono sb).dp e2) ry
        have cl : PyData.canLayAll0 ys = true := by
          have := SeqAt.canLay_of_shaped hc.2
          simpa [PyData.canLay0] using this
        exact ⟨fun Q q => SeqAt.in_tuple_reads r2 r1 cl (SeqAt.canLay_of_shaped hc.1) (PyProof.Rows.room_in_shaped hc.1 hu) ⟨.bl _, H, I, rfl, q⟩,
          fun Q q => SeqAt.notIn_tuple_reads r2 r1 cl (SeqAt.canLay_of_shaped hc.1) (PyProof.Rows.room_in_shaped hc.1 hu) ⟨.bl _, H, I, rfl, q⟩⟩
      · cases e
    · cases e
  · cases e
theorem od_in (hu : X.A.units + 65 < cLine) : OpR X (compareOp .In) (rD2 X.K X.mg inD) := by
  intro pins s σ H x y v u Q I rx ry h
  obtain ⟨Hf, dx, dy, d, sb, ix, iy, e, q⟩ := h
  unfold inD at e
  cases e1 : inP dx dy with
  | none => rw [e1] at e; cases e
  | some b => rw [e1] at e; cases e; exact (in_core hu I rx ry sb ix iy e1).1 Q (q _ Hf H (.refl sb) (is_bl _))
theorem od_notIn (hu : X.A.units + 65 < cLine) : OpR X (compareOp .NotIn) (rD2 X.K X.mg notInD) := by
  intro pins s σ H x y v u Q I rx ry h
  obtain ⟨Hf, dx, dy, d, sb, ix, iy, e, q⟩ := h
  unfold notInD at e
  cases e1 : inP dx dy with
  | none => rw [e1] at e; cases e
  | some b => rw [e1] at e; cases e; exact (in_core hu I rx ry sb ix iy e1).2 Q (q _ Hf H (.refl sb) (is_bl _))
end
def tyD : D → Option String
  | .non => some "NoneType"
  | .bl _ => some "bool"
  | .int _ => some "int"
  | .str _ => some "str"
  | .tup _ => some "tuple"
  | .lst _ => some "list"
  | .scr _ => some "list"
  | .xc _ _ _ _ => none
  | .dic _ _ => some "dict"
  | .ins _ _ _ => none
def isiD (T : String) (d : D) : Option D := match tyD d with
  | some a => (kitB a T).map .bl
  | none => none
theorem tyD_is {K : PySem.W.Frag} {mg : Str → Option Value} {Hf H : Hp} (sb : Sub Hf H) {d : D} {v : V} {T : String} (i : Is K mg Hf d v) (e : tyD d = some T) : TyX K H v (.type T) := by
  cases d with
  | non => cases i; cases e; exact .base .non
  | bl c => cases i; cases e; exact .base (.bl _)
  | int c => cases i; cases e; exact .base (.int _)
  | str c => obtain ⟨rfl, _⟩ := i; cases e; exact .base (.str _)
  | tup ds =>
    obtain ⟨_, a, vs, rfl, h, _⟩ := i
    cases e
    rcases sb.sqt h with (h | ⟨o, h⟩) | h
    · exact .base (.tup h)
    · exact .fTuple h
    · obtain ⟨o, its, n, h1, h2, h3⟩ := h
      exact .kTuple h1 h2
  | lst ds =>
    obtain ⟨_, a, vs, rfl, h, _⟩ := i
    cases e
    exact .base (.lst (sb _ _ h))
  | dic _ _ =>
    obtain ⟨a, vs, rfl, h, _⟩ := i
    cases e
    rcases sb.rd h with h | ⟨o, h⟩
    · exact .base (.dK h)
    · exact .fDict h
  | ins _ _ _ => cases e
  | xc _ _ _ _ => cases e
  | scr _ =>
    obtain ⟨_, a, rfl, h⟩ := i
    cases e
    rcases sb.sql h.sq with (h | ⟨o, h⟩) | h
    · exact .base (.lst h)
    · exact .base (.frz h)
    · obtain ⟨o, its, n, h1, h2, h3⟩ := h
      exact .kList h1 h2
section
variable {X : Cx} {fx : Fx} {m : Type → Type} [Mo m] {G : List Sl} {e : Expr} {p p2 pos : Pos} {x : m D} [DL.TC]
theorem de_isi (T : String) {n : Str} (he : PE X e (tE X.K X.mg fx G x)) (hg : Gl X "isinstance") (hm : X.mg "isinstance" = none) (hg2 : Gl X n) (hm2 : X.mg n = none) (hv2 : bootBuiltins n = some (.type T))
    (hn : n ≠ "__name__" := by decide) (hdb : (n == ("__debug__" : Str)) = false := by decide) (hs : starEach [e, .Name n p2] X.env = (false, eval e X.env) :: starEach [.Name n p2] X.env := by rfl) (hs2 : starEach [.Name n p2] X.env = (false, eval (.Name n p2) X.env) :: starEach [] X.env := by rfl) (hpl : (backTo pos (starEach [.Name n p2] X.env)).any (·.1) = false := by rfl) :
    PE X (.Call (.Name "isinstance" p) [e, .Name n p2] [] pos) (tE X.K X.mg fx G (do let d ← x; ask (isiD T d))) :=
  peI (pe_callB call_isi hg hm rfl (pa_cons he (pa_cons (pe_bltn (v := .ty T) hg2 hm2 hv2 rfl hn hdb) pa_nil hs2) hs) (by decide) (by decide) hs hpl) fun σ H Q ⟨Hf, s, h⟩ =>
  (h.bind.mono fun v1 H1 ⟨d1, Hf1, s1, sb1, r1, h1⟩ => by
    obtain ⟨d, e, q⟩ := h1.ask
    unfold isiD at e
    cases e1 : tyD d1 with
    | none => rw [e1] at e; cases e
    | some a =>
      simp only [e1] at e
      cases e2 : kitB a T with
      | none => rw [e2] at e; cases e
      | some b =>
        rw [e2] at e
        cases e
        exact ⟨v1, .ty T, _, _, b, rfl, .ty T, tyD_is h1.1.top r1 e1, kit_ty e2, q _ Hf1 H1 (.refl h1.1.top) (is_bl _)⟩).to
end
def bolsOf : List D → Option (List Bool)
  | [] => some []
  | .bl b :: r => (bolsOf r).map (b :: ·)
  | _ :: _ => none
def allD : List D → Option D
  | [.lst ds] => (bolsOf ds).map fun bs => .bl (bs.all id)
  | _ => none
end DL
namespace DL
open PySem L2
end DL
namespace DL
open PySem L2
section
variable {X : Cx} {fx : Fx} {G : List Sl} {α β : Type} {kk : Nat} {e : Expr} {rest : List Stmt} {ex : α → List Sl} {exb : β → List Sl} {pos p2 np apos : Pos} {n : Str} {j : Nat} [DL.TC]
theorem StS.bagUpd {K : PySem.W.Frag} {mg : Str → Option Value} {Hf H : Hp} {σ : L2.St} {s s' : S} {b : Addr} {o : HO} (st : StS K mg fx Hf H σ G s) (hb : b ∈ fx.bag) (hk : Pl H b) (bg : BagAt fx.bag (upd H b o) s') : StS K mg fx Hf (upd H b o) σ G s' := by
  have hf := (st.bagf b hb).1
  refine ⟨⟨st.ste.sub, fun a u q => ?_, fun a u q n kk => ?_, fun a n => ?_, st.ste.fresh, fun t => (st.ste.tab t).updP hk⟩, bg, fun c hc => ⟨(st.bagg c hc).1, ?_, (st.bagg c hc).2.2⟩, st.tb.updP hk, st.len, fun i x ex => ?_, st.dis⟩
  · have ne : a ≠ b := fun z => by rw [z, hf] at q; cases q
    rw [upd_ne ne]; exact st.top a u q
  · have ne : a ≠ b := fun z => n (List.mem_append_right _ (z ▸ hb))
    rw [upd_ne ne]; exact st.ste.keep a u q n kk
  · by_cases c : a = b
    · rw [c, upd_same]; simp
    · rw [upd_ne c]; exact st.ste.dom a n
  · by_cases q : c = b
    · rw [q, upd_same]; simp
    · rw [upd_ne q]; exact (st.bagg c hc).2.1
  · exact (st.sl i x ex).upd fun q ox e z => by
      obtain ⟨q2, e2, _, _, nb, _⟩ := (st.sl i x ex).ref ox
      rw [e] at e2
      cases e2
      exact nb (z ▸ hb)
end
def lstOf : D → Option (List D)
  | .lst ds => some ds
  | _ => none
section
variable {K : PySem.W.Frag} {mg : Str → Option Value} {fx : Fx} [DL.TC]
def noBg : Sl → Bool
  | .bg => false
  | _ => true
end
end DL
namespace DL
open PySem L2 PyProof.Rows PySem.Spec
section
variable {P : Program} {w : World} {K : PySem.W.Frag} {mg mb : Str → Option Value} {k : Nat} {fa a : Addr} {fd : FuncData} {x : Str} {g : List D → R D} {s1 : Shared} {vs : List Value} {ns : List Int} [DL.TC]
theorem mod_hid {H : Hp} (KX : K.In s1.heap) (hns : s1.heap.Ns mainGlobals mg) (hb : s1.heap.Ns builtinsNs mb) (hbb : ∀ x : Str, x ≠ "__name__" → mb x = bootBuiltins x) (hlim : s1.heap.NoLimit)
    (hd : ∀ (b : Addr) (o : Obj) (es : Array DictEntry) (ep : Nat), s1.heap.get? b = some o → o.data = .dict es ep → H b = none) (hk : ∀ b o, K.lookup b = some o → H b = none) : Mod K mg (hidT s1.heap H) := by
  have nsK : ∀ {b : Addr} {m : Str → Option Value}, s1.heap.Ns b m → (hidT s1.heap H).Ns b m := fun {b m} ⟨o, es, ep, e, d, r⟩ => ⟨o, es, ep, hidT_get e (hd _ _ _ _ e d), d, r⟩
  exact ⟨fun b o e => hidT_get (KX b o e) (hk b o e), nsK hns, ⟨mb, nsK hb, hbb⟩, let ⟨mc, h1, h2⟩ := hlim; ⟨mc, nsK h1, h2⟩⟩
theorem call_at {H : Hp} (KX : K.In s1.heap) (hns : s1.heap.Ns mainGlobals mg) (hb : s1.heap.Ns builtinsNs mb) (hbb : ∀ x : Str, x ≠ "__name__" → mb x = bootBuiltins x) (hlim : s1.heap.NoLimit) (hgn : s1.gens = #[])
    (hd : ∀ (b : Addr) (o : Obj) (es : Array DictEntry) (ep : Nat), s1.heap.get? b = some o → o.data = .dict es ep → H b = none) (hk : ∀ b o, K.lookup b = some o → H b = none) (hf : ∀ b u, H b = some u → ∃ o xs, u = .frz o (.lst xs)) (hok : HOk P w H s1.heap) (hr : Room k callerA)
    (F : ∀ base : Heap, K.In base → base.Ns mainGlobals mg → FnG P w K mg base k fa fd [x] (spR K mg false 1 g)) (hbind : ∀ (s : Shared) (u : Value), BindsTo s fd ⟨[u], []⟩ [(x, u)])
    {Hf : Hp} (sT : SubT Hf H) (hS : ScL K Hf a (ns.map V.int)) (hl : ns.length ≤ sizeLine) (hg : g [.scr ns] = .ok (.bl true)) :
    codeAny (model P w) callerA (.call (.ref fa) ⟨[.ref a], []⟩) (fun r s' => r = .ok (.ret (.bool true)) ∧ OldK s1.heap s'.heap ∧ s'.os = s1.os ∧ AllBare s'.gens) s1 := by
  have hM := mod_hid (H := H) KX hns hb hbb hlim hd hk
  have e0 : Env0 P w K mg (hidT s1.heap H) callerA [] s1 H := ⟨rfl, hM, fun b o e => of_hidT e, Nat.le_of_eq (hidT_size _ _), trivial, fun b hb => absurd (show b ∈ ([] : List Addr) from hb) (by simp), hok, .of_eq hgn⟩
  have hsp : spR K mg false 1 g [.ref a] H (fun v _ => v = .bl true) (fun _ _ _ => False) := by
    refine ⟨rfl, Hf, [.scr ns], sT, ⟨_, _, rfl, ⟨hl, a, rfl, hS⟩, rfl⟩, ?_⟩
    rw [hg]
    exact fun v Hf' H' _ e => e
  refine codeAny_mono ((F _ hM.kin hM.glob).run callerA [] s1 H ⟨[.ref a], []⟩ [.ref a] [.ref a] _ _ rfl hr e0 (hbind s1 (.ref a)) (.cons rfl .nil) hsp) fun r s' h => ?_
  cases r with
  | error e =>
    exact (cxm_false (show CXm P w mg [] H s1 (fun _ _ _ => False) e s' from h)).elim
  | ok fl =>
    cases fl with
    | next => exact False.elim h
    | brk => exact False.elim h
    | cont => exact False.elim h
    | ret u =>
      obtain ⟨v, H', os, bare, un, hok', r', q⟩ := h
      have q' : v = .bl true := q
      subst q'
      obtain rfl : u = Value.bool true := r'
      refine ⟨rfl, OldK.of_keep fun b o e => ?_, os, bare⟩
      cases q : H b with
      | none => exact un.keep b o e q (by intro z; exact absurd (show b ∈ ([] : List Addr) from z) (by simp)) (by simp)
      | some u =>
        obtain ⟨ob, xs, rfl⟩ := hf b u q
        have z2 := un.frzs b ob _ q
        obtain ⟨e1, _⟩ := hok b _ q
        obtain ⟨e2, _⟩ := hok' b _ z2
        rw [e] at e1; cases e1
        exact e2
def scrH (a : Addr) (o : Obj) (xs : List V) : Hp := fun b => if b = a then some (.frz o (.lst xs)) else none
theorem scrH_at {a : Addr} {o : Obj} {xs : List V} : scrH a o xs a = some (.frz o (.lst xs)) := if_pos rfl
theorem scrH_ne {a b : Addr} {o : Obj} {xs : List V} (h : b ≠ a) : scrH a o xs b = none := if_neg h
theorem scrH_inv {a b : Addr} {o : Obj} {xs : List V} {u : HO} (h : scrH a o xs b = some u) : b = a ∧ u = .frz o (.lst xs) := by
  by_cases q : b = a
  · subst q
    rw [scrH_at] at h
    exact ⟨rfl, (Option.some.inj h).symm⟩
  · rw [scrH_ne q] at h
    cases h
theorem subT_nil {H : Hp} (hT : TC.T = []) : SubT H H := ⟨.refl H, fun q hq => by (rw [hT] at hq; cases hq), fun q hq => by (rw [hT] at hq; cases hq)⟩
theorem law_callG (hT : TC.T = []) (KX : K.In s1.heap) (hns : s1.heap.Ns mainGlobals mg) (hb : s1.heap.Ns builtinsNs mb) (hbb : ∀ x : Str, x ≠ "__name__" → mb x = bootBuiltins x) (hlim : s1.heap.NoLimit) (hgn : s1.gens = #[])
    (ha : s1.heap.get? a = some { cls := .type "list", data := .seq vs.toArray }) (hi : IntsAre vs ns) (hl : ns.length ≤ sizeLine) (hr : Room k callerA)
    (F : ∀ base : Heap, K.In base → base.Ns mainGlobals mg → FnG P w K mg base k fa fd [x] (spR K mg false 1 g)) (hbind : ∀ (s : Shared) (u : Value), BindsTo s fd ⟨[u], []⟩ [(x, u)]) (hg : g [.scr ns] = .ok (.bl true)) :
    codeAny (model P w) callerA (.call (.ref fa) ⟨[.ref a], []⟩) (fun r s' => r = .ok (.ret (.bool true)) ∧ OldK s1.heap s'.heap ∧ s'.os = s1.os ∧ AllBare s'.gens) s1 := by
  have rv := vals_ints hi
  cases hk : K.lookup a with
  | some o =>
    have e := KX a o hk
    rw [ha] at e
    cases e
    refine call_at (H := fun _ => none) KX hns hb hbb hlim hgn (fun _ _ _ _ _ _ => rfl) (fun _ _ _ => rfl) (fun b u z => nomatch z) (fun b u z => nomatch z) hr F hbind (subT_nil hT) (.inr ⟨_, vs.toArray, _, hk, rfl, rfl, rfl, ?_, by simpa using rv⟩) hl hg
    rw [List.size_toArray, hi.length]
    exact hl
  | none =>
    refine call_at (H := scrH a { cls := .type "list", data := .seq vs.toArray } (ns.map V.int)) KX hns hb hbb hlim hgn (fun b o es ep e d => ?_) (fun b o e => ?_) (fun b u z => ⟨_, _, (scrH_inv z).2⟩) (fun b u z => ?_) hr F hbind (subT_nil hT) (.inl ⟨_, scrH_at⟩) hl hg
    · refine scrH_ne fun q => ?_
      subst q
      rw [ha] at e; cases e
      have d' : Data.seq vs.toArray _ = Data.dict es ep := d
      cases d'
    · refine scrH_ne fun q => ?_
      subst q
      rw [hk] at e; cases e
    · obtain ⟨rfl, rfl⟩ := scrH_inv z
      exact ⟨ha, by rw [List.length_map]; exact hl, vs, _, rv, ha⟩
end
end DL
namespace DL
open PySem L2
section
variable {X : Cx} {tg l : Expr} {tl : TE} [DL.TC]
section
variable {X : Cx} {tg l : Expr} {tl : TE} [DL.TC]
/-- an iterator over a list or a tuple is made -/
theorem iter_sq {tg : Expr} {pins : List (Addr × Obj)} {σ : L2.St} {H1 : Hp} {s1 : Shared} {R : It → Hp → Prop} {a : Addr} (I : L2.Inv X pins σ H1 s1) (hq : ((∃ xs, SqL X.K H1 a xs) ∧ R (Itl X.K a) H1) ∨ ((∃ xs, SqT X.K H1 a xs) ∧ R (Itt X.K a) H1)) :
    wpAny (model X.prog X.w) X.A (pyIter (.ref a)) (PIE X pins σ tg R) X.xe s1 :=
  hq.elim (fun ⟨⟨_, is⟩, q⟩ => let ⟨_, _, lies, _⟩ := I.list is
      wpAny_pyIter_list lies.isList (pi_one (tk := s1.toks) I _ (turn_list a _) ⟨_, Heap.get?_push_size _ rfl, rfl, rfl⟩ q))
    fun ⟨⟨_, is⟩, q⟩ => let ⟨its, _, lies, _⟩ := I.tuple is
      wpAny_pyIter_tuple (show s1.heap.IsTuple a its.toArray from lies) (pi_one (tk := s1.toks) I _ (turn_tuple a _) ⟨_, Heap.get?_push_size _ rfl, rfl, rfl⟩ q)
end
section
variable {X : Cx} {tg l : Expr} {tl : TE} [DL.TC]
/-- a list, a tuple or a text is walked -/
theorem iter_any {pins : List (Addr × Obj)} {σ : L2.St} {H1 : Hp} {s1 : Shared} {R : It → Hp → Prop} {x : V} {v : Value} (I : L2.Inv X pins σ H1 s1) (rel : RelV x v)
    (h : (∃ z : Str, x = .str z ∧ R (Its z) H1) ∨ ∃ a, x = .ref a ∧ (((∃ xs, SqL X.K H1 a xs) ∧ R (Itl X.K a) H1) ∨ ((∃ xs, SqT X.K H1 a xs) ∧ R (Itt X.K a) H1))) :
    wpAny (model X.prog X.w) X.A (pyIter v) (PIE X pins σ tg R) X.xe s1 := by
  rcases h with ⟨z, rfl, q⟩ | ⟨a, rfl, q⟩
  · obtain ⟨t, rfl⟩ := rel
    by_cases narrow : z.cps.all (· < 128) = true
    · exact wpAny_pyIter_ascii narrow (pi_one (tk := s1.toks) I _ (turn_str _ z t "str_ascii_iterator" (.inl rfl)) ⟨_, Heap.get?_push_size _ rfl, rfl, rfl⟩ q)
    · exact wpAny_pyIter_wide (Bool.eq_false_iff.mpr narrow) (pi_one (tk := s1.toks) I _ (turn_str _ z t "str_iterator" (.inr rfl)) ⟨_, Heap.get?_push_size _ rfl, rfl, rfl⟩ q)
  · cases rel
    exact iter_sq I q
theorem pi_any (hl : PE X l tl) : PI X tg l (fun σ H R => tl σ H fun x H1 => (∃ z : Str, x = .str z ∧ R (Its z) H1) ∨ ∃ a, x = .ref a ∧ (((∃ xs, SqL X.K H1 a xs) ∧ R (Itl X.K a) H1) ∨ ((∃ xs, SqT X.K H1 a xs) ∧ R (Itt X.K a) H1))) where
  run pins s σ H R I h := wpAny_mono (hl.run pins s σ H _ I h) (fun v s1 ⟨x, H1, I1, rel, q⟩ => iter_any I1 rel q) fun _ _ z => z
end
end
section
variable {X : Cx} {fx : Fx} {m : Type → Type} [Mo m] {G : List Sl} {tg l c a b : Expr} {x y : m D} {t : m Bool} {pos : Pos} {kk : Nat} [DL.TC]
def itD : D → Option (List D)
  | .lst ds => some ds
  | .tup ds => some ds
  | .str s => some (chrs s)
  | .scr is => some (is.map .int)
  | _ => none
theorem yl_scr {K : PySem.W.Frag} {mg : Str → Option Value} {Hf : Hp} {is : List Int} {a : Addr} (hz : is.length ≤ sizeLine) (h : SqL K Hf a (is.map V.int)) : Yl K mg (Itl K a) Hf (is.map .int) := ⟨by simpa using hz, fun Hf2 H s1 s2 i => by
  have hq : SqL K H a (is.map V.int) := s2.sql (s1.sql h)
  have l : IsL K mg Hf (is.map .int) (is.map V.int) := isL_ints is
  refine ⟨fun d hd => ?_, fun hl => ⟨_, hq, by rw [← l.len]; exact hl⟩⟩
  obtain ⟨v, hv, iv⟩ := l.get hd
  exact ⟨⟨_, v, hq, hv⟩, fun x H' ⟨e, f⟩ => by
    subst e
    have := f _ hq
    rw [hv] at this
    cases this
    exact ⟨Hf2, .refl s2, iv.mono s1⟩⟩⟩
theorem di_any (h : PE X l (tE X.K X.mg fx G x)) : PI X tg l (tI X.K X.mg fx G (do let d ← x; ask (itD d))) := piI (pi_any h) fun σ H Q ⟨Hf, s, h⟩ =>
  (h.bind.mono fun v H1 ⟨d, Hf1, s1, sb, r, h1⟩ => by
    obtain ⟨ds, e, q⟩ := h1.ask
    cases d with
    | lst es =>
      cases e
      obtain ⟨hz, a, vs, rfl, t, il⟩ := r
      exact .inr ⟨a, rfl, .inl ⟨⟨vs, .inl (.inl (h1.1.top _ _ t))⟩, q _ Hf1 H1 (.refl h1.1.top) (yl_list hz t il)⟩⟩
    | tup es =>
      cases e
      obtain ⟨hz, a, vs, rfl, t, il⟩ := r
      exact .inr ⟨a, rfl, .inr ⟨⟨vs, h1.1.top.sqt t⟩, q _ Hf1 H1 (.refl h1.1.top) (yl_tup hz t il)⟩⟩
    | str z =>
      cases e
      exact .inl ⟨_, r.1, q _ Hf1 H1 (.refl h1.1.top) (yl_str z r.2)⟩
    | scr is =>
      cases e
      obtain ⟨hz, a, rfl, t⟩ := r
      exact .inr ⟨a, rfl, .inl ⟨⟨_, h1.1.top.sql t.sq⟩, q _ Hf1 H1 (.refl h1.1.top) (yl_scr hz t.sq)⟩⟩
    | _ => cases e).to
mutual
def imm : D → Bool
  | .non => true
  | .bl _ => true
  | .int _ => true
  | .str _ => true
  | .tup ds => immL ds
  | .ins _ _ ds => immL ds
  | _ => false
def immL : List D → Bool
  | [] => true
  | d :: ds => imm d && immL ds
end
def flatD (d : D) : Option D := if imm d = true then some d else none
section
variable {K : PySem.W.Frag} {mg : Str → Option Value} {H H' : Hp} [DL.TC]
theorem Rd.off {a : Addr} {u : HO} (hh : ∀ a, H' a = H a ∨ ∃ vs, H a = some (.lst vs)) (h : Rd H a u) (hu : ∀ vs, u ≠ .lst vs) : Rd H' a u := by
  rcases h with h | ⟨o, h⟩
  · rcases hh a with e | ⟨vs, e⟩
    · exact .inl (e.trans h)
    · rw [h] at e; cases e; exact absurd rfl (hu vs)
  · rcases hh a with e | ⟨vs, e⟩
    · exact .inr ⟨o, e.trans h⟩
    · rw [h] at e; cases e
mutual
theorem Is.off (hh : ∀ a, H' a = H a ∨ ∃ vs, H a = some (.lst vs)) : ∀ {d : D} {v : V}, imm d = true → Is K mg H d v → Is K mg H' d v
  | .non, _, _, h => h
  | .bl _, _, _, h => h
  | .int _, _, _, h => h
  | .str _, _, _, h => h
  | .tup ds, _, m, h => by
    obtain ⟨z, a, vs, e, t, l⟩ := h
    refine ⟨z, a, vs, e, ?_, IsL.off hh (ds := ds) (by simpa [imm] using m) l⟩
    rcases t with t | t
    · exact .inl (Rd.off hh t fun vs z => by cases z)
    · exact .inr t
  | .ins c ns ds, _, m, h => by
    obtain ⟨a, C, dx, vs, e, q, t, n, l⟩ := h
    refine ⟨a, C, dx, vs, e, q, ?_, n, IsL.off hh (ds := ds) (by simpa [imm] using m) l⟩
    rcases hh a with z | ⟨us, z⟩
    · exact z.trans t
    · rw [t] at z; cases z
  | .lst _, _, m, _ => by simp [imm] at m
  | .dic _ _, _, m, _ => by simp [imm] at m
  | .scr _, _, m, _ => by simp [imm] at m
  | .xc _ _ _ _, _, m, _ => by simp [imm] at m
theorem IsL.off (hh : ∀ a, H' a = H a ∨ ∃ vs, H a = some (.lst vs)) : ∀ {ds : List D} {vs : List V}, immL ds = true → IsL K mg H ds vs → IsL K mg H' ds vs
  | [], _, _, h => h
  | d :: ds, vs, m, h => by
    have m' : imm d = true ∧ immL ds = true := by simpa [immL] using m
    obtain ⟨v, r, e, i, l⟩ := h
    exact ⟨v, r, e, Is.off hh m'.1 i, IsL.off hh m'.2 l⟩
end
end
open Classical in
noncomputable def offH (Hf Hf2 : Hp) : Hp := fun a => if ∃ vs, Hf2 a = some (.lst vs) then Hf a else Hf2 a
theorem offH_or {Hf Hf2 : Hp} (a : Addr) : offH Hf Hf2 a = Hf2 a ∨ ∃ vs, Hf2 a = some (.lst vs) := by
  by_cases c : ∃ vs, Hf2 a = some (.lst vs)
  · exact .inr c
  · exact .inl (if_neg c)
theorem Ste.off {bag : List Addr} {Hf Hf1 H Hf2 H2 : Hp} (sb : Sub Hf Hf1) (nw : ∀ a o, Hf1 a = some o → Hf a = some o ∨ ∃ vs, o = .lst vs) (e : Ste bag Hf1 H Hf2 H2) : Ste bag Hf H (offH Hf Hf2) H2 := by
  have s2 : Sub Hf Hf2 := sb.trans e.sub
  refine ⟨fun a o z => ?_, fun a o z => ?_, e.keep, e.dom, fun a o z => ?_, e.tab⟩
  · unfold offH
    by_cases c : ∃ vs, Hf2 a = some (.lst vs)
    · rw [if_pos c]; exact z
    · rw [if_neg c]; exact s2 a o z
  · unfold offH at z
    by_cases c : ∃ vs, Hf2 a = some (.lst vs)
    · rw [if_pos c] at z; exact e.top a o (s2 a o z)
    · rw [if_neg c] at z; exact e.top a o z
  · unfold offH at z
    by_cases c : ∃ vs, Hf2 a = some (.lst vs)
    · rw [if_pos c] at z; exact .inl z
    · rw [if_neg c] at z
      rcases e.fresh a o z with h | h
      · rcases nw a o h with h | ⟨vs, h⟩
        · exact .inl h
        · exact absurd ⟨vs, h ▸ z⟩ c
      · exact .inr h
theorem Ste.forget {bag : List Addr} {Hf Hf1 H Hf' H' : Hp} (sb : Sub Hf Hf1) (e : Ste bag Hf1 H Hf' H') : Ste bag Hf H Hf H' := ⟨.refl _, (sb.trans e.sub).trans e.top, e.keep, e.dom, fun _ _ q => .inl q, e.tab⟩
theorem dt_thaw {ds : List D} (i : Nat) (h : PT X c (tT X.K X.mg fx (G.set i (.im (.lst ds))) t)) (hG : G[i]? = some (.ow ds) := by rfl) : PT X c (tT X.K X.mg fx G (Mo.noex t)) := ptI h fun σ H Q ⟨Hf, s, st, w⟩ => by
  obtain ⟨Hf', sb, st'⟩ := st.freeze hG
  exact ⟨Hf', s, st', Mo.wp_mono (Mo.wp_noex w) (fun a s' k b Hf2 H2 e bg r => k b Hf H2 (e.forget sb) bg r) fun _ _ f => f.elim⟩
theorem de_thaw {e : Expr} {ds : List D} (i : Nat) (h : PE X e (tE X.K X.mg fx (G.set i (.im (.lst ds))) x)) (hG : G[i]? = some (.ow ds) := by rfl) : PE X e (tE X.K X.mg fx G (do let d ← Mo.noex x; ask (flatD d))) := peI h fun σ H Q ⟨Hf, s, st, w⟩ => by
  obtain ⟨Hf', sb, nw, st'⟩ := st.freeze2 hG
  refine ⟨Hf', s, st', Mo.wp_mono (Mo.wp_noex (Mo.wp_bind w)) (fun a s' k b Hf2 H2 e bg r => ?_) fun _ _ f => f.elim⟩
  have k' := Mo.wp_lift k
  unfold flatD at k'
  by_cases q : imm a = true
  · rw [if_pos q] at k'
    exact k' b (offH Hf Hf2) H2 (e.off sb nw) bg (r.off offH_or q)
  · rw [if_neg q] at k'; exact k'.elim
def negD : D → Option D
  | .int i => some (.int (-i))
  | _ => none
end
section
variable {X : Cx} {fx : Fx} {m : Type → Type} [Mo m] {G : List Sl} {α β : Type} {kk : Nat} {a b : Expr} {rest : List Stmt} {ex : α → List Sl} {exb : β → List Sl} {pos px py pt pt2 : Pos} {n1 n2 : Str} {kt k2 : Nat} [DL.TC]
theorem dss_parFF {x y : m (List D)} {k : List D → List D → m (Fl α β)} (C : Cok X fx kk) (i j : Nat) (ha : PE X a (tF X.K X.mg fx G x)) (hb : PE X b (tF X.K X.mg fx G y)) (hr : ∀ ds es, PSs X rest (tS X.K X.mg fx ((G.set i (.ow ds)).set j (.ow es)) ex exb (k ds es)))
    (hij : i ≠ j := by decide) (hi : X.N[i]? = some n1 := by rfl) (hj : X.N[j]? = some n2 := by rfl) (hx : X.env.scope.names.lookup n1 = some .local := by rfl) (hy : X.env.scope.names.lookup n2 = some .local := by rfl)
    (hw : swappedStores [.Tuple [.Name n1 px, .Name n2 py] kt pt] (.Tuple [a, b] k2 pt2) X.env = pure (some [n1, n2]) := by rfl)
    (hs : swapsWithSole [.Tuple [.Name n1 px, .Name n2 py] kt pt] (.Tuple [a, b] k2 pt2) pos.line X.env = pure false := by rfl)
    (hsa : starEach [a, b] X.env = (false, eval a X.env) :: starEach [b] X.env := by rfl) (hsb : starEach [b] X.env = (false, eval b X.env) :: starEach [] X.env := by rfl) (hg : GxOk fx G := by first | exact True.intro | repeat' (first | exact True.intro | exact Or.inl rfl | exact Or.inr rfl | refine And.intro ?_ ?_)) :
    PSs X (.Assign [.Tuple [.Name n1 px, .Name n2 py] kt pt] (.Tuple [a, b] k2 pt2) pos :: rest) (tS X.K X.mg fx G ex exb (do let ds ← x; let es ← y; k ds es)) :=
  pssI (pss_cons (ps_par C.calm C.nd hi hj hij hx hy (pa_cons ha (pa_cons hb pa_nil hsb) hsa) hw hs) (pss_ex (ι := List D × List D) fun r => hr r.1 r.2)) fun D σ H ⟨Hf, s, h⟩ =>
  ⟨Hf, s, h.1, Mo.wp_mono (Mo.wp_bind h.2) (fun ds s1 w p vs Hf1 H1 e bg hp hf1 hn l hz => by
    have st1 := h.1.step e bg
    have n0 := h.1.new0 hn
    refine ⟨Hf1, s1, st1, Mo.wp_mono (Mo.wp_bind w) (fun es s2 w2 p2 vs2 Hf2 H2 e2 bg2 hp2 hf2 hn2 l2 hz2 => ?_) fun e s' k => exs_ex hg k⟩
    have st2 := st1.step e2 bg2
    have n2 := st1.new0 hn2
    have hpp : H2 p = some (.lst vs) := e2.keep _ _ hp n0.2.1 nofun
    have hff : Hf2 p = none := e2.stayNone hf1 (by rw [hp]; simp)
    have ne : p ≠ p2 := fun z => by rw [z, hn2] at hp; cases hp
    have st3 := st2.setOw (i := i) (fun j q e1 x ex ox z => h.1.owNe hn j q e1 x ex ox z) hpp hff n0.1 n0.2.1 (l.mono e2.sub) hz
    refine ⟨.ref p, .ref p2, rfl, (ds, es), Hf2, s2, st3.setOw (i := j) (fun j' q e1 x ex ox z => ?_) hp2 hf2 n2.1 n2.2.1 l2 hz2, Mo.wp_mono w2 (fun f s2 h2 => h2.up (e.sub.trans e2.sub)) fun e s' k => k⟩
    by_cases c : i = j'
    · subst c
      have hi' : i < σ.length := by
        have := (List.getElem?_eq_some_iff.mp ex).1
        rw [h.1.len]
        simpa using this
      rw [List.getElem?_set_self hi'] at e1
      cases e1
      exact ne z
    · rw [List.getElem?_set_ne c] at e1 ex
      exact st1.owNe hn2 j' q e1 x ex ox z) fun e s' k => exs_ex hg k⟩
theorem dss_parEE {x y : m D} {k : D → D → m (Fl α β)} (C : Cok X fx kk) (i j : Nat) (ha : PE X a (tE X.K X.mg fx G x)) (hb : PE X b (tE X.K X.mg fx G y)) (hr : ∀ d e, PSs X rest (tS X.K X.mg fx ((G.set i (.im d)).set j (.im e)) ex exb (k d e)))
    (hij : i ≠ j := by decide) (hi : X.N[i]? = some n1 := by rfl) (hj : X.N[j]? = some n2 := by rfl) (hx : X.env.scope.names.lookup n1 = some .local := by rfl) (hy : X.env.scope.names.lookup n2 = some .local := by rfl)
    (hw : swappedStores [.Tuple [.Name n1 px, .Name n2 py] kt pt] (.Tuple [a, b] k2 pt2) X.env = pure (some [n1, n2]) := by rfl)
    (hs : swapsWithSole [.Tuple [.Name n1 px, .Name n2 py] kt pt] (.Tuple [a, b] k2 pt2) pos.line X.env = pure false := by rfl)
    (hsa : starEach [a, b] X.env = (false, eval a X.env) :: starEach [b] X.env := by rfl) (hsb : starEach [b] X.env = (false, eval b X.env) :: starEach [] X.env := by rfl) (hg : GxOk fx G := by first | exact True.intro | repeat' (first | exact True.intro | exact Or.inl rfl | exact Or.inr rfl | refine And.intro ?_ ?_)) :
    PSs X (.Assign [.Tuple [.Name n1 px, .Name n2 py] kt pt] (.Tuple [a, b] k2 pt2) pos :: rest) (tS X.K X.mg fx G ex exb (do let d ← x; let e ← y; k d e)) :=
  pssI (pss_cons (ps_par C.calm C.nd hi hj hij hx hy (pa_cons ha (pa_cons hb pa_nil hsb) hsa) hw hs) (pss_ex (ι := D × D) fun r => hr r.1 r.2)) fun De σ H ⟨Hf, s, h⟩ =>
    ((h.bind hg).mono fun v H1 ⟨d, Hf1, s1, sb, r, h1⟩ => ((h1.bind hg).mono fun v2 H2 ⟨e, Hf2, s2, sb2, r2, h2⟩ => ⟨v, v2, rfl, (d, e), Hf2, s2, (h2.1.set (r.mono sb2)).set r2, h2.2⟩).to).to
end
end DL
namespace DL
open PySem L2
theorem hu65 {k : Nat} {A : Around} (r : Room k A) : A.units + 65 < cLine := by have := r.un; omega
def GlobIs (K : PySem.W.Frag) (mg : Str → Option Value) (n : Str) (d : D) : Prop := ∃ u v, mg n = some u ∧ RelV v u ∧ Is K mg (fun _ => none) d v
theorem de_globI [DL.TC] {X : Cx} {fx : Fx} {m : Type → Type} [Mo m] {G : List Sl} {n : Str} {d : D} {pos : Pos} (hg : Gl X n) (h : GlobIs X.K X.mg n d) (hd : (n == ("__debug__" : Str)) = false := by decide) : PE X (.Name n pos) (tE X.K X.mg fx G (pure d : m D)) := by
  obtain ⟨u, v, hm, r, i⟩ := h
  exact de_glob hg hm r i hd
theorem globS {K : PySem.W.Frag} {mg : Str → Option Value} {n : Str} {t : Str} {tk : Tok} {l : List Nat} (h : mg n = some (.str t tk)) (ht : t = ⟨l.toArray⟩) (hl : l.length ≤ 1000) : GlobIs K mg n (.str l) :=
  ⟨_, .str t, h, ⟨tk, rfl⟩, by rw [Is]; exact ⟨by rw [ht], Nat.le_of_lt (small1000 hl)⟩⟩
theorem globI [DL.TC] {K : PySem.W.Frag} {mg : Str → Option Value} {n : Str} {i : Int} {tk : Tok} (h : mg n = some (.int i tk)) : GlobIs K mg n (.int i) := ⟨_, .int i, h, ⟨tk, rfl⟩, is_int _⟩
section
variable {X : Cx} [DL.TC]
def powC : D → D → Option D
  | .int i, .int j => if 0 ≤ j ∧ j ≤ 100 ∧ i.natAbs < 2 ^ 64 then some (.int (i ^ j.toNat)) else none
  | _, _ => none
theorem od_powC : OpR X (binaryOp .Pow) (rD2 X.K X.mg powC) := by
  intro pins s σ H x y v u Q I rx ry h
  obtain ⟨Hf, dx, dy, d, sb, ix, iy, e, q⟩ := h
  unfold powC at e
  split at e
  · split at e
    · rename_i hc
      cases e; cases ix; cases iy
      exact op_pow pins s σ H _ _ v u Q I rx ry ⟨_, _, rfl, rfl, ⟨hc.1, by omega, hc.2.2⟩, q _ Hf H (.refl sb) (is_int _)⟩
    · cases e
  · cases e
end
def apR1 (f : D → R D) : List D → R D
  | [a] => f a
  | _ => .stuck
def apR2 (f : D → D → R D) : List D → R D
  | [a, b] => f a b
  | _ => .stuck
def apR3 (f : D → D → D → R D) : List D → R D
  | [a, b, c] => f a b c
  | _ => .stuck
def apR4 (f : D → D → D → D → R D) : List D → R D
  | [a, b, c, d] => f a b c d
  | _ => .stuck
def apR5 (f : D → D → D → D → D → R D) : List D → R D
  | [a, b, c, d, e] => f a b c d e
  | _ => .stuck
def apM1 (f : D → M D) : List D → M D
  | [a] => f a
  | _ => fun _ => .stuck
def apM2 (f : D → D → M D) : List D → M D
  | [a, b] => f a b
  | _ => fun _ => .stuck
theorem apR1_len (f) : ∀ ds : List D, apR1 f ds ≠ .stuck → ds.length = 1 := fun ds h => by
  unfold apR1 at h
  split at h <;> first | rfl | exact absurd rfl h
theorem apR2_len (f) : ∀ ds : List D, apR2 f ds ≠ .stuck → ds.length = 2 := fun ds h => by
  unfold apR2 at h
  split at h <;> first | rfl | exact absurd rfl h
theorem apR5_len (f) : ∀ ds : List D, apR5 f ds ≠ .stuck → ds.length = 5 := fun ds h => by
  unfold apR5 at h
  split at h <;> first | rfl | exact absurd rfl h
theorem apM1_len (f) : ∀ (ds : List D) s, apM1 f ds s ≠ .stuck → ds.length = 1 := fun ds s h => by
  rcases ds with _ | ⟨a, ds⟩
  · exact absurd rfl h
  · rcases ds with _ | ⟨_, ds⟩
    · rfl
    · exact absurd rfl h
theorem apM2_len (f) : ∀ (ds : List D) s, apM2 f ds s ≠ .stuck → ds.length = 2 := fun ds s h => by
  rcases ds with _ | ⟨a, ds⟩
  · exact absurd rfl h
  · rcases ds with _ | ⟨_, ds⟩
    · exact absurd rfl h
    · rcases ds with _ | ⟨_, ds⟩
      · rfl
      · exact absurd rfl h
end DL
namespace PySem
namespace OwnX
open PySem.W PySem.Calls PyProof.Rows PySem.HandSPX Builtin Builtin.ObjectAttr
theorem XB.base : ∀ b : XB, ExcBaseFacts b.nm b.nw b.it b.tail
  | .ve => F.excBase_ValueError
  | .le => F.excBase_LookupError
  | .oe => F.excBase_OverflowError
  | .re => F.excBase_RuntimeError
theorem XB.pass : ∀ (b : XB) (self : Value), refuseLoop self "__setattr__" b.tail = pure ()
  | .ve, self => F.store_ValueError.passes self
  | .le, self => F.store_LookupError.passes self
  | .oe, self => F.store_OverflowError.passes self
  | .re, self => F.store_RuntimeError.passes self
theorem overB_ind {b : XB} {P : List Value → Prop} (h0 : P b.tail) (h1 : ∀ c r, P r → P (.ref c :: r)) : ∀ l, overB b l = true → P l := by
  intro l
  induction l with
  | nil => intro e; rw [beq_iff_eq.mp (show (([] : List Value) == b.tail) = true from e)]; exact h0
  | cons a r ih =>
    cases a with
    | ref c => exact fun e => h1 c r (ih e)
    | _ => intro e; rw [beq_iff_eq.mp (show (_ == b.tail) = true from e)]; exact h0
theorem overB_pass {b : XB} (self : Value) (l : List Value) (h : overB b l = true) : refuseLoop self "__setattr__" l = pure () :=
  overB_ind (P := fun l => refuseLoop self "__setattr__" l = pure ()) (b.pass self) (fun c r q => by rw [refuseLoop_ref]; exact q) l h
theorem overB_has {b : XB} (X : String) (l : List Value) (h : overB b l = true) : l.contains (.type X) = b.tail.contains (.type X) :=
  overB_ind (P := fun l => l.contains (.type X) = b.tail.contains (.type X)) rfl (fun c r q => by rw [List.contains_cons, q]; rfl) l h
theorem overB_obj {b : XB} (l : List Value) (h : overB b l = true) : l.contains (.type "object") = true :=
  (overB_has "object" l h).trans (by cases b <;> decide +kernel)
theorem overB_ne {b : XB} (l : List Value) (h : overB b l = true) : l.isEmpty = false :=
  overB_ind (P := fun l => l.isEmpty = false) (by cases b <;> rfl) (fun _ _ _ => rfl) l h
theorem osaB {b : XB} {prog : Program} {w : World} {A : Around} {R : Result → Shared → Prop} {s : Shared} {K : Frag} {f : Str} {tk : Tok} {v : Value} {x C : Addr} {fv : Array Value} {cd : ClassData}
    (X : K.In s.heap) (hx : s.heap.get? x = some { cls := .ref C, data := .fields fv }) (hcd : clsIn K C = some cd) (hm : overB b cd.mro = true) (hh : cd.hasDict = true) (hn : findIn K (.ref C) f = some none)
    (fin : ∀ h' tk' dx, (∀ a o, a ≠ x → s.heap.get? a = some o → h'.get? a = some o) → s.heap.objs.size ≤ dx → dx ≠ x → h'.get? x = some { cls := .ref C, dict := some dx, data := .fields fv } →
      h'.Ns1 dx (fun y => if y = f then some v else none) → R (.ok (.ret .none)) { s with heap := h', toks := tk' }) :
    codeAny (model prog w) A (.call (.builtin "object.__setattr__") ⟨[.ref x, .str f tk, v], []⟩) R s := by
  obtain ⟨hp, g, dr, t, os⟩ := s
  have I : InstAt hp x { cls := .ref C, data := .fields fv } C none := ⟨hx, rfl, rfl, trivial⟩
  have lt : x < hp.objs.size := Heap.lt_size hx
  have io : Looks (model prog w) hp (isInstance (.ref x) (.type "object")) true :=
    I.type.andThen (looks_mroIn X (by unfold mroIn; rw [hcd, Option.bind_some, if_neg (by rw [overB_ne _ hm]; decide), overB_obj _ hm]))
  have SF := F.store_object
  refine codeAny_call_builtin SF.slot.plain SF.entry
    (@check_slot (model prog w) _ _ ⟨hp, g, dr, t, os⟩ "object.__setattr__" "object" "__setattr__" (.ref x) [.str f tk, v] [] _ SF.kind SF.split io (SF.args (.ref x) (.str f tk) v) ?_)
  have lm : Looks (model prog w) hp (mroOf (.ref C)) cd.mro := (looks_clsIn X hcd).andThen .now
  have ls : Looks (model prog w) hp (storeTaker? none) none := .now
  have lc : Looks (model prog w) hp (classData C) cd := looks_clsIn X hcd
  rw [osa_eq, refuse_eq]
  refine wpAny_bind (wpAny_bind (I.type.at (wpAny_bind (lm.at ?_))))
  rw [overB_pass _ _ hm]
  refine wpAny_pure (wpAny_bind (I.type.at (wpAny_bind ((looks_findIn X hn).at (wpAny_bind (ls.at ?_))))))
  show wpAny _ _ (storeInOwnDict (.ref x) (.ref C) (.str f tk) f v false) _ _ _
  cases cd with
  | mk nm bs mro ns qn hd sn sb ab col del =>
  cases (show hd = true from hh)
  unfold storeInOwnDict ownDictForStores
  repeat (first
    | with_reducible refine store_in_new ?_ ?_
    | with_reducible refine wpAny_loadPart_at hx ?_
    | with_reducible refine lc.at ?_
    | wp_step)
  · exact ⟨_, #[], _, (Heap.get?_update_ne _ _ _ _ (Nat.ne_of_gt lt)).trans (Heap.get?_push_at rfl rfl), rfl, fun e he => absurd he (by simp), fun _ => rfl⟩
  · intro h' tk' hn' hs
    have hx1 : (hp.push { cls := .type "dict", data := .dict #[] }).get? x = some { cls := .ref C, data := .fields fv } := Heap.get?_push_of_some _ hx
    refine fin h' tk' hp.objs.size (fun a o ha ho => ?_) (Nat.le_refl _) (Nat.ne_of_gt lt) ?_ hn'
    · rw [hs.2 a (Nat.ne_of_lt (Heap.lt_size ho)), Heap.get?_update_ne _ _ _ _ ha]
      exact Heap.get?_push_of_some _ ho
    · rw [hs.2 x (Nat.ne_of_lt lt)]
      exact Heap.get?_update_self _ hx1 rfl
end OwnX
end PySem
namespace PySem
namespace OwnX
open PySem.W PySem.Calls PyProof.Rows PySem.HandSPX
theorem lookup_s (f : Str) : (iS f).names.lookup ("self" : Str) = some .local := by
  show List.lookup ("self" : Str) [(PySem.Str.ofString "self", NameKind.local), (f, .local)] = _
  simp [List.lookup]
theorem lookup_f {f : Str} (h : (f == ("self" : Str)) = false) : (iS f).names.lookup f = some .local := by
  have h' : (f == PySem.Str.ofString "self") = false := h
  show List.lookup f [(PySem.Str.ofString "self", NameKind.local), (f, .local)] = _
  simp [List.lookup, h']
theorem kinds2 {f : Str} (h : (f == ("self" : Str)) = false) {u v : Value} : ([(("self" : Str), u), (f, v)].all fun y => (iS f).names.lookup y.1 == some .local || (iS f).names.lookup y.1 == some .cell) = true := by
  simp only [List.all_cons, List.all_nil, lookup_s, lookup_f h]
  rfl
theorem kind_f {f : Str} (h : (f == ("self" : Str)) = false) {name : Str} {L a : Addr} {cd : Value} : (envOfC name (iS f) L a cd).kindOf f = some .local := lookup_f h
theorem kind_s {f : Str} {name : Str} {L a : Addr} {cd : Value} : (envOfC name (iS f) L a cd).kindOf ("self" : Str) = some .local := lookup_s f
theorem binds2_f {f : Str} (h : (f == ("self" : Str)) = false) {name : Str} {L a : Addr} {cd u v : Value} : bindL (envOfC name (iS f) L a cd).kindOf [(("self" : Str), u), (f, v)] (fun _ => none) f = some v := by
  simp [bindL, kind_f h, kind_s]
theorem binds2_s {f : Str} (h : (f == ("self" : Str)) = false) {name : Str} {L a : Addr} {cd u v : Value} : bindL (envOfC name (iS f) L a cd).kindOf [(("self" : Str), u), (f, v)] (fun _ => none) ("self" : Str) = some u := by
  have hne : ¬ (("self" : Str) = f) := fun z => by rw [← z] at h; simp at h
  simp [bindL, kind_f h, kind_s, hne]
structure OwnTxt (K : Frag) (mg : Str → Option Value) (cn f qn : Str) (C fI : Addr) : Prop where
  fs : (f == ("self" : Str)) = false
  fb : (f == ("__debug__" : Str)) = false
  bind : ∀ (doc pm : Value) (an : Option Addr) (cdv ct u v : Value) (p1 p2 q1 q2 q3 q4 : Pos), bindArgs (fnOf "__init__" qn (iA f p1 p2) (iB f q1 q2 q3 q4) (iS f) .none .none doc pm an cdv ct) ⟨[u, v], []⟩ = pure [(("self" : Str), u), (f, v)]
  gC : mg cn = some (.ref C)
  cls : ∃ (b : XB) (nm q : Str) (N : Addr) (bs bm : List Value) (sn : List Str) (sub : List Value) (ab : Bool) (col : Option Bool) (dd : Option Addr) (k0 k1 k2 k3 k5 : Option Value), K.lookup C = some (excClassObj nm q C N bs bm true sn sub ab col dd k0 k1 k2 k3 k5 b.nw) ∧ overB b bm = true
  sa : findIn K (.ref C) "__setattr__" = some (some (.builtin "object.__setattr__"))
  ga : findIn K (.ref C) "__getattribute__" = some (some (.builtin "BaseException.__getattribute__"))
  gg : findIn K (.ref C) "__getattr__" = some none
  noN : findIn K (.ref C) f = some none
  iC : findIn K (.ref C) "__init__" = some (some (.ref fI))
  tC : typeIn K (.ref fI) = some (.type "function")
  kC : keepIn K (.ref C) = true
  exC : subIn K (.ref C) (.type "BaseException") = some true
  tyC : typeIn K (.ref C) = some (.type "type")
  hdC : hasDictIn K C = true
  te : exmOne K (.ref C) (.ref C) = some true
  fn : ∃ (oc : Value) (od : Option Addr) (doc pm : Value) (an : Option Addr) (cdv ct : Value) (osl : Array (Option Value)) (p1 p2 q1 q2 q3 q4 : Pos),
    K.lookup fI = some ⟨oc, od, .func (fnOf "__init__" qn (iA f p1 p2) (iB f q1 q2 q3 q4) (iS f) .none .none doc pm an cdv ct), osl⟩ ∧ codeIn K cdv qn = true
theorem one_size (v : Value) : [v].length ≤ sizeLine := by
  rw [sizeLine_eq]
  exact (by decide : 1 ≤ 16777216)
theorem ldC {M : Model} {s : Shared} {name : Str} {scope : Scope} {L a : Addr} {cd : Value} {m : Str → Option Value} {x : Str} {pos : Pos} {v : Value} {Q : Value → Shared → Prop} {A : Around} {E : Value → Shared → Prop} (hn : s.heap.Ns L m) (hv : m x = some v) (h : Q v s)
    (hk : scope.kind = .function := by rfl) (hl : (envOfC name scope L a cd).kindOf x = some .local := by rfl) (hd : (x == ("__debug__" : Str)) = false := by decide) :
    wpAny M A (eval (.Name x pos) (envOfC name scope L a cd)) Q E s := wpAny_Name (wpAny_loadName_local hk hl hn hv h) hd
structure InitEnd (f : Str) (h h' : Heap) (x C dx t1 : Addr) (v : Value) : Prop where
  keep : ∀ b o, b ≠ x → h.get? b = some o → h'.get? b = some o
  obj : h'.get? x = some { cls := .ref C, dict := some dx, data := .fields #[.ref t1, .none, .none, .none, .bool false, .none] }
  dbig : h.objs.size ≤ dx
  dne : dx ≠ x
  ns : h'.Ns1 dx (fun y => if y = f then some v else none)
structure OwnMade (f : Str) (h h' : Heap) (e C d : Addr) (v : Value) : Prop where
  keep : ∀ b o, h.get? b = some o → h'.get? b = some o
  new : h.objs.size ≤ e
  obj : ∃ oe vs, h'.get? e = some oe ∧ oe.cls = .ref C ∧ oe.dict = some d ∧ oe.data = .fields vs ∧ vs[1]? = some .none ∧ vs[2]? = some .none ∧ 4 < vs.size
  dbig : h.objs.size ≤ d
  dne : d ≠ e
  ns : h'.Ns1 d (fun y => if y = f then some v else none)
section
variable {prog : Program} {w : World} {A : Around} {E : Value → Shared → Prop} {R : Result → Shared → Prop} {s : Shared} {K : Frag} {mg : Str → Option Value} {cn f qn : Str} {C fI : Addr}
theorem low_init (T : OwnTxt K mg cn f qn C fI) {x t0 : Addr} {v : Value} (X : K.In s.heap) (hlim : s.heap.NoLimit) (hx : s.heap.get? x = some (excO C t0)) (hnx : K.lookup x = none) (hroom : A.depth < recursionLimit)
    (hq : ∀ h' tk dx, InitEnd f s.heap h' x C dx t0 v → R (.ok (.ret .none)) { s with heap := h', toks := tk }) :
    codeAny (model prog w) A (.call (.ref fI) ⟨[.ref x, v], []⟩) R s := by
  obtain ⟨oc, od, doc, pm, an, cdv, ct, osl, p1, p2, q1, q2, q3, q4, ho, hcd⟩ := T.fn
  obtain ⟨b, nm, q, N, bs, bm, sn, sub, ab, col, dd, k0, k1, k2, k3, k5, hC, hbm⟩ := T.cls
  have hcl : clsIn K C = some { name := nm, bases := bs, mro := .ref C :: bm, ns := N, qualname := q, hasDict := true, slotNames := sn, subclasses := sub, abstract := ab, collection := col, hasDel := false } := by unfold clsIn; rw [hC] <;> rfl
  refine Att.call_fn (binds := [(("self" : Str), .ref x), (f, v)]) X hlim ho hcd hroom (BindsTo.of_eq (T.bind ..)) (kinds2 T.fs) (fun s₁ IC => ?_) rfl rfl rfl
  obtain ⟨h₁, tk₁, rfl⟩ := IC.toInCall.same
  have k : ∀ b o, s.heap.get? b = some o → h₁.get? b = some o := IC.toInCall.keep
  have hn := IC.toInCall.ns
  have hxL : s.heap.objs.size ≠ x := Nat.ne_of_gt (Heap.lt_size hx)
  have X₁ : K.In h₁ := X.keeps k
  have hx₁ := k _ _ hx
  -- self.by = by
  show wpAny _ _ (execs _ _) _ _ _
  refine wpAny_execs_cons (plainObj_wpAny_Assign_Attribute ?_)
  refine ldC (v := v) hn (binds2_f T.fs) (ldC (v := .ref x) hn (binds2_s T.fs) ?_) rfl (kind_f T.fs) T.fb
  refine set_plain X₁ (ox := excO C t0) (od := none) ⟨hx₁, rfl, rfl, trivial⟩ T.sa ?_
  refine osaB (b := b) X₁ hx₁ hcl (show overB b (.ref C :: bm) = true from hbm) rfl T.noN (fun h₃ tk₃ dx k₃ dn dne hx₃ hn₃ => ?_)
  show wpAny _ _ (execs _ _) _ _ _
  have z : s.heap.objs.size < h₁.objs.size := hn.lt
  exact wpAny_execs_nil (hq h₃ tk₃ dx ⟨fun b o hb e => k₃ b o hb (k b o e), hx₃, Nat.le_of_lt (Nat.lt_of_lt_of_le z dn), dne, hn₃⟩)
theorem low_made (T : OwnTxt K mg cn f qn C fI) {v : Value} (X : K.In s.heap) (hlim : s.heap.NoLimit) (hroom : A.depth + 1 < recursionLimit)
    (hq : ∀ h' tk e d, OwnMade f s.heap h' e C d v → R (.ok (.ret (.ref e))) { s with heap := h', toks := tk }) :
    codeAny (model prog w) A (.call (.ref C) ⟨[v], []⟩) R s := by
  obtain ⟨b, nm, q, N, bs, bm, sn, sub, ab, col, dd, k0, k1, k2, k3, k5, hC, hbm⟩ := T.cls
  obtain ⟨hp, g, dr, tk, os⟩ := s
  have k : ∀ b o, hp.get? b = some o → ((hp.push (kdv_tup [v])).push (excO C hp.objs.size)).get? b = some o := fun b o e => Heap.get?_push_of_some _ (Heap.get?_push_of_some _ e)
  have hget : ((hp.push (kdv_tup [v])).push (excO C hp.objs.size)).get? (hp.objs.size + 1) = some (excO C hp.objs.size) := by heap_get
  have hnx : K.lookup (hp.objs.size + 1) = none := by
    cases e : K.lookup (hp.objs.size + 1) with
    | none => rfl
    | some o =>
      have z : hp.get? (hp.objs.size + 1) = some o := X _ _ e
      exact absurd (Nat.lt_of_succ_lt (Heap.lt_size z)) (Nat.lt_irrefl _)
  refine call_own b.base (fun X => overB_has X bm hbm) (X _ _ hC) (looks_findIn X T.iC) (fun self => bind_fn X self T.tC) (one_size v) ?_
  refine low_init (s := ⟨(hp.push (kdv_tup [v])).push (excO C hp.objs.size), g, dr, tk, os⟩) T (X.keeps k) (hlim.keeps k) hget hnx ?_ fun h' tk' dx ⟨k', hx, dn, dne, hns⟩ => ?_
  · show A.depth + 1 < recursionLimit
    exact hroom
  · have old : ∀ b o, hp.get? b = some o → h'.get? b = some o := fun b o e => k' b o (Nat.ne_of_lt (Nat.lt_succ_of_lt (Heap.lt_size e))) (k b o e)
    have z : hp.objs.size + 1 + 1 ≤ dx := by
      first
        | (simpa only [Heap.size_push] using dn)
        | exact dn
        | (have q := dn; rw [Heap.size_push, Heap.size_push] at q; exact q)
    exact ⟨rfl, hq h' tk' (hp.objs.size + 1) dx ⟨old, Nat.le_succ _, ⟨_, _, hx, rfl, rfl, rfl, rfl, rfl, (by decide : 4 < 6)⟩, Nat.le_trans (Nat.le_trans (Nat.le_succ _) (Nat.le_succ _)) z, dne, hns⟩⟩
end
end OwnX
end PySem
namespace L2
open PySem PySem.Spec PyProof.Rows
theorem relO_low [DL.TC] {v : V} {v' : Value} (r : RelV v v') (g f : Str) : RelO (List.lookup f [(g, v)]) (if f = g then some v' else none) := by
  by_cases hw : f = g
  · subst hw
    rw [if_pos rfl]
    have q : List.lookup f [(f, v)] = some v := by simp [List.lookup]
    rw [q]
    exact r
  · rw [if_neg hw]
    have qw : (f == g) = false := by simpa using hw
    have q2 : List.lookup f [(g, v)] = none := by simp [List.lookup, qw]
    rw [q2]
    trivial
section
variable {X : Cx} {cn f qn : Str} {C fI : Addr} [DL.TC]
def tMkLow (f : Str) (C : Addr) (ta : TA) : St → Hp → XK → Prop := fun σ H Q => ta σ H fun vs H1 => ∃ v, vs = [v] ∧ ∀ d, H1 d = none → Q (.ref C) (some d) (upd H1 d (.xd [(f, v)]))
theorem pmk_low {a : Expr} {ta : TA} {p pos : Pos} {k : Nat} (T : PySem.OwnX.OwnTxt X.K X.mg cn f qn C fI) (hr : Room k X.A) (ha : PA X [a] ta) (hdb : (cn == ("__debug__" : Str)) = false := by decide) (hg : Gl X cn := by rfl)
    (he : starEach (a :: []) X.env = (false, eval a X.env) :: starEach [] X.env := by rfl) (hpl : (backTo pos (starEach [] X.env)).any (·.1) = false := by rfl) :
    L2N.PMk X (.Call (.Name cn p) [a] [] pos) (tMkLow f C ta) := by
  intro pins s σ H Q I h
  refine wpAny_Call_Name_kw (ld_glob I hg T.gC ?_ (hd := hdb))
  refine PySem.W.callWith_K (h₀ := X.base) I.ok.mod.kin T.kC (thn (ha.run pos pins s σ H _ I h) fun us s1 hh => ?_) he hpl
  obtain ⟨vs, H1, I1, r1, v, ev, q1⟩ := hh
  subst ev
  refine ⟨I1.kIn, ?_⟩
  cases r1 with
  | cons rv rn =>
    rename_i v' us'
    cases rn
    show wpAny _ _ (call (.ref C) [v']) _ _ _
    have hlim := I1.nolimit
    obtain ⟨hp, g, dr, tk, os⟩ := s1
    refine wpAny_call (PySem.OwnX.low_made T I1.kIn hlim (by have := hr.dp; omega) fun h' tk' e d M => ?_)
    show L2N.MkP X pins σ Q (.ref e) ⟨h', g, dr, tk', os⟩
    obtain ⟨oe, fv, hoe, hc, hd, hdat, h1, h2, h4⟩ := M.obj
    have hns := M.ns
    obtain ⟨G', g1, g2⟩ := restrict h' fun b => decide (b ≠ e)
    have gk : ∀ b, b ≠ e → G'.get? b = h'.get? b := fun b hb => g1 b (decide_eq_true hb)
    have ge : G'.get? e = none := g2 e (by simp)
    have old : ∀ b o, hp.get? b = some o → G'.get? b = some o := fun b o q => (gk b (Nat.ne_of_lt (Nat.lt_of_lt_of_le (Heap.lt_size q) M.new))).trans (M.keep b o q)
    have ob : ObjOk X.prog X.w (upd H1 d (.xd [(f, v)])) G' d (.xd [(f, v)]) :=
      ⟨_, hns.at (fun o q => (gk d M.dne).trans q), fun f => relO_low rv _ f⟩
    have J : Inv X pins σ (upd H1 d (.xd [(f, v)])) ⟨G', g, dr, tk', os⟩ := I1.laid (t' := tk') old M.dbig ob
    refine ⟨e, oe, fv, ⟨G', g, dr, tk', os⟩, _, .ref C, some d, rfl, J, fun b o q => ?_, ge, hoe, ⟨hc, hd, fun vs z => by rw [hdat] at z; cases z; exact h2⟩, hdat, h1, ?_, rfl, I1.bare, raises_own T.exC T.tyC, q1 d (I1.hok.fresh M.dbig)⟩
    · by_cases hb : b = e
      · have q' : G'.get? b = some o := q
        rw [hb, ge] at q'; cases q'
      · exact (gk b hb).symm.trans q
    · rw [upd_ne (Ne.symm M.dne)]
      exact I1.hok.fresh M.new
def tRaiseLow (f : Str) (C : Addr) (W : WX) (ta : TA) : TS := fun _ σ H => tMkLow f C ta σ H fun cls d H' => W cls d σ H'
theorem ps_raiseLow {a : Expr} {ta : TA} {W : WX} {p pos pos2 : Pos} {k : Nat} (hc : X.calm = true) (T : PySem.OwnX.OwnTxt X.K X.mg cn f qn C fI) (hr : Room k X.A) (tk : L2N.Takes X W) (ha : PA X [a] ta) (hdb : (cn == ("__debug__" : Str)) = false := by decide) (hg : Gl X cn := by rfl)
    (he : starEach (a :: []) X.env = (false, eval a X.env) :: starEach [] X.env := by rfl) (hpl : (backTo pos (starEach [] X.env)).any (·.1) = false := by rfl) :
    PS X (.Raise (some (.Call (.Name cn p) [a] [] pos)) none pos2) (tRaiseLow f C W ta) := L2N.ps_raise hc tk (pmk_low T hr ha hdb hg he hpl)
end
end L2
namespace DL
open PySem PySem.Spec PyProof.Rows L2 HT
section
variable {prog : Program} {w : World} {A : Around} {E : Value → Shared → Prop} {s : Shared}
theorem applied_rev {sl : Addr} {t : Tok} {n : Nat} {Q : Int × Int × Nat → Shared → Prop} (hs : s.heap.IsSliceOf sl .none .none (.int (-1) t)) (h : Q ((n : Int) - 1, -1, n) s) : wpAny (model prog w) A (Builtin.Slice.sliceApplied (.ref sl) (pure (n : Int))) Q E s := by
  obtain ⟨os, hos, hcs, hds⟩ := id hs
  unfold Builtin.Slice.sliceApplied Builtin.Slice.sliceFields
  refine wpAny_bind (wpAny_bind (wpAny_field hos hds (x := .none) rfl (wpAny_bind (wpAny_field hos hds (x := .none) rfl (wpAny_bind (wpAny_field hos hds (x := .int (-1) t) rfl (wpAny_pure ?_)))))))
  refine wpAny_bind (slicePart_ (.int (-1) t) ?_)
  show wpAny _ _ (if ((-1 : Int) == 0) = true then _ else _) _ _ s
  rw [if_neg (by decide)]
  refine wpAny_bind (slicePart_ .none (wpAny_bind (slicePart_ .none (wpAny_bind (wpAny_pure ?_)))))
  have e1 : Builtin.Slice.sliceAdjust none none (-1) (n : Int) = ((n : Int) - 1, -1) := by
    unfold Builtin.Slice.sliceAdjust
    simp
  have e2 : Builtin.Slice.slicePlaces ((n : Int) - 1) (-1) (-1) = n := by
    unfold Builtin.Slice.slicePlaces
    simp
    omega
  show wpAny _ _ (match Builtin.Slice.sliceAdjust none none (-1) (n : Int) with | (lo, hi) => pure (lo, (-1 : Int), Builtin.Slice.slicePlaces lo hi (-1))) _ _ s
  rw [e1]
  show wpAny _ _ (pure ((n : Int) - 1, (-1 : Int), Builtin.Slice.slicePlaces ((n : Int) - 1) (-1) (-1))) _ _ s
  rw [e2]
  exact wpAny_pure h
theorem pick_rev_to (xs : Array Value) : ∀ k, k ≤ xs.size → (List.range k).filterMap (fun (m : Nat) => xs[(((xs.size : Int) - 1) + (m : Int) * (-1)).toNat]?) = xs.toList.reverse.take k
  | 0, _ => rfl
  | k + 1, h => by
    rw [List.range_succ, List.filterMap_append, pick_rev_to xs k (by omega), List.take_succ]
    congr 1
    have e : (((xs.size : Int) - 1) + (k : Int) * (-1)).toNat = xs.toList.length - 1 - k := by rw [Array.length_toList]; omega
    rw [List.getElem?_reverse (by rw [Array.length_toList]; omega)]
    simp only [List.filterMap_cons, List.filterMap_nil, e]
    rw [← Array.getElem?_toList]
    cases xs.toList[xs.toList.length - 1 - k]? <;> rfl
theorem pick_rev (xs : Array Value) : ((List.range xs.size).filterMap fun (m : Nat) => xs[(((xs.size : Int) - 1) + (m : Int) * (-1)).toNat]?).toArray = xs.toList.reverse.toArray := by
  rw [pick_rev_to xs xs.size (Nat.le_refl _), List.take_of_length_le (by simp)]
theorem getItem_tuple_rev {tp sl : Addr} {items : Array Value} {t : Tok} {Q : Value → Shared → Prop} (ht : IsTup s.heap tp items) (hs : s.heap.IsSliceOf sl .none .none (.int (-1) t))
    (h : Q (.ref s.heap.objs.size) { s with heap := s.heap.push { cls := .type "tuple", data := .seq items.toList.reverse.toArray } }) (hsz : items.size ≤ sizeLine) : wpAny (model prog w) A (getItem (.ref tp) (.ref sl)) Q E s := by
  have hk : sizeOk (.seq items.toList.reverse.toArray) := by
    show items.toList.reverse.toArray.size ≤ sizeLine
    rw [List.size_toArray, List.length_reverse, Array.length_toList]
    exact hsz
  obtain ⟨os, hos, hcs, hds⟩ := id hs
  have hTs : s.TypeIs (.ref sl) "slice" := ⟨os, hos, hcs⟩
  unfold getItem
  try with_reducible refine wpAny_holding ?_
  first | refine wpAny_bind (wpAny_pure ?_) | skip
  refine wpAny_bind (wpAny_sequenceKey ht.typeIs (by decide) ?_)
  refine wpAny_bind (wpAny_callSpecial?_slot (name := Str.ofString "__getitem__") ht.typeIs PyProof.Rows.slot_tuple_getitem
    (wpAny_call_entry PyProof.Rows.slot_tuple_getitem ht.typeIs entry_tuple_getitem ?_ (args_tuple_getitem _ _)))
  show wpAny _ _ (Builtin.Tuple.tupleItemsOf (.ref tp) >>= _) _ _ s
  refine wpAny_bind (tupleItemsOf_ ht ?_)
  refine wpAny_bind (wpAny_typeOf hTs ?_)
  rw [if_pos (by decide)]
  refine wpAny_bind (applied_rev hs ?_)
  have hno : ¬ ((((items.size : Int) - 1) == 0 && (-1 : Int) == 1 && items.size == items.size) = true) := by simp
  show wpAny _ _ (if ((((items.size : Int) - 1) == 0 && (-1 : Int) == 1 && items.size == items.size) = true) then _ else _) _ _ s
  rw [if_neg hno, pick_rev]
  first
    | exact wpAny_bind (m := Builtin.Tuple.tupleExact _) (wpAny_newObj_type (wpAny_pure ⟨_, rfl, wpAny_pure h⟩) hk)
    | exact wpAny_bind (m := Builtin.Tuple.tupleExact _) (wpAny_newObj_type (wpAny_bind (wpAny_pure (wpAny_pure ⟨_, rfl, wpAny_pure h⟩))) hk)
    | exact wpAny_bind (wpAny_bind (m := Builtin.Tuple.tupleExact _) (wpAny_newObj_type (wpAny_pure (wpAny_pure ⟨_, rfl, wpAny_pure h⟩)) hk))
    | exact wpAny_bind (wpAny_bind (m := Builtin.Tuple.tupleExact _) (wpAny_newObj_type (wpAny_pure ⟨_, rfl, wpAny_pure h⟩) hk))
end
section
variable {X : Cx} [DL.TC]
section
variable {X : Cx} [DL.TC]
/-- what reading a value backwards gives, by values; the slice object is made already and lies at sl -/
def BackR (X : Cx) (r : V → Hp → VK → Prop) : Prop :=
  ∀ {pins : List (Addr × Obj)} {s : Shared} {σ : L2.St} {H : Hp} {x : V} {v : Value} {sl : Addr} {t : Tok} {Q : VK}, L2.Inv X pins σ H s → RelV x v → s.heap.IsSliceOf sl .none .none (.int (-1) t) → r x H Q →
    ∃ (T : String) (id : String), s.TypeIs v T ∧ typeLookup (.type T) "__getitem__" = pure (some (.builtin id)) ∧ wpAny (model X.prog X.w) X.A (getItem v (.ref sl)) (EP X pins σ Q) X.xe s
/-- the slice object of [::-1] comes to lie somewhere, and nothing else is seen of it -/
theorem slice_back {k : Nat} {p1 p2 p3 : Pos} {pins : List (Addr × Obj)} {s : Shared} {σ : L2.St} {H : Hp} {Q : Value → Shared → Prop} (I : L2.Inv X pins σ H s)
    (h : ∀ (t : Tok) (sl : Addr) (s' : Shared), L2.Inv X pins σ H s' → s'.heap.IsSliceOf sl .none .none (.int (-1) t) → Q (.ref sl) s') :
    wpAny (model X.prog X.w) X.A (eval (.Slice none none (some (.UnaryOp .USub (.Constant (.int 1) k p1) p2)) p3) X.env) Q X.xe s := by
  apply wpAny_Slice
  simp only [evalPart_none, evalPart_some]
  have minus : PE X (.UnaryOp .USub (.Constant (.int 1) k p1) p2) _ := pe_un un_neg pe_int
  refine wpAny_pure (wpAny_pure (wpAny_mono (minus.run pins s σ H (fun x H' => x = .int (-1) ∧ H' = H) I ⟨1, rfl, rfl, rfl⟩) (fun v s' got => ?_) fun _ _ z => z))
  obtain ⟨x, H', I', rel, rfl, rfl⟩ := got
  obtain ⟨t, rfl⟩ := rel
  exact h t _ _ (I'.kept (t' := s'.toks) fun b o e => Heap.get?_push_of_some _ e) (Heap.IsSliceOf.new ..)
/-- e[::-1], by what reading its value backwards gives -/
theorem pe_back {e : Expr} {te : TE} {r : V → Hp → VK → Prop} {k : Nat} {p1 p2 p3 pos : Pos} (hr : BackR X r) (he : PE X e te) :
    PE X (.Subscript e (.Slice none none (some (.UnaryOp .USub (.Constant (.int 1) k p1) p2)) p3) pos) (fun σ H Q => te σ H fun x H1 => r x H1 Q) :=
  ⟨fun pins s σ H Q I h => Subscript_ (wpAny_mono (he.run pins s σ H _ I h) (fun v _ ⟨_, _, I1, rx, q⟩ => slice_back I1 fun _ sl _ I2 at_ =>
    let ⟨_, _, ty, lk, got⟩ := hr I2 rx at_ q
    tail_any (ops := [v, .ref sl]) ty lk got (by with_unfolding_all rfl)) fun _ _ z => z)⟩
def rBackL (K : PySem.W.Frag) : V → Hp → VK → Prop := fun x H Q => ∃ a xs, x = .ref a ∧ SqL K H a xs ∧ ∀ p, H p = none → Q (.ref p) (upd H p (.lst xs.reverse))
def rBackT (K : PySem.W.Frag) : V → Hp → VK → Prop := fun x H Q => ∃ a xs, x = .ref a ∧ SqT K H a xs ∧ ∀ p, H p = none → Q (.ref p) (upd H p (.tup xs.reverse))
theorem back_list : BackR X (rBackL X.K) := fun {pins s σ H x v sl t Q} I rx at_ got => by
  obtain ⟨a, xs, rfl, seq, q⟩ := got
  cases rx
  obtain ⟨its, vals, lies, le⟩ := I.list seq
  have le' : its.toArray.size ≤ sizeLine := by have := vals.length; rw [List.size_toArray]; omega
  refine ⟨"list", _, lies.isList.typeIs, PySem.slot_list_getitem.lookup, wpAny_getItem_list_slice lies.isList at_ .none .none (.int _ _) nofun ?_ le'⟩
  rw [PySem.W.krv_pick]
  exact ⟨.ref _, _, I.laid (t' := s.toks) (o := .lst xs.reverse) (fun b o e => Heap.get?_push_of_some _ e) (Nat.le_refl _) ⟨by rwa [List.length_reverse], _, 0, vals.reverse, Heap.get?_push_size _ rfl⟩, rfl, q _ (I.hok.fresh (Nat.le_refl _))⟩
theorem back_tup : BackR X (rBackT X.K) := fun {pins s σ H x v sl t Q} I rx at_ got => by
  obtain ⟨a, xs, rfl, seq, q⟩ := got
  cases rx
  obtain ⟨its, vals, lies, le⟩ := I.tuple seq
  have le' : its.toArray.size ≤ sizeLine := by have := vals.length; rw [List.size_toArray]; omega
  have fits : xs.reverse.length ≤ sizeLine := by have := vals.length; rw [List.length_reverse]; rw [List.size_toArray] at le'; omega
  have pair : IsTup s.heap a its.toArray := lies
  exact ⟨"tuple", _, pair.typeIs, PyProof.Rows.slot_tuple_getitem.lookup, getItem_tuple_rev pair at_ ⟨.ref _, _, I.laid (t' := s.toks) (o := .tup xs.reverse) (fun b o e => Heap.get?_push_of_some _ e) (Nat.le_refl _)
    ⟨fits, _, vals.reverse, _, Heap.get?_push_size _ rfl, rfl, _, rfl⟩, rfl, q _ (I.hok.fresh (Nat.le_refl _))⟩ le'⟩
/-- x[::-1], a list or a tuple -/
theorem pe_rev {e : Expr} {te : TE} {k : Nat} {p1 p2 p3 pos : Pos} (he : PE X e te) : PE X (.Subscript e (.Slice none none (some (.UnaryOp .USub (.Constant (.int 1) k p1) p2)) p3) pos)
    (fun σ H Q => te σ H fun x H1 => ∃ a xs, x = .ref a ∧ ((SqL X.K H1 a xs ∧ ∀ p, H1 p = none → Q (.ref p) (upd H1 p (.lst xs.reverse))) ∨ (SqT X.K H1 a xs ∧ ∀ p, H1 p = none → Q (.ref p) (upd H1 p (.tup xs.reverse))))) :=
  pe_back (r := fun x H Q => ∃ a xs, x = .ref a ∧ ((SqL X.K H a xs ∧ ∀ p, H p = none → Q (.ref p) (upd H p (.lst xs.reverse))) ∨ (SqT X.K H a xs ∧ ∀ p, H p = none → Q (.ref p) (upd H p (.tup xs.reverse)))))
    (fun I rx at_ ⟨a, xs, e, q⟩ => q.elim (fun ⟨z, q⟩ => back_list I rx at_ ⟨a, xs, e, z, q⟩) fun ⟨z, q⟩ => back_tup I rx at_ ⟨a, xs, e, z, q⟩) he
end
end
section
variable {X : Cx} {fx : Fx} {m : Type → Type} [Mo m] {G : List Sl} {α β : Type} {kk : Nat} {a b e : Expr} {rest : List Stmt} {ex : α → List Sl} {exb : β → List Sl} {pos p1 p2 p3 : Pos} {x : m D} {ys : m (List D)} [DL.TC]
def revD : D → Option D
  | .lst ds => some (.lst ds.reverse)
  | .tup ds => some (.tup ds.reverse)
  | _ => none
theorem de_rev {k : Nat} (he : PE X e (tE X.K X.mg fx G x)) : PE X (.Subscript e (.Slice none none (some (.UnaryOp .USub (.Constant (.int 1) k p1) p2)) p3) pos) (tE X.K X.mg fx G (do let d ← x; ask (revD d))) :=
  peI (pe_rev he) fun σ H Q ⟨Hf, s, h⟩ =>
  (h.bind.mono fun v H1 ⟨d, Hf1, s1, sb, r, h1⟩ => by
    obtain ⟨e, q0, q⟩ := h1.ask
    cases d with
    | lst ds =>
      cases q0
      obtain ⟨hz, a, vs, rfl, t, l⟩ := r
      refine ⟨a, vs, rfl, .inl ⟨.inl (.inl (h1.1.top _ _ t)), fun p hp => q _ _ _ (.new h1.1.top hp) ⟨by rw [List.length_reverse]; exact hz, p, _, rfl, upd_same, l.reverse.mono (Ste.new (bag := []) h1.1.top hp).sub⟩⟩⟩
    | tup ds =>
      cases q0
      obtain ⟨hz, a, vs, rfl, t, l⟩ := r
      refine ⟨a, vs, rfl, .inr ⟨h1.1.top.sqt t, fun p hp => q _ _ _ (.new h1.1.top hp) ⟨by rw [List.length_reverse]; exact hz, p, _, rfl, .inl (.inl upd_same), l.reverse.mono (Ste.new (bag := []) h1.1.top hp).sub⟩⟩⟩
    | _ => cases q0).to
def zipL : List D → List D → List D
  | x :: xs, y :: ys => .tup [x, y] :: zipL xs ys
  | _, _ => []
def zipD : List D → Option (List D)
  | [.lst xs, .lst ys] => some (zipL xs ys)
  | [.tup xs, .tup ys] => some (zipL xs ys)
  | _ => none
end
end DL
namespace DL
open PySem L2
section
variable {X : Cx} {fx : Fx} {m : Type → Type} [Mo m] {G : List Sl} {α β : Type} {kk : Nat} {a b e c : Expr} {es : List Expr} {rest : List Stmt} {ex : α → List Sl} {exb : β → List Sl} {x y : m D} {ys : m (List D)} {ds : List D} {n : Str} {np apos cpos pos : Pos} [DL.TC]
def extI (ds : List D) : List D → Option (List D)
  | [.lst es] => if ds.length + es.length ≤ sizeLine then some (ds ++ es) else none
  | _ => none
end
section
variable {X : Cx} {fx : Fx} {m : Type → Type} [Mo m] {G : List Sl} {α β : Type} {kk : Nat} {a : Expr} {rest : List Stmt} {ex : α → List Sl} {exb : β → List Sl} {p pos pos2 : Pos} {cn f qn : Str} {C fI : Addr} [DL.TC]
def raiseX {m : Type → Type} [Mo m] {γ : Type} (c f : Str) (d : D) : m γ := Mo.lift (R.ex ⟨c, f, d⟩)
theorem dss_raise {x : m D} (Ck : Cok X fx kk) (T : PySem.OwnX.OwnTxt X.K X.mg cn f qn C fI) (ha : PE X a (tE X.K X.mg fx G x)) (hdb : (cn == ("__debug__" : Str)) = false := by decide) (hg : Gl X cn := by rfl)
    (he : starEach (a :: []) X.env = (false, eval a X.env) :: starEach [] X.env := by rfl) (hpl : (backTo pos (starEach [] X.env)).any (·.1) = false := by rfl) (hx : GxOk fx G := by first | exact True.intro | repeat' (first | exact True.intro | exact Or.inl rfl | exact Or.inr rfl | refine And.intro ?_ ?_)) :
    PSs X (.Raise (some (.Call (.Name cn p) [a] [] pos)) none pos2 :: rest) (tS X.K X.mg fx G ex exb (do let d ← x; raiseX cn f d : m (Fl α β))) :=
  pssI (pss_cons (ps_raiseLow Ck.calm T Ck.rm Ck.tk.new (pa_cons ha pa_nil he) hdb hg he hpl) pss_never) fun De σ H ⟨Hf, s, h⟩ =>
    ((h.bind hx).mono fun v H1 ⟨d, Hf1, s1, sb, r, h1⟩ => by
      refine ⟨v, rfl, fun p hp => ?_⟩
      have w := Mo.wp_lift h1.2
      have e1 : Ste fx.bag Hf1 H1 (upd Hf1 p (.xd [(f, v)])) (upd H1 p (.xd [(f, v)])) := .new h1.1.top hp
      have nb := (h1.1.new0 hp).2.1
      have st2 := h1.1.step e1 (h1.1.bag.upd nb)
      exact exs_ex hx w _ _ _ _ st2 ⟨C, p, v, T.gC, rfl, rfl, upd_same, r.mono e1.sub⟩).to
end
theorem exm_self {K : PySem.W.Frag} {S : Addr} (h1 : PySem.W.subIn K (.ref S) (.type "BaseException") = some true) (h2 : PySem.W.isClsIn K S = true) (h3 : PySem.W.typeIn K (.ref S) = some (.type "type")) (h4 : PySem.W.subIn K (.ref S) (.ref S) = some true) :
    PySem.W.exmOne K (.ref S) (.ref S) = some true := by
  have e1 : (PySem.W.subIn K (.ref S) (.type "BaseException") == some true) = true := by rw [h1] <;> rfl
  have e2 : ((PySem.W.clsIn K S).isSome && PySem.W.typeIn K (.ref S) == some (.type "type")) = true := by
    have h2' : (PySem.W.clsIn K S).isSome = true := h2
    rw [h2', h3] <;> rfl
  show (if (PySem.W.subIn K (.ref S) (.type "BaseException") == some true) = true then (if ((PySem.W.clsIn K S).isSome && PySem.W.typeIn K (.ref S) == some (.type "type")) = true then PySem.W.subIn K (.ref S) (.ref S) else none) else none) = some true
  rw [if_pos e1, if_pos e2]
  exact h4
theorem kit_subO {K : PySem.W.Frag} {S : Addr} {t : Value} {b : Bool} (h2 : PySem.W.isClsIn K S = true) (h3 : PySem.W.typeIn K (.ref S) = some (.type "type")) (h5 : PySem.W.subIn K (.ref S) (.ref S) = some true) (h4 : PySem.W.subIn K t (.ref S) = some b) : PySem.W.kitOne K t (.ref S) = some b := by
  have e2 : ((PySem.W.clsIn K S).isSome && PySem.W.typeIn K (.ref S) == some (.type "type")) = true := by
    have h2' : (PySem.W.clsIn K S).isSome = true := h2
    rw [h2', h3] <;> rfl
  show (if (t == .ref S) = true then some true else (if ((PySem.W.clsIn K S).isSome && PySem.W.typeIn K (.ref S) == some (.type "type")) = true then PySem.W.subIn K t (.ref S) else none)) = some b
  by_cases c : (t == .ref S) = true
  · have e : t = .ref S := eq_of_beq c
    subst e
    rw [if_pos c, ← h4, h5]
  · rw [if_neg c, if_pos e2]
    exact h4
end DL
namespace DL
open PySem L2
section
variable {K : PySem.W.Frag} {mg : Str → Option Value} {fx : Fx} {Hf H : Hp} {σ : L2.St} {G : List Sl} {s : S} [DL.TC]
theorem StS.empty (st : StS K mg fx Hf H σ G s) {i : Nat} (hi : G[i]? = some .un) : StS K mg fx Hf H (σ.set i none) G s := by
  refine ⟨st.ste, st.bag, st.bagg, st.tb, by simpa using st.len, fun j x e => ?_, fun j k x y p hjk ex ey ox oy e1 e2 => ?_⟩
  · by_cases q : i = j
    · subst q
      rw [hi] at e
      cases e
      trivial
    · rw [List.getElem?_set_ne q]
      exact st.sl j x e
  · have nj : i ≠ j := fun z => by subst z; rw [hi] at ex; cases ex; cases ox
    have nk : i ≠ k := fun z => by subst z; rw [hi] at ey; cases ey; cases oy
    rw [List.getElem?_set_ne nj] at e1
    rw [List.getElem?_set_ne nk] at e2
    exact st.dis j k x y p hjk ex ey ox oy e1 e2
end
end DL
namespace DL
open PySem L2
theorem spl_len (S : List Nat) : ∀ (l : List Nat) (k : Nat) (acc : List Nat), (∀ p ∈ TL.spl S k acc l, p.length ≤ acc.length + l.length) ∧ (TL.spl S k acc l).length ≤ l.length + 1
  | [], k, acc => by
    rw [TL.spl_nil]
    simp
  | c :: r, 0, acc => by
    by_cases h : TL.pre S (c :: r) = true
    · rw [TL.spl_hit h]
      obtain ⟨h1, h2⟩ := spl_len S r (S.length - 1) []
      refine ⟨fun p hp => ?_, by rw [List.length_cons, List.length_cons]; omega⟩
      rcases List.mem_cons.mp hp with rfl | hp
      · omega
      · have := h1 p hp
        rw [List.length_nil] at this
        rw [List.length_cons]
        omega
    · rw [TL.spl_miss (by simpa using h)]
      obtain ⟨h1, h2⟩ := spl_len S r 0 (acc ++ [c])
      refine ⟨fun p hp => ?_, by rw [List.length_cons]; omega⟩
      have := h1 p hp
      rw [List.length_append, List.length_singleton] at this
      rw [List.length_cons]
      omega
  | c :: r, k + 1, acc => by
    have e : TL.spl S (k + 1) acc (c :: r) = TL.spl S k acc r := rfl
    rw [e]
    obtain ⟨h1, h2⟩ := spl_len S r k acc
    refine ⟨fun p hp => ?_, by rw [List.length_cons]; omega⟩
    have := h1 p hp
    rw [List.length_cons]
    omega
def splitD (a b : D) : Option (List D) := match a, b with
  | .str z, .str [c] => if c < 256 ∧ z.length ≤ 1000000 then some ((TL.spl [c] 0 [] z).map .str) else none
  | _, _ => none
theorem isL_strsV {K : PySem.W.Frag} {mg : Str → Option Value} {H : Hp} : ∀ {ps : List (List Nat)}, (∀ p ∈ ps, p.length ≤ sizeLine) → IsL K mg H (ps.map .str) (ps.map fun p => V.str ⟨p.toArray⟩)
  | [], _ => rfl
  | p :: ps, h => ⟨_, _, rfl, ⟨rfl, h p (.head _)⟩, isL_strsV fun q m => h q (.tail _ m)⟩
section
variable {X : Cx} {fx : Fx} {m : Type → Type} [Mo m] {G : List Sl} {o e : Expr} {apos pos : Pos} {x y : m D} [DL.TC]
theorem df_split (ho : PE X o (tE X.K X.mg fx G x)) (he : PE X e (tE X.K X.mg fx G y)) (hs : starEach [e] X.env = [(false, eval e X.env)] := by rfl) (hbase : attributeBase o "split" X.env (eval o X.env) = eval o X.env := by rfl) (hline : (apos.endLine == pos.line) = true := by rfl) :
    PE X (.Call (.Attribute o "split" apos) [e] [] pos) (tF X.K X.mg fx G (do let u ← x; let _ ← ask (strOf u); let v ← y; ask (splitD u v))) := peI (pe_split ho he hs hbase hline) fun σ H Q ⟨Hf, s, st, w⟩ =>
  ⟨Hf, s, st, Mo.wp_mono (Mo.wp_bind w) (fun d1 s1 k v1 Hf1 H1 e1 bg1 r1 => by
    have k' := Mo.wp_lift (Mo.wp_bind k)
    have st1 := st.step e1 bg1
    cases d1 with
    | str z =>
      obtain ⟨rfl, hz1⟩ := r1
      refine ⟨⟨_, rfl⟩, Hf1, s1, st1, Mo.wp_mono (Mo.wp_bind k') (fun d2 s2 k2 v2 Hf2 H2 e2 bg2 r2 => ?_) fun e s' k => k⟩
      have k3 := Mo.wp_lift k2
      cases hsp : splitD (.str z) d2 with
      | none => rw [hsp] at k3; exact k3.elim
      | some ds =>
        rw [hsp] at k3
        unfold splitD at hsp
        split at hsp
        · rename_i z' c hz'
          cases hz'
          split at hsp
          · rename_i hc
            cases hsp
            obtain ⟨rfl, _⟩ := r2
            have hsz : sizeLine = 16777216 := sizeLine_eq
            have hk : (⟨#[c]⟩ : Str).cps.all (· < 256) = true := by simpa using hc.1
            have es := TL.split_spl ⟨z.toArray⟩ ⟨#[c]⟩ (by simp [TL.tl]) (TL.kind_ok hk)
            have es' : Txt.split ⟨z.toArray⟩ ⟨#[c]⟩ = (TL.spl [c] 0 [] z).map fun p => (⟨p.toArray⟩ : Str) := by
              have e3 : (TL.spl (TL.tl ⟨#[c]⟩) 0 [] (TL.tl ⟨z.toArray⟩)) = TL.spl [c] 0 [] z := by simp [TL.tl]
              rw [e3] at es
              rw [← es, List.map_map]
              conv => lhs; rw [← List.map_id (Txt.split ⟨z.toArray⟩ ⟨#[c]⟩)]
              exact List.map_congr_left fun p _ => (TL.mk_tl p).symm
            obtain ⟨h1, h2⟩ := spl_len [c] z 0 []
            refine ⟨⟨z.toArray⟩, ⟨#[c]⟩, rfl, rfl, rfl, by rw [str_len]; omega, fun p hp => ?_⟩
            rw [es', List.map_map]
            have hn : H p = none := by
              cases q : H p with
              | none => rfl
              | some o => exact absurd hp ((e1.trans e2).dom p (by rw [q]; simp))
            have st2 := st1.step e2 bg2
            have n2 := st2.new0 hp
            exact k3 p _ Hf2 _ ((e1.trans e2).upd hn n2.2.2 (.none hp)) (bg2.upd n2.2.1) upd_same n2.2.2 hn (isL_strsV fun q m => by have := h1 q m; simp at this; omega) (by rw [List.length_map]; omega)
          · cases hsp
        · cases hsp
    | _ => exact k'.elim) fun e s' k => k⟩
def strM (g : List Nat → List Nat → D) (a b : D) : Option D := match a, b with
  | .str x, .str y => some (g x y)
  | _, _ => none
end
end DL
namespace DL
open PySem PySem.Spec PyProof.Rows L2
end DL
namespace DL
open PySem L2
end DL
namespace DL
open PySem PySem.Spec PyProof.Rows L2
end DL
namespace DL
open PySem PySem.Spec PyProof.Rows L2
theorem guards_make {A : Around} {C : Addr} {us : List Value} {kw : List (Str × Value)} (h : A.guards = some []) : (A.under (.builtin "type.__call__" ⟨.ref C :: us, kw⟩)).guards = some [] := by
  first | exact h | simp [Around.under, Code.weight, Code.isCreation, Code.isGuard, Code.isCaller, Code.frames, Code.isFrame, guardIds, h]
def FnP (P : Program) (w : World) (K : PySem.W.Frag) (mg : Str → Option Value) (base : Heap) (k : Nat) (f : Addr) (ks : List Str) (sp : Sp) : Prop :=
  ∀ (A : Around) (outer : List Env) (s : Shared) (H : Hp) (us ws : List Value) (vs : List V) (Q : VK) (E : XK), A.guards = some [] → Room k A → Env0 P w K mg base A outer s H → ws.length = ks.length → Vals vs (us ++ ws) → sp vs H Q E →
    codeAny (model P w) A (.call (.ref f) ⟨us, ks.zip ws⟩) (CR (CXm P w mg) outer P w H s Q E) s
section
variable {P : Program} {w : World} {K : PySem.W.Frag} {mg : Str → Option Value} {base : Heap} {j k : Nat} {f : Addr} {fd : FuncData} {ps ks : List Str} {sp sp' : Sp} [DL.TC]
theorem FnP.mono (F : FnP P w K mg base j f ks sp) (h : j ≤ k) : FnP P w K mg base k f ks sp := fun A outer s H us ws vs Q E hg hr => F A outer s H us ws vs Q E hg (hr.mono h)
theorem FnP.imp (F : FnP P w K mg base k f ks sp) (h : ∀ vs H Q E, sp' vs H Q E → sp vs H Q E) : FnP P w K mg base k f ks sp' := fun A outer s H us ws vs Q E hg hr e0 hw r hs => F A outer s H us ws vs Q E hg hr e0 hw r (h _ _ _ _ hs)
theorem FnG.pos (F : FnG P w K mg base k f fd ps sp) (hb : Binds K fd ps []) : FnP P w K mg base k f [] sp := fun A outer s H us ws vs Q E hg hr e0 hw r hs => by
  have e : ws = [] := List.length_eq_zero_iff.mp hw
  subst e
  rw [List.append_nil] at r
  have hl : (us ++ []).length = ps.length := by
    rw [List.append_nil, ← r.length]
    exact F.len _ _ _ _ hs
  have b := hb s us (e0.mod.kin.keeps fun b o e => (e0.bs b o e).1) hl
  rw [List.append_nil] at b
  exact F.run A outer s H ⟨us, []⟩ us vs Q E hg hr e0 b r hs
end
section
variable {X : Cx} {k : Nat} {f C : Addr} {ks : List Str} {sp : Sp} {E : L2.St → XK} {x m : Str} {p pos apos : Pos} {e o : Expr} {es : List Expr} {kws : List Keyword} {ta : TE} {t tk : TA} [DL.TC]
theorem run_P {pins : List (Addr × Obj)} {σ : L2.St} {H : Hp} {s : Shared} {Q : VK} {us ws : List Value} {vs : List V} (F : FnP X.prog X.w X.K X.mg X.base k f ks sp) (hg : X.A.guards = some []) (hr : Room k X.A)
    (hx : PassesAt (CXm X.prog X.w X.mg) X σ (E σ)) (I : L2.Inv X pins σ H s) (hw : ws.length = ks.length) (r : Vals vs (us ++ ws)) (h : sp vs H Q (E σ)) : wpAny (model X.prog X.w) X.A (call (.ref f) us (ks.zip ws)) (EP X pins σ Q) X.xe s :=
  wpAny_call (codeAny_mono (F X.A X.stack s H us ws vs Q (E σ) hg hr I.env0 hw r h) fun r s' hq => by
    have z := ends_call I hx hq
    cases r with
    | error e => exact z
    | ok fl => cases fl <;> first | exact z | exact z.elim)
theorem run_makeP {pins : List (Addr × Obj)} {σ : L2.St} {H : Hp} {s : Shared} {Q : VK} {us ws : List Value} {vs : List V} (M : Mk X.K C f) (F : FnP X.prog X.w X.K X.mg X.base k f ks sp) (hg : X.A.guards = some []) (hr : Room (k + 1) X.A)
    (hx : PassesAt (CXm X.prog X.w X.mg) X σ (E σ)) (I : L2.Inv X pins σ H s) (hw : ws.length = ks.length) (r : Vals vs (us ++ ws))
    (h : ∀ x dx, H x = none → H dx = none → dx ≠ x → sp (.ref x :: vs) (upd (upd H dx (.own x)) x (.ins C dx [])) (fun v H2 => v = .non ∧ Q (.ref x) H2) (E σ)) :
    wpAny (model X.prog X.w) X.A (call (.ref C) us (ks.zip ws)) (EP X pins σ Q) X.xe s := by
  have hq := h (s.heap.objs.size + 1) s.heap.objs.size (I.hok.fresh (Nat.le_succ _)) (I.hok.fresh (Nat.le_refl _)) (Nat.ne_of_lt (Nat.lt_succ_self _))
  have I2 := L2.Inv.made (C := C) I
  have r2 : Vals (V.ref (s.heap.objs.size + 1) :: vs) ((Value.ref (s.heap.objs.size + 1) :: us) ++ ws) := .cons rfl r
  refine wpAny_call (make_map (f := f) I.kIn M.makes M.init (beq_iff_eq.mp M.fn) (codeAny_mono (F _ X.stack _ _ (Value.ref (s.heap.objs.size + 1) :: us) ws _ _ (E σ) (guards_make hg) (hr.make C us (ks.zip ws))
    (I2.env0.make C us (ks.zip ws)) hw r2 hq) fun r s' hq' => ?_))
  cases r with
  | error e => exact hx pins _ _ e s' I2 hq'
  | ok fl =>
    cases fl with
    | ret u =>
      obtain ⟨v, H', I3, rv, ev, q3⟩ := I2.after hq'
      subst ev
      exact ⟨rv, ⟨V.ref (s.heap.objs.size + 1), H', I3, rfl, q3⟩⟩
    | next => exact False.elim hq'
    | brk => exact False.elim hq'
    | cont => exact False.elim hq'
end
theorem evalArgs_kw0 {M : Model} {A : Around} {E : Value → Shared → Prop} {s : Shared} {f : Value} {keywords : List (Option Str × Sem Value)} {Q : Args → Shared → Prop}
    (hall : keywords.all (·.1.isSome) = true)
    (h : wpAny M A (spliced []) (fun vs s₁ => wpAny M A (evalAll (keywords.map (·.2))) (fun ks s₂ => Q ⟨vs, (keywords.filterMap (·.1)).zip ks⟩ s₂) E s₁) E s) :
    wpAny M A (evalArgs f true [] keywords) Q E s := by
  unfold evalArgs
  show wpAny M A (spliced [] >>= _) Q E s
  refine wpAny_bind (wpAny_mono h (fun vs s₁ h₁ => ?_) fun _ _ x => x)
  refine wpAny_bind (wpAny_pure ?_)
  refine wpAny_holding ?_
  simp only [hall, if_true]
  refine wpAny_bind (wpAny_mono h₁ (fun ks s₂ h₂ => ?_) fun _ _ x => x)
  exact wpAny_bind (wpAny_pure (wpAny_pure h₂))
def ArgHd (env : Env) : List Expr → Prop
  | [] => True
  | e :: es => starEach (e :: es) env = (false, eval e env) :: starEach es env
theorem args_run {X : Cx} {es : List Expr} {kws : List Keyword} {ks : List Str} {t tk : TA} {pos : Pos} {f : Value} {first : List Value} {pins : List (Addr × Obj)} {s : Shared} {σ : L2.St} {H : Hp} {Q : VK}
    (hkp : PySem.W.keepIn X.K f = true) (ha : PA X es t) (hk : PK X kws tk) (I : L2.Inv X pins σ H s)
    (h : t σ H fun vs H1 => tk σ H1 fun zs H2 => zs.length = ks.length ∧ ∀ s2 us ws, L2.Inv X pins σ H2 s2 → ws.length = ks.length → Vals (vs ++ zs) (us ++ ws) → wpAny (model X.prog X.w) X.A (call f (first ++ us) (ks.zip ws)) (EP X pins σ Q) X.xe s2)
    (he : ArgHd X.env es := by first | exact True.intro | exact rfl)
    (hks : (backToKw pos (keywordEach kws X.env)).filterMap (·.1) = ks := by rfl)
    (hall : (backToKw pos (keywordEach kws X.env)).all (·.1.isSome) = true := by rfl)
    (hpl : ((backTo pos (starEach es X.env)).any (·.1) || (backToKw pos (keywordEach kws X.env)).any (·.1.isNone)) = false := by rfl) :
    wpAny (model X.prog X.w) X.A (callWith pos f first (backTo pos (starEach es X.env)) (backToKw pos (keywordEach kws X.env))) (EP X pins σ Q) X.xe s := by
  have fin : ∀ {us : List Value} {vs : List V} {H1 : Hp} {s1 : Shared}, L2.Inv X pins σ H1 s1 → Vals vs us → (tk σ H1 fun zs H2 => zs.length = ks.length ∧ ∀ s2 us ws, L2.Inv X pins σ H2 s2 → ws.length = ks.length → Vals (vs ++ zs) (us ++ ws) → wpAny (model X.prog X.w) X.A (call f (first ++ us) (ks.zip ws)) (EP X pins σ Q) X.xe s2) →
      wpAny (model X.prog X.w) X.A (evalAll ((backToKw pos (keywordEach kws X.env)).map (·.2))) (fun ws s₂ => X.K.In s₂.heap ∧ wpAny (model X.prog X.w) X.A (call f (first ++ us) (((backToKw pos (keywordEach kws X.env)).filterMap (·.1)).zip ws)) (EP X pins σ Q) X.xe s₂) X.xe s1 := by
    intro us vs H1 s1 I1 r q
    refine thn (hk.run pos pins s1 σ H1 _ I1 q) fun ws s2 ⟨zs, H2, I2, rz, hz, q2⟩ => ⟨I2.kIn, ?_⟩
    rw [hks]
    exact q2 s2 us ws I2 (rz.length.symm.trans hz) (r.append rz)
  cases es with
  | nil => exact PySem.W.callWith_of hpl (PySem.W.keeps_K hkp) (evalArgs_kw0 hall (thn (ha.run pos pins s σ H _ I h) fun us s1 ⟨vs, H1, I1, r, q⟩ => fin I1 r q))
  | cons e es => exact PySem.W.callWith_of hpl (PySem.W.keeps_K hkp) (evalArgs_kw2 hall (thn (ha.run pos pins s σ H _ I h) fun us s1 ⟨vs, H1, I1, r, q⟩ => fin I1 r q) he)
def runI : R (Fl (List D) Empty) → R (List D)
  | .ok (.nx es) => .ok es
  | .ok (.rt _) => .stuck
  | .ok (.bk b) => b.elim
  | .ok (.ct b) => b.elim
  | .ex e => .ex e
  | .stuck => .stuck
def spI [DL.TC] (K : PySem.W.Frag) (mg : Str → Option Value) (ns : List Str) (L : Nat → Prop) (g : List D → R (List D)) : Sp := fun vs H Q E => L vs.length ∧ ∃ x C dx rest Hf ds, vs = .ref x :: rest ∧ SubT Hf H ∧ Hf x = none ∧ H x = some (.ins C dx []) ∧ Cls K C ∧ (∀ f ∈ ns, NoAttr K C f) ∧ IsL K mg Hf ds rest ∧ (match g ds with
  | .ok es => ∀ us Hf' H', Ste [x] Hf H Hf' H' → H' x = some (.ins C dx (ns.zip us)) → ns.length = us.length → IsL K mg Hf' es us → Hf' x = none → Q .non H'
  | .ex e => ∀ cls dd Hf' H', Ste [x] Hf H Hf' H' → ExIs K mg Hf' H' e cls dd → E cls dd H'
  | .stuck => False)
abbrev fxI (ns : List Str) (x : Addr) (H Hf : Hp) (E : XK) : Fx := ⟨[], H, Hf, fun cls d _ H' => E cls d H', none, false, [x], ns⟩
def GI (N : List Str) (ds : List D) : List Sl := .ob [] [] :: (ds.map Sl.im ++ List.replicate (N.length - ds.length - 1) .un)
def exI (N ns : List Str) (es : List D) : List Sl := .ob ns es :: (N.tail.map fun _ => .un)
section
variable {K : PySem.W.Frag} {mg : Str → Option Value} [DL.TC]
theorem StS.initI {Hf H : Hp} {E : XK} {ds : List D} {vs : List V} {N : List Str} {s : S} {x C dx : Addr} (sb : SubT Hf H) (hf : Hf x = none) {ns : List Str} (hx : H x = some (.ins C dx [])) (c : Cls K C) (na : ∀ f ∈ ns, NoAttr K C f) (l : IsL K mg Hf ds vs) (hn : vs.length + 1 ≤ N.length) :
    StS K mg (fxI ns x H Hf E) Hf H (start N (.ref x :: vs)) (GI N ds) s := by
  refine ⟨.refl sb.s, trivial, fun b m => ?_, sb.t, ?_, fun i y e => ?_, fun i j y z p ne ey ez oy oz e1 e2 => ?_⟩
  · have : b = x := by
      rcases List.mem_append.mp m with m | m
      · simpa using m
      · cases m
    subst this
    exact ⟨hf, by rw [hx]; simp, fun _ => by show H b ≠ none; rw [hx]; simp⟩
  · rw [start_len (by simpa using hn)]
    unfold GI
    have := l.len
    simp
    omega
  · cases i with
    | zero =>
      cases e
      exact ⟨x, C, dx, [], start_at rfl, hx, hf, ⟨by simp, [], hx⟩, by simp, ⟨c, na⟩, rfl, rfl⟩
    | succ i =>
      have e' : (ds.map Sl.im ++ List.replicate (N.length - ds.length - 1) .un)[i]? = some y := e
      have q := slOk_G0 (fx := fxI ns x H Hf E) (H := H) (N := N) l e'
      cases y with
      | un => trivial
      | im d =>
        obtain ⟨v, hv, hi⟩ := q
        refine ⟨v, ?_, hi⟩
        cases h : vs[i]? with
        | none => rw [h] at hv; cases hv
        | some w => rw [h] at hv; cases hv; exact start_at (by simpa using h)
      | ow ds => exact (isOw_im e' rfl).elim
      | od ks ds => exact (isOw_im e' rfl).elim
      | ob ns ds => exact (isOw_im e' rfl).elim
      | bg =>
        obtain ⟨b, r, e, _⟩ := q
        cases e
  · have z1 : i = 0 := by
      cases i with
      | zero => rfl
      | succ i => exact (isOw_im (n := N.length - ds.length - 1) (ds := ds) (i := i) ey oy).elim
    have z2 : j = 0 := by
      cases j with
      | zero => rfl
      | succ j => exact (isOw_im (n := N.length - ds.length - 1) (ds := ds) (i := j) ez oz).elim
    exact ne (z1.trans z2.symm)
end
theorem runI_read [DL.TC] {K : PySem.W.Frag} {mg : Str → Option Value} {ns N : List Str} {o C dx : Addr} {H Hf : Hp} {E : XK} {Q : VK} {body : R (Fl (List D) Empty)} {s : S} (hx : H o = some (.ins C dx []))
    (q : match runI body with
      | .ok es => ∀ us Hf' H', Ste [o] Hf H Hf' H' → H' o = some (.ins C dx (ns.zip us)) → ns.length = us.length → IsL K mg Hf' es us → Hf' o = none → Q .non H'
      | .ex e => ∀ cls dd Hf' H', Ste [o] Hf H Hf' H' → ExIs K mg Hf' H' e cls dd → E cls dd H'
      | .stuck => False) :
    Mo.wp body s (FP K mg (fxI ns o H Hf E) Hf (exI N ns) Empty.elim { nx := fun _ H' => Q .non H', rt := Q }) (EXS K mg (fxI ns o H Hf E)) := by
  show R.wp body _ _ _
  cases body with
  | ok f =>
    cases f with
    | nx es =>
      refine fun Hf' H' σ' _ st => ?_
      obtain ⟨p, C', dx', us, ep, hp', hf', ⟨hm, f0, h00⟩, _, _, hl2, l2⟩ := st.sl 0 _ rfl
      have e1 : p = o := by simpa using hm
      subst e1
      have e2 : C' = C ∧ dx' = dx := by
        have z : H p = some (.ins C' dx' f0) := h00
        rw [hx] at z
        cases z
        exact ⟨rfl, rfl⟩
      obtain ⟨rfl, rfl⟩ := e2
      exact q us Hf' H' st.ste hp' hl2 l2 hf'
    | rt d => exact (show False from q).elim
    | bk b => exact b.elim
    | ct b => exact b.elim
  | ex e => exact fun cls dd σ' Hf' H' st x => q cls dd Hf' H' st.1 x
  | stuck => exact q
section
variable {X : Cx} {fx : Fx} {m : Type → Type} [Mo m] {G : List Sl} {α β : Type} {kk : Nat} {e : Expr} {rest : List Stmt} {ex : α → List Sl} {exb : β → List Sl} {pos pos' : Pos} {x : m D} {k : D → m (Fl α β)} {f n : Str} {np : Pos} {ns : List Str} {ds : List D} [DL.TC]
theorem putF_new {f : Str} {y : V} : ∀ {ns : List Str} {vs : List V}, ns.length = vs.length → f ∉ ns → putF f y (ns.zip vs) = (ns ++ [f]).zip (vs ++ [y])
  | [], [], _, _ => rfl
  | g :: ns, v :: vs, hl, hn => by
    have h1 : g ≠ f := fun z => hn (by simp [z])
    show putF f y ((g, v) :: ns.zip vs) = (g, v) :: (ns ++ [f]).zip (vs ++ [y])
    unfold putF
    rw [if_neg h1, putF_new (by simpa using hl) fun z => hn (List.mem_cons_of_mem _ z)]
  | [], _ :: _, hl, _ => by simp at hl
  | _ :: _, [], hl, _ => by simp at hl
theorem dss_fld (i : Nat) (he : PE X e (tE X.K X.mg fx G x)) (hr : ∀ d, PSs X rest (tS X.K X.mg fx (G.set i (.ob (ns ++ [f]) (ds ++ [d]))) ex exb (k d))) (hG : G[i]? = some (.ob ns ds) := by rfl) (hN : X.N[i]? = some n := by rfl) (hf : f ∉ ns := by decide +kernel) (hm : f ∈ fx.nas := by decide +kernel) (hz : ns.length < 1000 := by decide)
    (hv : Vis X.env.scope n := by first | exact Or.inl rfl | exact Or.inr (Or.inl rfl) | exact Or.inr (Or.inr rfl)) (hd : (n == ("__debug__" : Str)) = false := by decide) (hcd : (n == ("__classdict__" : Str)) = false := by decide)
    (hs : swapsWith e (some (.Attribute (.Name n np) f pos')) pos.line X.env = pure false := by rfl) (hg : GxOk fx G := by first | exact True.intro | repeat' (first | exact True.intro | exact Or.inl rfl | exact Or.inr rfl | refine And.intro ?_ ?_)) :
    PSs X (.Assign [.Attribute (.Name n np) f pos'] e pos :: rest) (tS X.K X.mg fx G ex exb (x >>= k)) := pssI (pss_cons (ps_fld (pe_var hN hv hd hcd) he hs) (pss_ex hr)) fun De σ H ⟨Hf, s, h⟩ =>
  ((h.bind hg).mono fun v H1 ⟨d, Hf1, s1, sb, r, h1⟩ => by
    obtain ⟨p, C, dx, vs, ep, hp, hf', h0, nb, ⟨c, na⟩, hl, l⟩ := h1.1.sl i _ hG
    refine ⟨.ref p, ep, p, C, dx, ns.zip vs, rfl, hp, c, na _ hm, ?_, d, Hf1, s1, ?_, h1.2⟩
    · rw [List.length_zip, ← hl, Nat.min_self]; exact hz
    · refine h1.1.updAt hG rfl ep rfl ⟨p, C, dx, vs ++ [v], rfl, ?_, hf', h0, nb, ⟨c, na⟩, by simp [hl], l.app (.cons r .nil)⟩
      rw [upd_same, putF_new hl hf]).to
theorem lookup_zip {f : Str} : ∀ {ns : List Str} {vs : List V} {j : Nat} {v : V}, ns.idxOf? f = some j → vs[j]? = some v → (ns.zip vs).lookup f = some v
  | [], _, _, _, e, _ => by cases e
  | g :: ns, [], _, _, _, e => by simp at e
  | g :: ns, v :: vs, j, w, e, e2 => by
    by_cases h : g = f
    · subst h
      have z : j = 0 := by simpa [List.idxOf?, List.findIdx?_cons] using e.symm
      subst z
      simp at e2
      subst e2
      simp
    · have h' : (f == g) = false := by simpa using Ne.symm h
      have h2 : (g == f) = false := by simpa using h
      cases j with
      | zero =>
        exfalso
        simp [List.idxOf?, List.findIdx?_cons, h2] at e
      | succ j =>
        have e' : ns.idxOf? f = some j := by
          simp [List.idxOf?, List.findIdx?_cons, h2] at e ⊢
          exact e
        have := lookup_zip e' (by simpa using e2)
        simpa [List.lookup, h'] using this
end
end DL
namespace DL
open PySem PySem.Spec PyProof.Rows L2
structure ClsN (K : PySem.W.Frag) (mg : Str → Option Value) (c : Str) (C : Addr) : Prop where
  mg : mg c = some (.ref C)
  cl : Cls K C
  ca : PySem.W.findIn K (.ref C) "__class__" = some (some (.builtin "object.__class__"))
  cn : PySem.W.specialIn K (.builtin "object.__class__") "__get__" = some (some (.builtin "getset_descriptor.__get__"))
  ct : PySem.W.takesIn K (.builtin "object.__class__") = some true
  cm : PySem.W.mroIn K C (.type "object") = some true
section
variable {X : Cx} {fx : Fx} {m : Type → Type} [Mo m] {G : List Sl} {es : List Expr} {kws : List Keyword} {ks : List Str} {pos p : Pos} {ys zz : m (List D)} {kk j n : Nat} {c : Str} {C fI : Addr} {ns : List Str} {g : List D → R (List D)} [DL.TC]
theorem make_core {vs : List V} {ds : List D} {Hf : Hp} {s : S} {σ : L2.St} {H : Hp} {Q : VK} {x dx : Addr} (cn : ClsN X.K X.mg c C) (na : ∀ f ∈ ns, NoAttr X.K C f) {L : Nat → Prop} (hn : L (ds.length + 1)) (r : IsL X.K X.mg Hf ds vs) (h : tX X.K X.mg fx G (fun H d v => Is X.K X.mg H d v) (Mo.lift (g ds) >>= fun es => pure (.ins c ns es) : m D) Hf s σ H Q) (hx : H x = none) (hdx : H dx = none) (hne : dx ≠ x) :
    spI X.K X.mg ns L g (.ref x :: vs) (upd (upd H dx (.own x)) x (.ins C dx [])) (fun v H2 => v = .non ∧ Q (.ref x) H2) (WE fx.W σ) := by
  have w := Mo.wp_lift (Mo.wp_bind h.2)
  have hl := r.len
  have e2 : ∀ a o, H a = some o → upd (upd H dx (.own x)) x (.ins C dx []) a = some o := fun a o q => by rw [upd_ne (ne_of_none q hx), upd_ne (ne_of_none q hdx)]; exact q
  have hfx : Hf x = none := h.1.top.none hx
  have up : ∀ {Hf' H' : Hp}, Ste [x] Hf (upd (upd H dx (.own x)) x (.ins C dx [])) Hf' H' → Ste [] Hf H Hf' H' := fun {Hf' H'} st => ⟨st.sub, st.top, fun a o q _ k => st.keep a o (e2 a o q) (by simpa using ne_of_none q hx) k, fun a q => st.dom a (by
    cases z : H a with
    | none => exact absurd z q
    | some o => rw [e2 a o z]; simp), fun a o q => by
    rcases st.fresh a o q with z | z
    · exact .inl z
    · refine .inr ?_
      cases y : H a with
      | none => rfl
      | some u => (rw [e2 a u y] at z; cases z), fun t => st.tab (t.ext e2)⟩
  refine ⟨by rw [List.length_cons, ← hl]; exact hn, x, C, dx, vs, Hf, ds, rfl, ⟨fun a o q => e2 a o (h.1.top a o q), h.1.tb.1.ext e2, h.1.tb.2⟩, hfx, upd_same, cn.cl, na, r, ?_⟩
  cases z : g ds with
  | ok es =>
    rw [z] at w
    intro us Hf' H' st hp hnl l hf'
    refine ⟨rfl, ?_⟩
    have w' := Mo.wp_pure w
    have st0 := up st
    have sb : Sub Hf' (upd Hf' x (.ins C dx (ns.zip us))) := fun a o q => by
      have ne : a ≠ x := fun z => by rw [z, hf'] at q; cases q
      rw [upd_ne ne]; exact q
    have st1 : Ste [] Hf H (upd Hf' x (.ins C dx (ns.zip us))) H' := ⟨st0.sub.trans sb, fun a o q => by
        by_cases c : a = x
        · subst c; rw [upd_same] at q; cases q; exact hp
        · rw [upd_ne c] at q; exact st0.top a o q, st0.keep, st0.dom, fun a o q => by
        by_cases c : a = x
        · subst c; exact .inr hx
        · rw [upd_ne c] at q; exact st0.fresh a o q, st0.tab⟩
    exact w' (.ref x) _ H' st1.wide (st1.bag h.1.bag) ⟨x, C, dx, us, rfl, cn.mg, upd_same, hnl, l.mono sb⟩
  | ex e =>
    rw [z] at w
    exact fun cls dd Hf' H' st xi => w cls dd Hf' H' (h.1.step (up st).wide ((up st).bag h.1.bag)) xi
  | stuck => rw [z] at w; exact w
theorem de_make {L : Nat → Prop} (Ck : Cok X fx kk) (cn : ClsN X.K X.mg c C) (na : ∀ f ∈ ns, NoAttr X.K C f) (M : Mk X.K C fI) (F : FnP X.prog X.w X.K X.mg X.base j fI [] (spI X.K X.mg ns L g)) (ha : PA X es (tA X.K X.mg fx G ys)) (hn : ∀ ds : List D, g ds ≠ .stuck → L (ds.length + 1))
    (hj : j + 1 ≤ kk := by decide) (hg : Gl X c := by rfl) (hdb : (c == ("__debug__" : Str)) = false := by decide)
    (he : ArgHd X.env es := by first | exact True.intro | exact rfl)
    (hpl : ((backTo pos (starEach es X.env)).any (·.1) || (backToKw pos (keywordEach [] X.env)).any (·.1.isNone)) = false := by rfl) :
    PE X (.Call (.Name c p) es [] pos) (tE X.K X.mg fx G (do let ds ← ys; let es ← Mo.lift (g ds); pure (.ins c ns es))) := by
  refine ⟨fun pins s σ H Q I ⟨Hf, s0, h⟩ => ?_⟩
  refine wpAny_Call_Name_kw (ld_glob I hg cn.mg ?_ hdb)
  refine args_run (ks := []) (tk := tNil) M.kp ha pk_nil I ?_ he rfl rfl hpl
  refine (h.bind.mono fun vs H1 ⟨ds, Hf1, s1, sb, r, h1⟩ => ?_).to
  refine ⟨rfl, fun s2 us ws I2 hw rv => ?_⟩
  rw [List.append_nil] at rv
  have hlen : L (ds.length + 1) := hn ds fun z => by
    have w := Mo.wp_lift (Mo.wp_bind h1.2)
    rw [z] at w
    exact w
  exact run_makeP (E := WE fx.W) M F Ck.gd (Ck.rm.mono hj) (passAt Ck.tk σ) I2 hw rv fun x dx hx hdx hne => make_core cn na hlen r h1 hx hdx hne
end
def fldD (cs : List Str) (f : Str) : D → Option D
  | .ins c ns ds => if c ∈ cs then (ns.idxOf? f).bind (ds[·]?) else none
  | _ => none
def FldOk (K : PySem.W.Frag) (mg : Str → Option Value) (f : Str) (cs : List Str) : Prop := ∀ c ∈ cs, ∃ C, mg c = some (.ref C) ∧ Cls K C ∧ NoAttr K C f
def insOk (cs : List Str) (m : Str) : D → Option Unit
  | .ins c ns _ => if c ∈ cs ∧ m ∉ ns then some () else none
  | _ => none
def dispM {α : Type} (L : List (Str × (List D → R α))) : D → List D → R α
  | .ins c ns vs, ds => match L.lookup c with
    | some g => g (.ins c ns vs :: ds)
    | none => .stuck
  | _, _ => .stuck
def MethG [DL.TC] (P : Program) (w : World) (K : PySem.W.Frag) (mg : Str → Option Value) (base : Heap) (k : Nat) (m : Str) (ks : List Str) (c : Str) (g : List D → R D) : Prop :=
  ∃ C f n, mg c = some (.ref C) ∧ Cls K C ∧ Meth K C m f ∧ FnP P w K mg base k f ks (spR K mg false n g) ∧ ∀ ds, g ds ≠ .stuck → ds.length = n
theorem lookup_mem {α : Type} {c : Str} {g : α} : ∀ {L : List (Str × α)}, L.lookup c = some g → (c, g) ∈ L
  | [], h => by cases h
  | (d, a) :: L, h => by
    by_cases q : c = d
    · subst q
      simp [List.lookup] at h
      subst h
      exact .head _
    · have q' : (c == d) = false := by simpa using q
      simp [List.lookup, q'] at h
      exact .tail _ (lookup_mem h)
theorem lookup_none {f : Str} : ∀ {ns : List Str} {vs : List V}, f ∉ ns → (ns.zip vs).lookup f = none
  | [], _, _ => rfl
  | g :: ns, [], _ => rfl
  | g :: ns, v :: vs, h => by
    have q : (f == g) = false := by
      have : f ≠ g := fun z => h (by simp [z])
      simpa using this
    simp only [List.zip_cons_cons, List.lookup, q]
    exact lookup_none fun z => h (List.mem_cons_of_mem _ z)
section
variable {X : Cx} {fx : Fx} {m : Type → Type} [Mo m] {G : List Sl} {o : Expr} {es : List Expr} {pos p apos : Pos} {x : m D} {ys : m (List D)} {kk j : Nat} {f mn : Str} {cs : List Str} [DL.TC]
theorem de_fld (cs : List Str) (ho : PE X o (tE X.K X.mg fx G x)) (hf : FldOk X.K X.mg f cs) (hb : attributeBase o f X.env (eval o X.env) = eval o X.env := by rfl) : PE X (.Attribute o f pos) (tE X.K X.mg fx G (do let u ← x; DL.ask (fldD cs f u))) :=
  peI (pe_fld ho hb) fun σ H Q ⟨Hf, s, h⟩ => (h.bind.mono fun v1 H1 ⟨d1, Hf1, s1, sb1, r1, h1⟩ => by
    obtain ⟨d, e, q⟩ := h1.ask
    cases d1 with
    | ins c ns ds =>
      have e' : (if c ∈ cs then (ns.idxOf? f).bind (ds[·]?) else none) = some d := e
      by_cases hc : c ∈ cs
      · rw [if_pos hc] at e'
        obtain ⟨C, mC, cl, na⟩ := hf c hc
        obtain ⟨a, C', dx, vs, ea, mC', ha, hl, l⟩ := r1
        rw [mC] at mC'
        cases mC'
        cases e1 : ns.idxOf? f with
        | none => rw [e1] at e'; cases e'
        | some i =>
          rw [e1] at e'
          obtain ⟨v, ev, iv⟩ := l.get (show ds[i]? = some d from e')
          exact ⟨a, C, dx, _, v, ea, h1.1.top _ _ ha, cl, na, lookup_zip e1 ev, q v Hf1 H1 (.refl h1.1.top) iv⟩
      · rw [if_neg hc] at e'; cases e'
    | _ => cases e).to
theorem de_meth {pl : Sem Bool} {L : List (Str × (List D → R D))} (Ck : Cok X fx kk) (ho : PE X o (tE X.K X.mg fx G x)) (hL : ∀ q ∈ L, MethG X.prog X.w X.K X.mg X.base j mn [] q.1 q.2) (ha : PA X es (tA X.K X.mg fx G ys)) (hj : j ≤ kk := by decide)
    (he : ArgHd X.env es := by first | exact True.intro | exact rfl) (hpl : ((backTo pos (starEach es X.env)).any (·.1) || (backToKw pos (keywordEach [] X.env)).any (·.1.isNone)) = false := by rfl)
    (ht : eval (.Call (.Attribute o mn apos) es [] pos) X.env = (do
      let ov ← eval o X.env
      standAt apos.atName
      let (f, first) ← holding [ov] (getMethod ov mn pl)
      callWith pos f first (backTo pos (starEach es X.env)) (backToKw pos (keywordEach [] X.env))) := by rfl) :
    PE X (.Call (.Attribute o mn apos) es [] pos) (tE X.K X.mg fx G (do let u ← x; DL.ask (insOk (L.map Prod.fst) mn u); let ds ← ys; Mo.lift (dispM L u ds))) := by
  refine ⟨fun pins s σ H Q I ⟨Hf, s0, h⟩ => ?_⟩
  refine PySem.W.methodCall_KW (pl := pl) (thn (ho.run pins s σ H _ I (h.bind.to)) fun u s1 ⟨v, H1, I1, rx, d1, Hf1, s1', sb1, r1, h1⟩ => ?_) ht
  have w1 := Mo.wp_lift (Mo.wp_bind h1.2)
  cases d1 with
  | ins c ns vs =>
    by_cases hc : c ∈ L.map Prod.fst ∧ mn ∉ ns
    · have e1 : insOk (L.map Prod.fst) mn (.ins c ns vs) = some () := if_pos hc
      rw [e1] at w1
      obtain ⟨q0, hq0, eq0⟩ := List.mem_map.mp hc.1
      have hlk : ∃ g, L.lookup c = some g := by
        cases z : L.lookup c with
        | some g => exact ⟨g, rfl⟩
        | none =>
          exfalso
          rw [List.lookup_eq_none_iff] at z
          have := z q0 hq0
          simp [eq0] at this
      obtain ⟨g, hg⟩ := hlk
      obtain ⟨C, f, n, mC, cl, mt, F, hn⟩ := hL _ (lookup_mem hg)
      have r1' := r1
      obtain ⟨a, C', dx, us, ea, mC', hH, hl, l⟩ := r1
      rw [mC] at mC'
      cases mC'
      subst ea
      cases (show u = Value.ref a from rx)
      refine getmeth_ok I1 (h1.1.top _ _ hH) cl mt (lookup_none hc.2) ?_
      have h2 : tX X.K X.mg fx G (fun H d v => Is X.K X.mg H d v) (ys >>= fun ds => Mo.lift (dispM L (.ins c ns vs) ds) : m D) Hf1 s1' σ H1 Q := ⟨h1.1, w1⟩
      refine args_run (ks := []) (tk := tNil) (first := [.ref a]) mt.kp ha pk_nil I1 ?_ he rfl rfl hpl
      refine (h2.bind.mono fun ws H2 ⟨ds, Hf2, s2, sb2, r2, h3⟩ => ?_).to
      refine ⟨rfl, fun s2' us' ws' I2 hw rv => ?_⟩
      rw [List.append_nil] at rv
      have e3 : dispM L (.ins c ns vs) ds = g (.ins c ns vs :: ds) := by
        simp only [dispM, hg]
      rw [e3] at h3
      have hlen : (D.ins c ns vs :: ds).length = n := hn _ fun z => by
        have w := Mo.wp_lift h3.2
        have z' : g (D.ins c ns vs :: ds) = .stuck := z
        rw [z'] at w
        exact w
      have rr : IsL X.K X.mg Hf2 (D.ins c ns vs :: ds) (.ref a :: ws) := .cons (r1'.mono sb2) r2
      have hws : ws' = [] := List.length_eq_zero_iff.mp hw
      subst hws
      rw [List.append_nil] at rv
      exact run_P (E := WE fx.W) F Ck.gd (Ck.rm.mono hj) (passAt Ck.tk σ) I2 rfl (by rw [List.append_nil]; exact .cons rfl rv) (fn_core (by rw [← rr.len]; exact hlen) rr h3)
    · have e1 : insOk (L.map Prod.fst) mn (.ins c ns vs) = none := if_neg hc
      rw [e1] at w1
      exact w1.elim
  | _ => exact w1.elim
end
end DL
namespace DL
open PySem PySem.Spec PyProof.Rows L2
structure IsT (K : PySem.W.Frag) (mg : Str → Option Value) (tv : Value) (L : List (Str × Bool)) (B : List (String × Bool)) : Prop where
  own : ∀ q ∈ L, ∃ C, ClsN K mg q.1 C ∧ PySem.W.kitOne K (.ref C) tv = some q.2
  bl : ∀ q ∈ B, PySem.W.kitOne K (.type q.1) tv = some q.2
def isiT (L : List (Str × Bool)) (B : List (String × Bool)) : D → Option D
  | .ins c _ _ => (L.lookup c).map .bl
  | d => match tyD d with
    | some a => (B.lookup a).map .bl
    | none => none
theorem lookup_mem' {α β : Type} [BEq α] [LawfulBEq α] {c : α} {g : β} : ∀ {L : List (α × β)}, L.lookup c = some g → (c, g) ∈ L
  | [], h => by cases h
  | (d, a) :: L, h => by
    by_cases q : c = d
    · subst q
      simp [List.lookup] at h
      subst h
      exact .head _
    · have q' : (c == d) = false := by simpa using q
      simp [List.lookup, q'] at h
      exact .tail _ (lookup_mem' h)
section
variable {X : Cx} {fx : Fx} {m : Type → Type} [Mo m] {G : List Sl} {e e2 : Expr} {pos p : Pos} {x : m D} [DL.TC]
theorem isi_call {pins : List (Addr × Obj)} {σ : L2.St} {H Hf : Hp} {s : Shared} {Q : VK} {d r : D} {v : V} {u tv : Value} {L : List (Str × Bool)} {B : List (String × Bool)} (T : IsT X.K X.mg tv L B) (I : L2.Inv X pins σ H s) (sb : Sub Hf H) (i : Is X.K X.mg Hf d v) (ru : L2.RelV v u) (hr : isiT L B d = some r)
    (q : ∀ w Hf' H', Ste [] Hf H Hf' H' → Is X.K X.mg Hf' r w → Q w H') : wpAny (model X.prog X.w) X.A (call (.builtin "isinstance") [u, tv]) (EP X pins σ Q) X.xe s := by
  have other : ∀ {a : String} {b : Bool}, tyD d = some a → B.lookup a = some b → r = .bl b → wpAny (model X.prog X.w) X.A (call (.builtin "isinstance") [u, tv]) (EP X pins σ Q) X.xe s := by
    intro a b e1 e2 e3
    subst e3
    obtain ⟨P, Z, p, hx⟩ := kit_of I ru (tyD_is sb i e1)
    exact PySem.W.kia_one Z I.kIn p (T.bl _ (lookup_mem' e2)) hx fun tk => ⟨.bl b, H, I.tok tk, rfl, q _ Hf H (.refl sb) (is_bl _)⟩
  cases d with
  | ins c ns ds =>
    have e' : (L.lookup c).map D.bl = some r := hr
    cases hb : L.lookup c with
    | none => rw [hb] at e'; cases e'
    | some b =>
      rw [hb] at e'
      cases e'
      obtain ⟨C, cn, hk⟩ := T.own _ (lookup_mem hb)
      obtain ⟨a, C', dx, us, ea, mC', hH, hl, l⟩ := i
      subst ea
      cases (show u = Value.ref a from ru)
      have mC := cn.mg
      rw [mC'] at mC
      cases mC
      obtain ⟨mA, O, _⟩ := ins_get I.hok (sb _ _ hH)
      obtain ⟨od, J, _⟩ := O.look
      have ic : PySem.W.isClsIn X.K C = true := by
        obtain ⟨cd, hc, _⟩ := PySem.W.any_some cn.cl.hd
        show (PySem.W.clsIn X.K C).isSome = true
        rw [hc]
        rfl
      exact PySem.W.kia_one (OwX.kitx_slt ic (cn.cl.get _) cn.ca cn.cn cn.ct cn.cm) I.kIn J hk (fun z => nomatch z) fun tk => ⟨.bl b, H, I.tok _, rfl, q _ Hf H (.refl sb) (is_bl _)⟩
  | _ =>
    simp only [isiT] at hr
    split at hr
    · rename_i a e1
      cases e2 : B.lookup a with
      | none => rw [e2] at hr; cases hr
      | some b => rw [e2] at hr; cases hr; exact other e1 e2 rfl
    · cases hr
theorem pe_own {c : Str} {C : Addr} (h : X.mg c = some (.ref C)) (hg : Gl X c := by rfl) (hd : (c == ("__debug__" : Str)) = false := by decide) : PE X (.Name c p) (fun _ H Q => Q (.ref C) H) := pe_glob hg h (v := .ref C) rfl hd
def rIsT (X : Cx) (L : List (Str × Bool)) (B : List (String × Bool)) (c : V) : List V → Hp → VK → Prop := fun xs H Q => ∃ Hf d v r, xs = [v, c] ∧ Sub Hf H ∧ Is X.K X.mg Hf d v ∧ isiT L B d = some r ∧ ∀ w Hf' H', Ste [] Hf H Hf' H' → Is X.K X.mg Hf' r w → Q w H'
theorem call_isT {tv : Value} {c : V} {L : List (Str × Bool)} {B : List (String × Bool)} (k : ClsV c tv) (T : IsT X.K X.mg tv L B) : CallR X (.builtin "isinstance") (rIsT X L B c) := by
  intro pins s σ H xs us Q I r h
  obtain ⟨Hf, d, v, rr, rfl, sb, i, e, q⟩ := h
  obtain ⟨u1, u2, rfl, r1, r2⟩ := vals2 r
  have e2 := k.eq r2
  subst e2
  exact isi_call T I sb i r1 e q
theorem de_isT {tv : Value} {cv : V} {L : List (Str × Bool)} {B : List (String × Bool)} (k : ClsV cv tv) (T : IsT X.K X.mg tv L B) (he : PE X e (tE X.K X.mg fx G x)) (hc : PE X e2 (fun _ H Q => Q cv H)) (hg : Gl X "isinstance") (hm : X.mg "isinstance" = none)
    (hs : starEach [e, e2] X.env = (false, eval e X.env) :: starEach [e2] X.env := by rfl) (hs2 : starEach [e2] X.env = (false, eval e2 X.env) :: starEach [] X.env := by rfl) (hpl : (backTo pos (starEach [e2] X.env)).any (·.1) = false := by rfl) :
    PE X (.Call (.Name "isinstance" p) [e, e2] [] pos) (tE X.K X.mg fx G (do let d ← x; DL.ask (isiT L B d))) :=
  peI (pe_callB (call_isT k T) hg hm rfl (pa_cons he (pa_cons hc pa_nil hs2) hs) (by decide) (by decide) hs hpl) fun σ H Q ⟨Hf, s, h⟩ =>
  (h.bind.mono fun v1 H1 ⟨d1, Hf1, s1, sb1, r1, h1⟩ => by
    obtain ⟨d, e, q⟩ := h1.ask
    exact ⟨Hf1, d1, v1, d, rfl, h1.1.top, r1, e, q⟩).to
end
end DL
namespace DL
open PySem PySem.Spec PyProof.Rows L2
def toO : R D → Option D
  | .ok d => some d
  | _ => none
def okR (Ls : List Str) : D → Bool
  | .ins c _ _ => decide (c ∈ Ls)
  | d => (tyD d).isSome
def eqO (L : List (Str × (List D → R D))) (a b : D) : Option D := match a with
  | .ins c ns ds => if okR (L.map Prod.fst) b = true then (L.lookup c).bind fun g => toO (g [.ins c ns ds, b]) else none
  | a => eqD a b
def notD : D → Option D
  | .bl b => some (.bl !b)
  | _ => none
def neO (L : List (Str × (List D → R D))) (a b : D) : Option D := match a with
  | .ins c ns ds => (eqO L (.ins c ns ds) b).bind notD
  | a => neD a b
def baseTys : List String := ["NoneType", "bool", "int", "str", "tuple", "list", "dict"]
def EqC [DL.TC] (P : Program) (w : World) (K : PySem.W.Frag) (mg : Str → Option Value) (base : Heap) (k : Nat) (Ls : List Str) (c : Str) (g : List D → R D) : Prop :=
  ∃ C f, ClsN K mg c C ∧ PySem.W.findIn K (.ref C) "__eq__" = some (some (.ref f)) ∧ PySem.W.isFn K (.ref f) = true ∧ FnP P w K mg base k f [] (spR K mg false 2 g) ∧ (∀ T ∈ baseTys, PySem.W.notFirst K C (.type T) = true) ∧ (∀ c' ∈ Ls, ∀ C', mg c' = some (.ref C') → PySem.W.notFirst K C (.ref C') = true) ∧
    PySem.W.findIn K (.ref C) "__ne__" = some (some (.builtin "object.__ne__"))
theorem tyD_base {d : D} {T : String} (h : tyD d = some T) : T ∈ baseTys := by
  cases d <;> cases h <;> simp [baseTys]
theorem ex_false [DL.TC] {P : Program} {w : World} {mg : Str → Option Value} {outer : List Env} {H : Hp} {s s' : Shared} {e : Value} (h : CXm P w mg outer H s (fun _ _ _ => False) e s') : False := cxm_false h
section
variable {X : Cx} {k n : Nat} {L : List (Str × (List D → R D))} [DL.TC]
theorem dun_run {A : Around} {E : Value → Shared → Prop} {pins : List (Addr × Obj)} {σ : L2.St} {H Hf : Hp} {s : Shared} {Q : VK} {f : Addr} {g : List D → R D} {ds : List D} {vs : List V} {us : List Value} {d : D} (F : FnP X.prog X.w X.K X.mg X.base k f [] (spR X.K X.mg false n g)) (hg : A.guards = some []) (hr : Room k A) (e0 : Env0 X.prog X.w X.K X.mg X.base A X.stack s H) (I : L2.Inv X pins σ H s)
    (sb : SubT Hf H) (i : IsL X.K X.mg Hf ds vs) (hn : vs.length = n) (r : Vals vs us) (e : toO (g ds) = some d) (q : ∀ u Hf' H', Ste [] Hf H Hf' H' → Is X.K X.mg Hf' d u → Q u H') : wpAny (model X.prog X.w) A (call (.ref f) us) (EP X pins σ Q) E s := by
  refine wpAny_call (codeAny_mono (F A X.stack s H us [] vs Q (fun _ _ _ => False) hg hr e0 rfl (by rw [List.append_nil]; exact r) ⟨hn, Hf, ds, sb, i, ?_⟩) fun r s' hq => ?_)
  · cases z : g ds with
    | ok d' => rw [z] at e; cases e; exact fun v Hf' H' st i => q v Hf' H' st i
    | ex e2 => rw [z] at e; cases e
    | stuck => rw [z] at e; cases e
  · cases r with
    | error e => exact (ex_false hq).elim
    | ok fl =>
      cases fl with
      | ret u => exact I.after hq
      | next => exact False.elim hq
      | brk => exact False.elim hq
      | cont => exact False.elim hq
theorem right_ty {pins : List (Addr × Obj)} {σ : L2.St} {H Hf : Hp} {s : Shared} {d : D} {v : V} {u : Value} {Ls : List Str} (I : L2.Inv X pins σ H s) (sb : Sub Hf H) (i : Is X.K X.mg Hf d v) (r : L2.RelV v u) (h : okR Ls d = true) :
    ∃ tb, PySem.W.Looks (model X.prog X.w) s.heap (typeOf u) tb ∧ ((∃ T ∈ baseTys, tb = .type T) ∨ ∃ c ∈ Ls, ∃ C, X.mg c = some (.ref C) ∧ tb = .ref C) := by
  have other : ∀ {T : String}, tyD d = some T → ∃ tb, PySem.W.Looks (model X.prog X.w) s.heap (typeOf u) tb ∧ ((∃ T ∈ baseTys, tb = .type T) ∨ ∃ c ∈ Ls, ∃ C, X.mg c = some (.ref C) ∧ tb = .ref C) := by
    intro T e
    obtain ⟨P, Z, p, _⟩ := kit_of I r (tyD_is sb i e)
    exact ⟨.type T, Z.ty _ _ I.kIn p, .inl ⟨T, tyD_base e, rfl⟩⟩
  cases d with
  | ins c ns ds =>
    have hc : c ∈ Ls := of_decide_eq_true h
    obtain ⟨a, C, dx, us, ea, mC, hH, hl, l⟩ := i
    subst ea
    cases (show u = Value.ref a from r)
    obtain ⟨mA, O, _⟩ := ins_get I.hok (sb _ _ hH)
    obtain ⟨od, J, _⟩ := O.look
    exact ⟨.ref C, J.type, .inr ⟨c, hc, C, mC, rfl⟩⟩
  | scr _ => exact other rfl
  | xc _ _ _ _ => cases h
  | non => exact other rfl
  | bl _ => exact other rfl
  | int _ => exact other rfl
  | str _ => exact other rfl
  | tup _ => exact other rfl
  | lst _ => exact other rfl
  | dic _ _ => exact other rfl
end
open Builtin in
theorem ne_call {prog : Program} {w : World} {A : Around} {E : Value → Shared → Prop} {s : Shared} {K : PySem.W.Frag} {x C f : Addr} {ox : Obj} {od : Option Obj} {b : Value} {Q : Value → Shared → Prop} (hu : A.in1.units < cLine) (X : K.In s.heap) (I : PySem.W.InstAt s.heap x ox C od) (hm : PySem.W.mroIn K C (.type "object") = some true)
    (hs : PySem.W.findIn K (.ref C) "__eq__" = some (some (.ref f))) (hf : PySem.W.isFn K (.ref f) = true) (h : wpAny (model prog w) A.in1 (call (.ref f) [.ref x, b]) (fun v s' => ∃ r, v = .bool r ∧ Q (.bool (!r)) s') E s) : wpAny (model prog w) A (call (.builtin "object.__ne__") [.ref x, b]) Q E s := by
  refine wpAny_call (codeAny_call_builtin PySem.F.slot_object_ne.plain PySem.F.cmpEntry_ne (PySem.W.check_slot (i := "object.__ne__") (owner := "object") (n := "__ne__") (by decide +kernel) (by decide +kernel) (I.type.andThen (PySem.W.looks_mroIn X hm)) (PySem.F.cmpArgs_ne _ _) ?_))
  unfold Builtin.«object.__ne__»
  repeat (first
    | with_reducible refine wpAny_cRoomFor hu ?_
    | (refine wpAny_bind (m := callSpecialIfBound? (.ref x) (Str.ofString "__eq__") [b])
        (PySem.W.ifBound_K X I hs hf (wpAny_mono h (fun r s' hr => by
          obtain ⟨b, rfl, hq⟩ := hr
          repeat (first | exact hq | exact wpAny_pure hq | exact wpAny_truthy_bool hq | (refine wpAny_bind (m := truthy (.bool _)) (wpAny_truthy_bool ?_)) | wp_step)) fun _ _ e => e)))
    | wp_step)
theorem ifBound_B {M : Model} {A : Around} {E : Value → Shared → Prop} {s : Shared} {K : PySem.W.Frag} {x C : Addr} {ox : Obj} {od : Option Obj} {name : Str} {id : String} {args : List Value} {Q : Option Value → Shared → Prop} (X : K.In s.heap) (I : PySem.W.InstAt s.heap x ox C od) (hs : PySem.W.findIn K (.ref C) name = some (some (.builtin id))) (hb : ∀ self, bindSpecial (.builtin id) self = pure (.builtin id, [self]))
    (h : wpAny M A (call (.builtin id) (.ref x :: args)) (fun v => Q (some v)) E s) : wpAny M A (callSpecialIfBound? (.ref x) name args) Q E s := by
  simp only [callSpecialIfBound?, bindSpecialIfBound?]
  refine wpAny_holding (wpAny_bind (wpAny_bind (wpAny_bind (I.type.here ((PySem.W.looks_findIn X hs).here ?_)))))
  refine wpAny_bind (wpAny_askSetting (wpAny_ite ?_))
  have fin : wpAny M A (call (.builtin id) ([.ref x] ++ args) >>= fun v => pure (some v)) Q E s := wpAny_bind (wpAny_mono h (fun v s' h' => wpAny_pure h') fun _ _ h' => h')
  split
  · exact wpAny_bind ((PySem.W.Looks.of_pure (hb _)).here (wpAny_pure (by exact fin)))
  · exact wpAny_tryCatch (wpAny_bind ((PySem.W.Looks.of_pure (hb _)).here (wpAny_pure (by exact fin))))
theorem ne_K {prog : Program} {w : World} {A : Around} {E : Value → Shared → Prop} {s : Shared} {K : PySem.W.Frag} {x C f : Addr} {ox : Obj} {od : Option Obj} {b tb : Value} {Q : Value → Shared → Prop} (hu : A.in1.units < cLine) (hu0 : A.units < cLine) (X : K.In s.heap) (I : PySem.W.InstAt s.heap x ox C od) (hb : PySem.W.Looks (model prog w) s.heap (typeOf b) tb) (hn : PySem.W.notFirst K C tb = true) (hm : PySem.W.mroIn K C (.type "object") = some true)
    (hne : PySem.W.findIn K (.ref C) "__ne__" = some (some (.builtin "object.__ne__")))
    (hs : PySem.W.findIn K (.ref C) "__eq__" = some (some (.ref f))) (hf : PySem.W.isFn K (.ref f) = true) (h : wpAny (model prog w) A.in1 (call (.ref f) [.ref x, b]) (fun v s' => ∃ r, v = .bool r ∧ Q (.bool (!r)) s') E s) : wpAny (model prog w) A (richCompare .NotEq (.ref x) b) Q E s := by
  have one : wpAny (model prog w) A (tryCompare (.ref x) (cmpInfo .NotEq).2.1 b) (fun r s' => ∃ v, r = some v ∧ Q v s') E s := by
    unfold tryCompare
    refine wpAny_bind (wpAny_mono (ifBound_B (Q := fun r s' => ∃ r', r = some (.bool r') ∧ Q (.bool r') s') X I hne PySem.F.slot_object_ne.bind (wpAny_mono (ne_call (Q := fun v s' => ∃ r, v = .bool r ∧ Q (.bool r) s') hu X I hm hs hf (wpAny_mono h (fun v s' hv => ?_) fun _ _ e => e)) (fun v s' hv => ?_) fun _ _ e => e)) (fun r s' hr => ?_) fun _ _ e => e)
    · obtain ⟨r, rfl, q⟩ := hv
      exact ⟨r, rfl, _, rfl, q⟩
    · obtain ⟨r', rfl, q⟩ := hv
      exact ⟨r', rfl, q⟩
    · obtain ⟨r', rfl, q⟩ := hr
      exact wpAny_pure ⟨_, rfl, q⟩
  unfold richCompare
  simp only [oneThing_ref]
  refine wpAny_holding (wpAny_bind (wpAny_cRoomFor hu0 ?_))
  refine wpAny_bind (I.type.here (wpAny_bind (hb.here ?_)))
  split
  · rename_i q
    have e : PySem.W.subIn K tb (.ref C) = some false := by
      rcases Bool.or_eq_true_iff.mp hn with e | e
      · rw [beq_iff_eq.mp e] at q; simp at q
      · exact beq_iff_eq.mp e
    refine wpAny_bind ((PySem.W.looks_subIn X e).here ?_)
    simp only [Bool.false_eq_true, if_false]
    refine wpAny_bind (wpAny_mono one (fun r s' z => ?_) fun _ _ e => e)
    obtain ⟨v, rfl, hq⟩ := z
    exact wpAny_pure hq
  · refine wpAny_bind (wpAny_pure ?_)
    simp only [Bool.false_eq_true, if_false]
    refine wpAny_bind (wpAny_mono one (fun r s' z => ?_) fun _ _ e => e)
    obtain ⟨v, rfl, hq⟩ := z
    exact wpAny_pure hq
section
variable {X : Cx} {k : Nat} {L : List (Str × (List D → R D))} [DL.TC]
theorem od_neO (hL : ∀ q ∈ L, EqC X.prog X.w X.K X.mg X.base k (L.map Prod.fst) q.1 q.2) (hg : X.A.guards = some []) (hr : Room (k + 1) X.A) (hb : OpR X (compareOp .NotEq) (rD2 X.K X.mg neD)) : OpR X (compareOp .NotEq) (rD2 X.K X.mg (neO L)) := by
  intro pins s σ H x y v u Q I rx ry h
  obtain ⟨Hf, dx, dy, d, sb, ix, iy, e, q⟩ := h
  have other : neD dx dy = some d → wpAny (model X.prog X.w) X.A (compareOp .NotEq v u) (EP X pins σ Q) X.xe s := fun e => hb pins s σ H x y v u Q I rx ry ⟨Hf, dx, dy, d, sb, ix, iy, e, q⟩
  cases dx with
  | ins c ns ds =>
    have e0 : (eqO L (.ins c ns ds) dy).bind notD = some d := e
    cases e3 : eqO L (.ins c ns ds) dy with
    | none => rw [e3] at e0; cases e0
    | some d1 =>
      rw [e3] at e0
      have e4 : notD d1 = some d := e0
      have e' : (if okR (L.map Prod.fst) dy = true then (L.lookup c).bind fun g => toO (g [.ins c ns ds, dy]) else none) = some d1 := e3
      by_cases hk : okR (L.map Prod.fst) dy = true
      · rw [if_pos hk] at e'
        cases hlk : L.lookup c with
        | none => rw [hlk] at e'; cases e'
        | some g =>
          rw [hlk] at e'
          have e2 : toO (g [.ins c ns ds, dy]) = some d1 := e'
          obtain ⟨C, f, cn, hs, hf, F, n1, n2, hne⟩ := hL _ (lookup_mem hlk)
          have ix' := ix
          obtain ⟨a, C', dx', us, ea, mC, hH, hl, l⟩ := ix
          rw [cn.mg] at mC
          cases mC
          subst ea
          cases (show v = Value.ref a from rx)
          obtain ⟨mA, O, _⟩ := ins_get I.hok (sb _ _ hH)
          obtain ⟨od, J, _⟩ := O.look
          obtain ⟨tb, ht, hn⟩ := right_ty I sb iy ry hk
          have hn' : PySem.W.notFirst X.K C tb = true := by
            rcases hn with ⟨T, hT, rfl⟩ | ⟨c', hc', C', mC', rfl⟩
            · exact n1 T hT
            · exact n2 c' hc' C' mC'
          cases d1 with
          | bl b =>
            cases e4
            refine ne_K hr.in1.units0 hr.units0 I.kIn J ht hn' cn.cm hne hs hf ?_
            refine wpAny_mono (dun_run (us := [.ref a, u]) (Q := fun v H' => ∃ Hf', v = .bl b ∧ Ste [] Hf H Hf' H') F hg hr.in1 I.env0.in1 I sb (.cons ix' (.cons iy .nil)) rfl (.cons rfl (.cons ry .nil)) e2 fun u Hf' H' st i => ⟨Hf', i, st⟩) (fun w s' z => ?_) fun _ _ z => z
            obtain ⟨z', H', I', rz, Hf', ez, st⟩ := z
            subst ez
            exact ⟨b, rz, .bl (!b), H', I', rfl, q _ Hf' H' st (is_bl _)⟩
          | _ => cases e4
      · rw [if_neg hk] at e'; cases e'
  | _ => exact other e
end
end DL
namespace DL
open PySem PySem.Spec PyProof.Rows L2
def DunC [DL.TC] (P : Program) (w : World) (K : PySem.W.Frag) (mg : Str → Option Value) (base : Heap) (k n : Nat) (m : Str) (c : Str) (g : List D → R D) : Prop :=
  ∃ C f, ClsN K mg c C ∧ PySem.W.findIn K (.ref C) m = some (some (.ref f)) ∧ PySem.W.isFn K (.ref f) = true ∧ FnP P w K mg base k f [] (spR K mg false n g)
section
variable {X : Cx} {k : Nat} {L : List (Str × (List D → R D))} [DL.TC]
def lenO (L : List (Str × (List D → R D))) : List D → Option D
  | [.ins c ns ds] => match (L.lookup c).bind fun g => toO (g [.ins c ns ds]) with
    | some (.int i) => if 0 ≤ i ∧ i < 9223372036854775808 then some (.int i) else none
    | _ => none
  | ds => lenD ds
theorem oc_lenO (hL : ∀ q ∈ L, DunC X.prog X.w X.K X.mg X.base k 1 "__len__" q.1 q.2) (hg : X.A.guards = some []) (hr : Room (k + 1) X.A) : CallR X (.builtin "len") (rDs X.K X.mg (lenO L)) := by
  intro pins s σ H xs us Q I r h
  obtain ⟨Hf, ds, d, sb, l, e, q⟩ := h
  unfold lenO at e
  split at e
  · rename_i c ns vs
    split at e
    · rename_i i hi
      split at e
      · rename_i hb
        cases e
        cases hlk : L.lookup c with
        | none => rw [hlk] at hi; cases hi
        | some g =>
          rw [hlk] at hi
          obtain ⟨C, f, cn, hs, hf, F⟩ := hL _ (lookup_mem hlk)
          obtain ⟨v, r1, rfl, iv, rfl⟩ := l
          obtain ⟨u, rfl, ru⟩ := r.one
          have iv' := iv
          obtain ⟨a, C', dx', us', ea, mC, hH, hl, l'⟩ := iv
          rw [cn.mg] at mC
          cases mC
          subst ea
          cases (show u = Value.ref a from ru)
          obtain ⟨mA, O, _⟩ := ins_get I.hok (sb _ _ hH)
          obtain ⟨od, J, _⟩ := O.look
          obtain ⟨m', hF⟩ := I.fr
          refine PySem.W.len_K hF I.ok.mod.kin J hs hf ?_
          refine wpAny_mono (dun_run (us := [.ref a]) (Q := fun v H' => v = .int i ∧ ∃ Hf', Ste [] Hf H Hf' H') F hg hr.in1 I.env0.in1 I sb (.cons iv' .nil) rfl (.cons rfl .nil) hi fun u Hf' H' st i => ⟨i, Hf', st⟩) (fun w s' z => ?_) fun _ _ z => z
          obtain ⟨z', H', I', rz, ez, Hf', st⟩ := z
          subst ez
          obtain ⟨t, rfl⟩ := (show ∃ t, w = Value.int i t from rz)
          exact ⟨⟨hb.1, by have := hb.2; omega⟩, .int i, H', I'.tok _, ⟨_, rfl⟩, q _ Hf' H' st (is_int _)⟩
      · cases e
    · cases e
  · exact oc_len pins s σ H xs us Q I r ⟨Hf, ds, d, sb, l, e, q⟩
def numD (i : Int) : List Nat := (Str.ofString (toString i)).cps.toList
end
end DL
namespace DL
open PySem PySem.Spec PyProof.Rows L2
def unN (n : Nat) : D → Option (List D)
  | .tup ds => if ds.length = n then some ds else none
  | _ => none
section
variable {X : Cx} {fx : Fx} {m : Type → Type} [Mo m] {G : List Sl} {α β γ : Type} {kk : Nat} {e : Expr} {rest : List Stmt} {ex : α → List Sl} {exb : β → List Sl} {pos : Pos} {x : m D} [DL.TC]
theorem dss_unp {tg : Expr} {g : TG} {u : D → Option γ} {st : List Sl → γ → List Sl} {is : List Nat} {k : γ → m (Fl α β)} (hg : PGd X fx tg g u st is) (he : PE X e (tE X.K X.mg fx G x)) (hr : ∀ c, PSs X rest (tS X.K X.mg fx (st G c) ex exb (k c)))
    (hs : swapsWithSole [tg] e pos.line X.env = pure false := by rfl) (hw : swappedStores [tg] e X.env = pure none := by rfl) (h1 : (assignEach [tg] X.env).map (·.2) = [assign tg X.env] := by rfl)
    (hgx : GxOk fx G := by first | exact True.intro | repeat' (first | exact True.intro | exact Or.inl rfl | exact Or.inr rfl | refine And.intro ?_ ?_)) :
    PSs X (.Assign [tg] e pos :: rest) (tS X.K X.mg fx G ex exb (do let d ← x; let c ← DL.ask (u d); k c)) := pssI (pss_cons (ps_asg he hg.1 hs hw h1) (pss_ex hr)) fun De σ H ⟨Hf, s, h⟩ =>
  ((h.bind hgx).mono fun v H1 ⟨d, Hf1, s1, sb, r, h1⟩ => by
    have w1 := Mo.wp_lift (Mo.wp_bind h1.2)
    cases hu : u d with
    | none => rw [hu] at w1; exact w1.elim
    | some c =>
      rw [hu] at w1
      exact hg.2 h1.1 r hu fun σ' _ _ st' => ⟨c, Hf1, s1, st', w1⟩).to
end
section
variable {X : Cx} {fx : Fx} {m : Type → Type} [Mo m] {G : List Sl} {α β : Type} {ex : α → List Sl} {exb : β → List Sl} {sts : List Stmt} [DL.TC]
theorem dss_stuck : PSs X sts (tS X.K X.mg fx G ex exb (Mo.lift R.stuck : m (Fl α β))) := pssI pss_never fun D σ H ⟨Hf, s, h⟩ => Mo.wp_lift h.2
end
end DL
namespace DL
open PySem PySem.Spec PyProof.Rows L2
section
variable {X : Cx} {fx : Fx} {m : Type → Type} [Mo m] {G : List Sl} {pos : Pos} [DL.TC]
inductive KVs (X : Cx) (fx : Fx) (m : Type → Type) [Mo m] (G : List Sl) : List (Option Expr) → List Expr → List (List Nat) → m (List D) → List (TE × TE) → Prop
  | nil : KVs X fx m G [] [] [] (pure []) []
  | cons {t : Str} {j : Nat} {p : Pos} {ks : List (Option Expr)} {v : Expr} {vs : List Expr} {ls : List (List Nat)} {x : m D} {ys : m (List D)} {trs : List (TE × TE)} (l : List Nat) (hv : PE X v (tE X.K X.mg fx G x)) (r : KVs X fx m G ks vs ls ys trs) (ht : t = ⟨l.toArray⟩ := by first | rfl | decide +kernel) (hl : l.length ≤ 1000 := by decide) :
      KVs X fx m G (some (.Constant (.str t) j p) :: ks) (v :: vs) (l :: ls) (do let d ← x; let ds ← ys; pure (d :: ds)) ((fun σ H Q => Q (.str ⟨l.toArray⟩) H, tE X.K X.mg fx G x) :: trs)
theorem KVs.some {ks : List (Option Expr)} {vs : List Expr} {ls : List (List Nat)} {ys : m (List D)} {trs : List (TE × TE)} (h : KVs X fx m G ks vs ls ys trs) : ks.all (·.isSome) = true ∧ ks.length = vs.length ∧ ks.length = ls.length := by
  induction h with
  | nil => exact ⟨rfl, rfl, rfl⟩
  | cons l hv r ht hl ih => exact ⟨by simp [ih.1], by simp [ih.2.1], by simp [ih.2.2]⟩
end
end DL
namespace DL
open PySem PySem.Spec PyProof.Rows L2 StX
def spStar (n : Nat) (sp : Sp) : Sp := fun vs H Q E => ∃ ws rest, vs = ws ++ rest ∧ ws.length = n ∧ rest.length ≤ sizeLine ∧ ∀ p, H p = none → sp (ws ++ [V.ref p]) (upd H p (.tup rest)) Q E
section
variable {P : Program} {w : World} {K : PySem.W.Frag} {mg : Str → Option Value} {base : Heap} [DL.TC]
section
variable {P : Program} {w : World} {K : PySem.W.Frag} {mg : Str → Option Value} {base : Heap} [DL.TC]
theorem fnP_star {x qual : Str} {st : Stmt} {f : Addr} {fd : FuncData} {N ps : List Str} {pv : Str} {k : Nat} {sp : Sp} (F : Fun K x qual st f fd) (S : FnScope N (ps ++ [pv]) (defScope st))
    (hb : ∀ us rest : List Value, us.length = ps.length → bindArgs fd ⟨us ++ rest, []⟩ = (newTuple rest >>= fun t => pure (ps.zip us ++ [(pv, t)])))
    (hbody : ∀ (cdv : Value) (A : Around) (outer : List Env) (s : Shared) (H : Hp) (vs : List V) (Q : VK) (E : XK), A.guards = some [] → Room k (A.deeper (envOfC qual (defScope st) s.heap.objs.size f cdv)) → sp vs H Q E →
      ∃ t, PSs (cxOf (CXm P w mg) P w K mg base N qual (defScope st) f cdv A outer s H E) (defBody st) t ∧ t { nx := fun _ H' => Q .non H', rt := Q } (start N vs) H) :
    FnP P w K mg base (k + 1) f [] (spStar ps.length sp) := fun A outer s H us kw _ Q E gd room e0 noKw rel ⟨ws, rest, ev, len, long, want⟩ => by
  subst ev
  obtain rfl := List.length_eq_zero_iff.mp noKw
  rw [List.append_nil] at rel
  obtain ⟨u1, u2, rfl, r1, r2⟩ := vals_split rel
  have n1 : u1.length = ps.length := r1.length.symm.trans len
  obtain ⟨oc, od, kV, doc, pm, an, cdv, ct, osl, rfl, lk, hcd⟩ := F.ex
  have free : H s.heap.objs.size = Option.none := e0.hok.fresh (Nat.le_refl _)
  -- the values behind the star lie in a tuple of their own
  let o : Obj := { cls := .type "tuple", data := .seq u2.toArray }
  have lies : ObjOk P w (upd H s.heap.objs.size (.tup rest)) (s.heap.push o) s.heap.objs.size (.tup rest) := ⟨long, u2, r2, o, Heap.get?_push_size _ rfl, rfl, 0, rfl⟩
  have un := un_laid (fs := frs outer) (s := s) (o := o) (u := .tup rest) free
  have names : ps.zip u1 ++ [(pv, Value.ref s.heap.objs.size)] = (ps ++ [pv]).zip (u1 ++ [.ref s.heap.objs.size]) := by rw [List.zip_append n1.symm]; rfl
  refine run_bnd lk hcd S room e0 (G := fun xs H2 => ∃ p, H p = Option.none ∧ xs = ws ++ [V.ref p] ∧ H2 = upd H p (.tup rest)) (fun A' Ex Q' go => ?_) fun s2 H2 xs ⟨p, new, ex, eH⟩ room' => ?_
  · have called := hb u1 u2 n1
    show wpAny _ _ (bindArgs _ ⟨u1 ++ u2, []⟩) _ _ _
    rw [called]
    refine wpAny_bind (wpAny_newTuple (wpAny_pure (names ▸ go _ _ (ws ++ [V.ref s.heap.objs.size]) _ (env0_laid e0 lies) un rfl (fun e s' => cxUp outer s H _ _ E e s' un (fun b o q => Heap.get?_push_of_some _ q) rfl) (r1.append (.cons rfl .nil)) ?_ ⟨_, free, rfl, rfl⟩)) (r2.length ▸ long))
    simp only [List.length_append, len, List.length_singleton]
  · subst ex eH
    exact hbody cdv A outer s2 _ _ Q E gd room' (want p new)
end
end
section
variable {K : PySem.W.Frag} {mg : Str → Option Value} [DL.TC]
def starD {α : Type} (n : Nat) (g : List D → R α) (ds : List D) : R α := if n ≤ ds.length ∧ ds.length ≤ 1000000 then g (ds.take n ++ [.tup (ds.drop n)]) else .stuck
theorem spI_star {ns : List Str} {n : Nat} {g : List D → R (List D)} {vs : List V} {H : Hp} {Q : VK} {E : XK} (h : spI K mg ns (fun _ => True) (starD n g) vs H Q E) : spStar (n + 1) (spI K mg ns (fun l => l = n + 2) g) vs H Q E := by
  obtain ⟨_, x, C, dx, rest, Hf, ds, rfl, sb, hf, hx, c, na, l, q⟩ := h
  have hlen : n ≤ ds.length ∧ ds.length ≤ 1000000 := by
    by_cases z : n ≤ ds.length ∧ ds.length ≤ 1000000
    · exact z
    · have : starD n g ds = .stuck := if_neg z
      rw [this] at q; exact q.elim
  have e : starD n g ds = g (ds.take n ++ [.tup (ds.drop n)]) := if_pos hlen
  rw [e] at q
  have hl := l.len
  have hsz : sizeLine = 16777216 := sizeLine_eq
  refine ⟨.ref x :: rest.take n, rest.drop n, by simp, by simp; omega, by simp; omega, fun p hp => ?_⟩
  have hxp : x ≠ p := fun z => by rw [z, hp] at hx; cases hx
  have hfp : Hf p = none := sb.none hp
  have st0 : Ste [x] Hf H (upd Hf p (.tup (rest.drop n))) (upd H p (.tup (rest.drop n))) := .new sb hp
  refine ⟨by simp; omega, x, C, dx, rest.take n ++ [.ref p], upd Hf p (.tup (rest.drop n)), ds.take n ++ [.tup (ds.drop n)], by simp, st0.subT sb.t, by rw [upd_ne hxp]; exact hf, by rw [upd_ne hxp]; exact hx, c, na, ?_, ?_⟩
  · refine ((l.take n).mono st0.sub).app (.cons ⟨by simp; omega, p, rest.drop n, rfl, .inl (.inl upd_same), (l.drop n).mono st0.sub⟩ .nil)
  · cases z : g (ds.take n ++ [.tup (ds.drop n)]) with
    | ok es => rw [z] at q; intro us Hf' H' st h1 h2 h3 h4; exact q us Hf' H' (st0.trans st) h1 h2 h3 h4
    | ex e => rw [z] at q; intro cls dd Hf' H' st xi; exact q cls dd Hf' H' (st0.trans st) xi
    | stuck => rw [z] at q; exact q
theorem fnI_star {P : Program} {w : World} {base : Heap} {x qual : Str} {st : Stmt} {f : Addr} {fd : FuncData} {N ps ns : List Str} {pv : Str} {k n : Nat} {g : List D → R (List D)} (F : Fun K x qual st f fd) (Sc : FnScope N (ps ++ [pv]) (defScope st)) (hn : ps.length = n + 1) (hN : n + 2 ≤ N.length)
    (hb0 : ∀ us rest : List Value, us.length = ps.length → bindArgs fd ⟨us ++ rest, []⟩ = (newTuple rest >>= fun t => pure (ps.zip us ++ [(pv, t)])))
    (hb : ∀ (cdv : Value) (A : Around) (outer : List Env) (s : Shared) (H Hf : Hp) (E : XK) (o : Addr) (ds : List D), Cok (cxOf (CXm P w mg) P w K mg base N qual (defScope st) f cdv A outer s H E) (fxI ns o H Hf E) k → ds.length = n + 1 →
      ∃ body : R (Fl (List D) Empty), PSs (cxOf (CXm P w mg) P w K mg base N qual (defScope st) f cdv A outer s H E) (defBody st)
        (tS (cxOf (CXm P w mg) P w K mg base N qual (defScope st) f cdv A outer s H E).K (cxOf (CXm P w mg) P w K mg base N qual (defScope st) f cdv A outer s H E).mg (fxI ns o H Hf E) (GI N ds) (exI N ns) Empty.elim body) ∧ g ds = runI body) :
    FnP P w K mg base (k + 1) f [] (spI K mg ns (fun _ => True) (starD n g)) := by
  refine FnP.imp (fnP_star (sp := spI K mg ns (fun l => l = n + 2) g) F Sc hb0 fun cdv A outer s H vs Q E gd hr h => ?_) fun vs H Q E h => by rw [hn]; exact spI_star h
  obtain ⟨hl, o, C, dx, rest, Hf, ds, rfl, sb, hf, hx, c, na, l, q⟩ := h
  have Ck : Cok (cxOf (CXm P w mg) P w K mg base N qual (defScope st) f cdv A outer s H E) (fxI ns o H Hf E) k := ⟨rfl, fun _ => passes_of rfl, takes_of rfl rfl rfl rfl, hr, Sc.nd, gd⟩
  have hl' : rest.length = n + 1 := by simpa using hl
  obtain ⟨body, hp, hg⟩ := hb cdv A outer s H Hf E o ds Ck (l.len.trans hl')
  refine ⟨_, hp, Hf, ⟨0, 0, 0, [], false⟩, .initI sb hf hx c na l (by omega), ?_⟩
  rw [hg] at q
  exact runI_read hx q
end
end DL
namespace DL
open PySem PySem.Spec PyProof.Rows L2
def partD (a b : D) : Option D := match a, b with
  | .str z, .str s => if s ≠ [] ∧ z.length ≤ 1000000 then some (match TL.par s [] z with
    | some (p, q) => .tup [.str p, .str s, .str q]
    | none => .tup [.str z, .str [], .str []]) else none
  | _, _ => none
def digs (z : List Nat) : Bool := z.all fun c => decide (48 ≤ c) && decide (c ≤ 57)
def intXD : List D → Option D
  | [.str z] => if digs z = true ∧ z ≠ [] ∧ z.length ≤ 640 then some (.int ((NumText.digitsVal z : Nat) : Int)) else none
  | ds => intD ds
end DL
namespace DL
open PySem PySem.Spec PyProof.Rows L2 StX
end DL
namespace DL
open PySem PySem.Spec PyProof.Rows L2
def apI1 (fn : D → R (List D)) : List D → R (List D)
  | [a] => fn a
  | _ => .stuck
end DL
namespace DL
open PySem PySem.Spec PyProof.Rows L2
end DL
namespace DL
open PySem
def noneOfB : List (String × Bool) := [("NoneType", false), ("bool", false), ("int", false), ("str", false), ("tuple", false), ("list", false), ("dict", false)]
end DL
namespace DL
open PySem PySem.Spec PyProof.Rows L2
end DL
namespace DL
open PySem PySem.Spec PyProof.Rows L2 StX
end DL
namespace DL
open PySem PySem.Spec PyProof.Rows L2
end DL
namespace DL
open PySem PySem.Spec PyProof.Rows L2
end DL
namespace DL
open PySem PySem.Spec PyProof.Rows L2
end DL
namespace DL
open PySem L2
instance : LawfulMonad R := LawfulMonad.mk' (m := R) (id_map := fun x => by cases x <;> rfl) (pure_bind := fun _ _ => rfl) (bind_assoc := fun x _ _ => by cases x <;> rfl)
theorem M.ext {α : Type} {x y : M α} (h : ∀ s, x s = y s) : x = y := funext h
instance : LawfulMonad M := LawfulMonad.mk' (m := M)
  (id_map := fun x => M.ext fun s => by
    show (x s).bd (fun a s => .ok a s) = x s
    cases x s <;> rfl)
  (pure_bind := fun _ _ => rfl)
  (bind_assoc := fun x f g => M.ext fun s => by
    show ((x s).bd f).bd g = (x s).bd fun a => f a >>= g
    cases x s <;> rfl)
@[simp] theorem lift_R {α : Type} (r : R α) : (Mo.lift r : R α) = r := rfl
@[simp] theorem lift_M {α : Type} (a : α) : (Mo.lift (R.ok a) : M α) = pure a := rfl
@[simp] theorem noex_R {α : Type} (a : α) : (Mo.noex (R.ok a) : R α) = .ok a := rfl
@[simp] theorem noex_M {α : Type} (a : α) : (Mo.noex (pure a : M α) : M α) = pure a := rfl
@[simp] theorem askM {α : Type} (a : α) : (ask (some a) : M α) = pure a := rfl
@[simp] theorem mkL_R (ds : List D) : (mkL (R.ok ds) : R D) = .ok (.lst ds) := rfl
@[simp] theorem mkL_M (ds : List D) : (mkL (pure ds : M (List D)) : M D) = pure (.lst ds) := rfl
def Inv (s : S) : Prop := s.w = false ∧ 0 ≤ s.y ∧ s.y < 4294967296
def OkR {α : Type} (x : R α) (Q : α → Prop) : Prop := ∃ a, x = .ok a ∧ Q a
section
variable {α β γ : Type} {Q : β → Prop} {P : α → Prop}
theorem okr_pure {a : β} (h : Q a) : OkR (.ok a) Q := ⟨a, rfl, h⟩
theorem okr_bind {x : R α} {f : α → R β} (h : OkR x fun a => OkR (f a) Q) : OkR (x >>= f) Q := by
  obtain ⟨a, rfl, q⟩ := h
  exact q
theorem okr_mono {x : R α} {P' : α → Prop} (h : OkR x P) (w : ∀ a, P a → P' a) : OkR x P' := by
  obtain ⟨a, rfl, q⟩ := h
  exact ⟨a, rfl, w a q⟩
end
def FlQ (nr : Bool) (Q : D → Prop) : Fl Unit Empty → Prop
  | .nx _ => nr = false ∧ Q .non
  | .rt d => Q d
  | _ => False
theorem okr_runR {nr : Bool} {x : R (Fl Unit Empty)} {Q : D → Prop} (h : OkR x (FlQ nr Q)) : OkR (runR nr x) Q := by
  obtain ⟨a, rfl, q⟩ := h
  cases a with
  | nx a =>
    obtain ⟨q1, q2⟩ := q
    subst q1
    exact ⟨.non, rfl, q2⟩
  | rt d => exact ⟨d, rfl, q⟩
  | bk b => exact b.elim
  | ct b => exact b.elim
theorem runR_rt {nr : Bool} {d : D} : runR nr (.ok (.rt d)) = .ok d := rfl
section
variable {α β γ : Type}
@[simp] theorem seqR_nx {a : α} {k : α → R (Fl γ β)} : seqF (R.ok (.nx a)) k = k a := rfl
@[simp] theorem seqR_rt {d : D} {k : α → R (Fl γ β)} : seqF (R.ok (.rt d)) k = .ok (.rt d) := rfl
@[simp] theorem seqR_bk {b : β} {k : α → R (Fl γ β)} : seqF (R.ok (.bk b)) k = .ok (.bk b) := rfl
@[simp] theorem seqR_ct {b : β} {k : α → R (Fl γ β)} : seqF (R.ok (.ct b)) k = .ok (.ct b) := rfl
def SeqQ (k : α → Prop) (Q : Fl γ β → Prop) : Fl α β → Prop
  | .nx a => k a
  | .rt d => Q (.rt d)
  | .bk b => Q (.bk b)
  | .ct b => Q (.ct b)
theorem okr_seq {x : R (Fl α β)} {k : α → R (Fl γ β)} {Q : Fl γ β → Prop} (h : OkR x (SeqQ (fun a => OkR (k a) Q) Q)) : OkR (seqF x k) Q := okr_bind (okr_mono h fun f q => by
  cases f with
  | nx a => exact q
  | rt d => exact okr_pure q
  | bk b => exact okr_pure q
  | ct b => exact okr_pure q)
def TurnQ (I : α → Prop) (Q : Fl α β → Prop) : Fl α α → Prop
  | .nx a => I a
  | .ct a => I a
  | .bk a => Q (.nx a)
  | .rt d => Q (.rt d)
theorem okr_for {u : D → Option γ} {xb : α → γ → R (Fl α α)} {Q : Fl α β → Prop} (I : Nat → α → Prop) (ds : List D) (a0 : α) (h0 : I 0 a0) (hs : ∀ i d a, ds[i]? = some d → I i a → ∃ c, u d = some c ∧ OkR (xb a c) (TurnQ (I (i + 1)) Q)) (he : ∀ a, I ds.length a → Q (.nx a)) : OkR (forF u xb ds a0) Q := by
  induction ds generalizing I a0 with
  | nil => exact okr_pure (he _ h0)
  | cons d ds ih =>
    unfold forF
    obtain ⟨c, e, h⟩ := hs 0 d a0 rfl h0
    rw [e]
    refine okr_bind (okr_pure (okr_bind (okr_mono h fun f q => ?_)))
    cases f with
    | nx a => exact ih (fun i => I (i + 1)) a q (fun i d' a' e' q' => hs (i + 1) d' a' (by simpa using e') q') (fun a q => he a (by simpa using q))
    | ct a => exact ih (fun i => I (i + 1)) a q (fun i d' a' e' q' => hs (i + 1) d' a' (by simpa using e') q') (fun a q => he a (by simpa using q))
    | bk a => exact okr_pure q
    | rt d => exact okr_pure q
end
theorem lcR {γ : Type} {u : D → Option γ} {xt : γ → R Bool} {xe : γ → R D} (c : D → γ) (p : D → Bool) (f : D → D) : ∀ ds : List D, (∀ d ∈ ds, u d = some (c d)) → (∀ d ∈ ds, xt (c d) = .ok (p d)) → (∀ d ∈ ds, p d = true → xe (c d) = .ok (f d)) → lcF u xt xe ds = .ok ((ds.filter p).map f)
  | [], _, _, _ => rfl
  | d :: ds, h1, h2, h3 => by
    have ih := lcR c p f ds (fun x m => h1 x (.tail _ m)) (fun x m => h2 x (.tail _ m)) (fun x m => h3 x (.tail _ m))
    unfold lcF
    rw [h1 d (.head _)]
    simp only [ask_some, R.bind_eq, R.bd, h2 d (.head _), noex_R]
    cases q : p d with
    | false => simp only [Bool.false_eq_true, if_false, ih, List.filter_cons, q]
    | true =>
      simp only [if_true, List.filter_cons, q, List.map_cons]
      rw [h3 d (.head _) q, ih]
      rfl
inductive All2 {α β : Type} (P : α → β → Prop) : List α → List β → Prop
  | nil : All2 P [] []
  | cons {x : α} {y : β} {xs : List α} {ys : List β} (h : P x y) (t : All2 P xs ys) : All2 P (x :: xs) (y :: ys)
theorem mul_ii {i j : Int} (hi : i.natAbs < 2 ^ 64) (hj : j.natAbs < 2 ^ 64) : mulD (.int i) (.int j) = some (.int (i * j)) := by
  have h1 := PySem.Flt.log2_lt_of (n := i.natAbs) (k := 64) (by decide) hi
  have h2 := PySem.Flt.log2_lt_of (n := j.natAbs) (k := 64) (by decide) hj
  exact if_pos (show i.natAbs.log2 + j.natAbs.log2 < 1000000 by omega)
theorem mod_ii {i j : Int} (hj : 0 < j) : modD (.int i) (.int j) = some (.int (i % j)) := if_pos hj
theorem fdiv_ii {i j : Int} (hj : 0 < j) (h : j.natAbs < 2 ^ 64) : fdivD (.int i) (.int j) = some (.int (i / j)) := by
  have h1 := PySem.Flt.log2_lt_of (n := j.natAbs) (k := 64) (by decide) h
  exact if_pos (show 0 < j ∧ j.natAbs.log2 < 9000 from ⟨hj, by omega⟩)
@[simp] theorem add_ii {i j : Int} : addD (.int i) (.int j) = some (.int (i + j)) := rfl
@[simp] theorem sub_ii {i j : Int} : subD (.int i) (.int j) = some (.int (i - j)) := rfl
@[simp] theorem lt_ii {i j : Int} : ltD (.int i) (.int j) = some (.bl (decide (i < j))) := rfl
@[simp] theorem le_ii {i j : Int} : leD (.int i) (.int j) = some (.bl (decide (i ≤ j))) := rfl
@[simp] theorem gt_ii {i j : Int} : gtD (.int i) (.int j) = some (.bl (decide (j < i))) := rfl
@[simp] theorem ge_ii {i j : Int} : geD (.int i) (.int j) = some (.bl (decide (j ≤ i))) := rfl
@[simp] theorem eq_ii {i j : Int} : eqD (.int i) (.int j) = some (.bl (decide (i = j))) := rfl
@[simp] theorem ne_ii {i j : Int} : neD (.int i) (.int j) = some (.bl (!decide (i = j))) := rfl
@[simp] theorem eq_ss {a b : List Nat} : eqD (.str a) (.str b) = some (.bl (decide (a = b))) := rfl
@[simp] theorem ne_ss {a b : List Nat} : neD (.str a) (.str b) = some (.bl (!decide (a = b))) := rfl
@[simp] theorem bOf_bl {b : Bool} : bOf (.bl b) = some b := rfl
@[simp] theorem tru_bl {b : Bool} : truD (.bl b) = some b := rfl
@[simp] theorem tru_str {s : List Nat} : truD (.str s) = some (!s.isEmpty) := rfl
@[simp] theorem tru_lst {s : List D} : truD (.lst s) = some (!s.isEmpty) := rfl
@[simp] theorem tru_tup {s : List D} : truD (.tup s) = some (!s.isEmpty) := rfl
@[simp] theorem tru_int {i : Int} : truD (.int i) = some (i != 0) := rfl
@[simp] theorem int_int {i : Int} : intD [.int i] = some (.int i) := rfl
@[simp] theorem len_lst {s : List D} : lenD [.lst s] = some (.int s.length) := rfl
@[simp] theorem len_tup {s : List D} : lenD [.tup s] = some (.int s.length) := rfl
@[simp] theorem len_str {s : List Nat} : lenD [.str s] = some (.int s.length) := rfl
@[simp] theorem len_scr {s : List Int} : lenD [.scr s] = some (.int s.length) := rfl
@[simp] theorem it_lst {s : List D} : itD (.lst s) = some s := rfl
@[simp] theorem it_tup {s : List D} : itD (.tup s) = some s := rfl
@[simp] theorem it_str {s : List Nat} : itD (.str s) = some (chrs s) := rfl
@[simp] theorem int_of {i : Int} : intOf (.int i) = some i := rfl
@[simp] theorem flat_int {i : Int} : flatD (.int i) = some (.int i) := rfl
@[simp] theorem flat_bl {i : Bool} : flatD (.bl i) = some (.bl i) := rfl
@[simp] theorem flat_str {i : List Nat} : flatD (.str i) = some (.str i) := rfl
@[simp] theorem str_of {i : List Nat} : strOf (.str i) = some i := rfl
theorem sz_ok {ds : List D} (h : ds.length ≤ 1000000) : szL ds = some ds := if_pos (by rw [sizeLine_eq]; omega)
theorem apd_ok {ds : List D} {d : D} (h : ds.length < 1000000) : apd ds d = some (ds ++ [d]) := if_pos (by rw [sizeLine_eq]; omega)
theorem rng1_ok {j : Int} (h0 : -4611686018427387904 ≤ j) (h : j ≤ 1000000) : rng1 [.int j] = some (rangeL 0 j.toNat) := if_pos ⟨h0, h⟩
theorem range_len {lo : Int} {n : Nat} : (rangeL lo n).length = n := by simp [rangeL]
theorem range_mem {lo : Int} {n : Nat} {d : D} (h : d ∈ rangeL lo n) : ∃ k : Nat, k < n ∧ d = .int (lo + k) := by
  unfold rangeL at h
  obtain ⟨k, hk, rfl⟩ := List.mem_map.mp h
  exact ⟨k, List.mem_range.mp hk, rfl⟩
theorem range_get {lo : Int} {n i : Nat} {d : D} (h : (rangeL lo n)[i]? = some d) : i < n ∧ d = .int (lo + i) := by
  unfold rangeL at h
  rw [List.getElem?_map] at h
  by_cases c : i < n
  · rw [List.getElem?_range c] at h
    cases h
    exact ⟨c, rfl⟩
  · rw [List.getElem?_eq_none (by simpa using c)] at h
    cases h
theorem ix_lst {ds : List D} {i : Int} (h0 : 0 ≤ i) (h : i < ds.length) : ixD (.lst ds) (.int i) = some (ds[i.toNat]'(by omega)) := by
  unfold ixD L2.atI ixN
  simp only
  rw [if_pos h0, if_pos h]
  exact List.getElem?_eq_getElem (by omega)
theorem ixN_ok {n : Nat} {i : Int} (h0 : 0 ≤ i) (h : i < n) : ixN n i = some i.toNat := by
  unfold ixN
  rw [if_pos h0, if_pos h]
end DL
namespace FN
open DL
def c_CHARACTERS : D := (.str [48, 49, 50, 51, 52, 53, 54, 55, 56, 57, 97, 98, 99, 100, 101, 102, 103, 104, 105, 106, 107, 108, 109, 110, 111, 112, 113, 114, 115, 116, 117, 118, 119, 120, 121, 122])
def c_LONGEST_LABEL : D := (.int (20))
def c_MOST_LABELS : D := (.int (20))
def b_is_label_344b (a0 : D) : R (Fl Unit Empty) := (do let t16 ← (DL.orM (DL.notM (do let x2 ← (do let x1 ← (pure a0); DL.ask (isiD "str" x1)); DL.ask (truD x2))) (DL.notM (do let x6 ← (chainM leD leD (pure (.int 1)) (do let r5 ← (do let x3 ← (pure a0); let r4 ← pure []; pure (x3 :: r4)); DL.ask (lenD r5)) (pure c_LONGEST_LABEL)); DL.ask (bOf x6)))); seqF (if t16 = true then (do let v8 ← (pure (.bl false)); pure (.rt v8)) else (pure (.nx ()))) fun (a7 : Unit) => (do let v15 ← (notV (mkL (do let r14 ← (do let r9 ← (pure a0); DL.ask (itD r9)); lcF (fun d => some d) (fun (c11 : D) => (do let x12 ← (pure c11); let y13 ← (pure c_CHARACTERS); DL.ask ((notInD x12 y13).bind bOf))) (fun (c11 : D) => (pure c11)) r14))); pure (.rt v15)))
def m_is_label_344b : List D → R D := apR1 fun a0 => runR false (b_is_label_344b a0)
theorem n_is_label_344b : ∀ ds : List D, m_is_label_344b ds ≠ .stuck → ds.length = 1 := apR1_len _
def b_is_path_08e1 (a0 : D) : R (Fl Unit Empty) := (do let t19 ← (DL.orM (DL.notM (do let x2 ← (do let x1 ← (pure a0); DL.ask (isiD "tuple" x1)); DL.ask (truD x2))) (do let x6 ← (do let r5 ← (do let x3 ← (pure a0); let r4 ← pure []; pure (x3 :: r4)); DL.ask (lenD r5)); let y7 ← (pure c_MOST_LABELS); DL.ask ((gtD x6 y7).bind bOf))); seqF (if t19 = true then (do let v9 ← (pure (.bl false)); pure (.rt v9)) else (pure (.nx ()))) fun (a8 : Unit) => (do let v18 ← (notV (mkL (do let r17 ← (do let r10 ← (pure a0); DL.ask (itD r10)); lcF (fun d => some d) (fun (c12 : D) => (DL.notM (do let x16 ← (do let r15 ← (do let x13 ← (pure c12); let r14 ← pure []; pure (x13 :: r14)); Mo.lift (m_is_label_344b r15)); DL.ask (truD x16)))) (fun (c12 : D) => (pure c12)) r17))); pure (.rt v18)))
def m_is_path_08e1 : List D → R D := apR1 fun a0 => runR false (b_is_path_08e1 a0)
theorem n_is_path_08e1 : ∀ ds : List D, m_is_path_08e1 ds ≠ .stuck → ds.length = 1 := apR1_len _
def b_is_host_45ba (a0 : D) : R (Fl Unit Empty) := (do let v9 ← (andV (do let r3 ← (do let x1 ← (pure a0); let r2 ← pure []; pure (x1 :: r2)); Mo.lift (m_is_path_08e1 r3)) (do let x7 ← (do let r6 ← (do let x4 ← (pure a0); let r5 ← pure []; pure (x4 :: r5)); DL.ask (lenD r6)); let y8 ← (pure (.int 0)); DL.ask (gtD x7 y8))); pure (.rt v9))
def m_is_host_45ba : List D → R D := apR1 fun a0 => runR false (b_is_host_45ba a0)
theorem n_is_host_45ba : ∀ ds : List D, m_is_host_45ba ds ≠ .stuck → ds.length = 1 := apR1_len _
def CH : List Nat := [48, 49, 50, 51, 52, 53, 54, 55, 56, 57, 97, 98, 99, 100, 101, 102, 103, 104, 105, 106, 107, 108, 109, 110, 111, 112, 113, 114, 115, 116, 117, 118, 119, 120, 121, 122]
def isLab (n : Nat) (z : List Nat) : Bool := decide (1 ≤ z.length) && (decide (z.length ≤ n) && z.all fun c => decide (c ∈ CH))
def labD : D → Bool
  | .str z => isLab 20 z
  | _ => false
theorem labD_str {z : List Nat} : labD (.str z) = isLab 20 z := rfl
def isStr : D → Bool
  | .str _ => true
  | _ => false
def isTup : D → Bool
  | .tup _ => true
  | _ => false
theorem isi_str {d : D} {T : String} (h : tyD d = some T) : isiD "str" d = some (.bl (isStr d)) := by
  cases d with
  | non => exact congrArg (Option.map D.bl) (show L2.kitB "NoneType" "str" = some false by decide +kernel)
  | bl _ => exact congrArg (Option.map D.bl) (show L2.kitB "bool" "str" = some false by decide +kernel)
  | int _ => exact congrArg (Option.map D.bl) (show L2.kitB "int" "str" = some false by decide +kernel)
  | str _ => exact congrArg (Option.map D.bl) (show L2.kitB "str" "str" = some true by decide +kernel)
  | tup _ => exact congrArg (Option.map D.bl) (show L2.kitB "tuple" "str" = some false by decide +kernel)
  | lst _ => exact congrArg (Option.map D.bl) (show L2.kitB "list" "str" = some false by decide +kernel)
  | scr _ => exact congrArg (Option.map D.bl) (show L2.kitB "list" "str" = some false by decide +kernel)
  | dic _ _ => exact congrArg (Option.map D.bl) (show L2.kitB "dict" "str" = some false by decide +kernel)
  | ins _ _ _ => cases h
  | xc _ _ _ _ => cases h
theorem isi_tup {d : D} {T : String} (h : tyD d = some T) : isiD "tuple" d = some (.bl (isTup d)) := by
  cases d with
  | non => exact congrArg (Option.map D.bl) (show L2.kitB "NoneType" "tuple" = some false by decide +kernel)
  | bl _ => exact congrArg (Option.map D.bl) (show L2.kitB "bool" "tuple" = some false by decide +kernel)
  | int _ => exact congrArg (Option.map D.bl) (show L2.kitB "int" "tuple" = some false by decide +kernel)
  | str _ => exact congrArg (Option.map D.bl) (show L2.kitB "str" "tuple" = some false by decide +kernel)
  | tup _ => exact congrArg (Option.map D.bl) (show L2.kitB "tuple" "tuple" = some true by decide +kernel)
  | lst _ => exact congrArg (Option.map D.bl) (show L2.kitB "list" "tuple" = some false by decide +kernel)
  | scr _ => exact congrArg (Option.map D.bl) (show L2.kitB "list" "tuple" = some false by decide +kernel)
  | dic _ _ => exact congrArg (Option.map D.bl) (show L2.kitB "dict" "tuple" = some false by decide +kernel)
  | ins _ _ _ => cases h
  | xc _ _ _ _ => cases h
theorem chrs_mem {z : List Nat} {d : D} (h : d ∈ chrs z) : ∃ c ∈ z, d = .str [c] := by
  obtain ⟨c, m, rfl⟩ := List.mem_map.mp h
  exact ⟨c, m, rfl⟩
def sgn : D → Nat
  | .str [c] => c
  | _ => 0
theorem filter_chrs (p : Nat → Bool) : ∀ z : List Nat, (chrs z).filter (fun d => p (sgn d)) = chrs (z.filter p)
  | [] => rfl
  | c :: z => by
    show ((D.str [c]) :: chrs z).filter (fun d => p (sgn d)) = _
    rw [List.filter_cons, List.filter_cons, filter_chrs p z]
    show (if p c = true then _ else _) = _
    cases p c <;> rfl
theorem filter_none {α : Type} (p : α → Bool) (z : List α) : (z.filter fun c => !p c).isEmpty = z.all p := by
  induction z with
  | nil => rfl
  | cons c z ih =>
    rw [List.filter_cons, List.all_cons, ← ih]
    cases p c <;> rfl
theorem chrs_empty (z : List Nat) : (chrs z).isEmpty = z.isEmpty := by cases z <;> rfl
theorem is_label_ok {d : D} {T : String} (h : tyD d = some T) : m_is_label_344b [d] = .ok (.bl (labD d)) := by
  unfold m_is_label_344b apR1 b_is_label_344b
  simp only [R.pure_eq, R.bind_eq, R.bd, isi_str h, ask_some, tru_bl, DL.orM, DL.notM]
  cases d with
  | str z =>
    simp only [isStr, Bool.not_true, Bool.false_eq_true, if_false, chainM, R.pure_eq, R.bind_eq, R.bd, len_str, ask_some, le_ii, Option.bind_some, bOf_bl, c_LONGEST_LABEL]
    by_cases h1 : 1 ≤ z.length
    · have e1 : decide ((1 : Int) ≤ (z.length : Int)) = true := decide_eq_true (by omega)
      simp only [e1, if_true, R.bd, ask_some, bOf_bl]
      by_cases h2 : z.length ≤ 20
      · have e2 : decide ((z.length : Int) ≤ 20) = true := decide_eq_true (by omega)
        simp only [e2, Bool.not_true, Bool.false_eq_true, if_false, seqR_nx, it_str, ask_some, R.bd]
        rw [lcR (c := fun d => d) (p := fun d => !decide (sgn d ∈ CH)) (f := fun d => d) _ (fun _ _ => rfl) (fun d m => ?_) (fun _ _ _ => rfl)]
        · rw [filter_chrs (fun c => !decide (c ∈ CH))]
          simp only [List.map_id', mkL_R, notV, R.bind_eq, R.bd, tru_lst, ask_some, R.pure_eq, runR_rt, chrs_empty, filter_none, Bool.not_not]
          rw [labD_str]
          unfold isLab
          rw [decide_eq_true h1, decide_eq_true h2]
          rfl
        · obtain ⟨c, _, rfl⟩ := chrs_mem m
          rfl
      · have e2 : decide ((z.length : Int) ≤ 20) = false := decide_eq_false (by omega)
        simp only [e2, Bool.not_false, if_true, seqR_rt, runR_rt]
        rw [labD_str]
        unfold isLab
        rw [decide_eq_true h1, decide_eq_false h2]
        rfl
    · have e1 : decide ((1 : Int) ≤ (z.length : Int)) = false := decide_eq_false (by omega)
      simp only [e1, Bool.false_eq_true, if_false, R.bd, ask_some, bOf_bl, Bool.not_false, if_true, seqR_rt, runR_rt]
      rw [labD_str]
      unfold isLab
      rw [decide_eq_false h1]
      rfl
  | ins _ _ _ => cases h
  | xc _ _ _ _ => cases h
  | _ => rfl
def pathD : D → Bool
  | .tup ds => decide (ds.length ≤ 20) && ds.all labD
  | _ => false
theorem pathD_tup {ds : List D} : pathD (.tup ds) = (decide (ds.length ≤ 20) && ds.all labD) := rfl
def kids : D → List D
  | .tup ds => ds
  | _ => []
theorem is_path_ok {d : D} {T : String} (h : tyD d = some T) (hk : ∀ x ∈ kids d, tyD x ≠ none) : m_is_path_08e1 [d] = .ok (.bl (pathD d)) := by
  unfold m_is_path_08e1 apR1 b_is_path_08e1
  simp only [R.pure_eq, R.bind_eq, R.bd, isi_tup h, ask_some, tru_bl, DL.orM, DL.notM]
  cases d with
  | tup ds =>
    simp only [isTup, Bool.not_true, Bool.false_eq_true, if_false, R.bd, len_tup, ask_some, gt_ii, Option.bind_some, bOf_bl, c_MOST_LABELS]
    by_cases h2 : ds.length ≤ 20
    · have e2 : decide ((20 : Int) < (ds.length : Int)) = false := decide_eq_false (by omega)
      simp only [e2, Bool.false_eq_true, if_false, seqR_nx, it_tup, ask_some, R.bd]
      rw [lcR (c := fun d => d) (p := fun d => !labD d) (f := fun d => d) _ (fun _ _ => rfl) (fun d m => ?_) (fun _ _ _ => rfl)]
      · simp only [List.map_id', mkL_R, notV, R.bind_eq, R.bd, tru_lst, ask_some, R.pure_eq, runR_rt, filter_none, Bool.not_not]
        rw [pathD_tup, decide_eq_true h2]
        rfl
      · cases e : tyD d with
        | none => exact absurd e (hk d m)
        | some T => simp only [lift_R, is_label_ok e, R.bd, tru_bl, ask_some]
    · have e2 : decide ((20 : Int) < (ds.length : Int)) = true := decide_eq_true (by omega)
      simp only [e2, if_true, seqR_rt, runR_rt]
      rw [pathD_tup, decide_eq_false h2]
      rfl
  | ins _ _ _ => cases h
  | xc _ _ _ _ => cases h
  | _ => rfl
def hostD (d : D) : Bool := pathD d && !(kids d).isEmpty
theorem is_host_ok {d : D} {T : String} (h : tyD d = some T) (hk : ∀ x ∈ kids d, tyD x ≠ none) : m_is_host_45ba [d] = .ok (.bl (hostD d)) := by
  unfold m_is_host_45ba apR1 b_is_host_45ba
  simp only [R.pure_eq, R.bind_eq, R.bd, lift_R, is_path_ok h hk, andV, tru_bl, ask_some]
  unfold hostD
  cases e : pathD d with
  | false => rfl
  | true =>
    cases d with
    | tup ds =>
      simp only [if_true, R.bd, len_tup, ask_some, gt_ii, runR_rt, kids, Bool.true_and]
      congr 2
      cases ds with
      | nil => rfl
      | cons x xs => exact decide_eq_true (by simp only [List.length_cons]; omega)
    | _ => cases e
end FN
namespace DL
open PySem
theorem okr_seqP {α β γ : Type} {x : R (Fl α β)} {k : α → R (Fl γ β)} {Q : Fl γ β → Prop} (P : α → Prop) (h : OkR x (SeqQ P Q)) (w : ∀ a, P a → OkR (k a) Q) : OkR (seqF x k) Q := okr_seq (okr_mono h fun f q => by
  cases f with
  | nx a => exact w a q
  | rt d => exact q
  | bk b => exact q
  | ct b => exact q)
theorem okb {α β : Type} {a : α} {f : α → R β} : (R.ok a >>= f) = f a := rfl
theorem askR {α : Type} {a : α} : (ask (some a) : R α) = pure a := rfl
theorem mkLR {ds : List D} : (mkL (pure ds) : R D) = pure (.lst ds) := rfl
theorem okpR {α : Type} {a : α} : (R.ok a) = (pure a : R α) := rfl
theorem lift_pR {α : Type} {a : R α} : (Mo.lift a : R α) = a := rfl
theorem okr_p {α : Type} {a : α} {Q : α → Prop} (h : Q a) : OkR (pure a : R α) Q := ⟨a, rfl, h⟩
theorem lc_map {xe : D → R D} (f : D → D) (ds : List D) (h : ∀ d ∈ ds, xe d = pure (f d)) : lcF (fun d => some d) (fun _ => (pure true : R Bool)) xe ds = pure (ds.map f) := by
  have e := lcR (u := fun d => some d) (xt := fun _ => .ok true) (xe := xe) (c := fun d => d) (p := fun _ => true) (f := f) ds (fun _ _ => rfl) (fun _ _ => rfl) (fun d m _ => h d m)
  rw [List.filter_eq_self.mpr (fun _ _ => rfl)] at e
  exact e
def Tx (n : Nat) (z : List Nat) : Prop := z.length ≤ n ∧ ∀ c ∈ z, c < 1114112
theorem Tx.up {n m : Nat} {z : List Nat} (h : Tx n z) (w : n ≤ m) : Tx m z := ⟨Nat.le_trans h.1 w, h.2⟩
theorem Tx.app {n m : Nat} {a b : List Nat} (h : Tx n a) (k : Tx m b) : Tx (n + m) (a ++ b) := ⟨by rw [List.length_append]; exact Nat.add_le_add h.1 k.1, fun c hc => by
  rcases List.mem_append.mp hc with hc | hc
  · exact h.2 c hc
  · exact k.2 c hc⟩
theorem add_ll {a b : List D} (h : a.length + b.length ≤ 1000000) : addD (.lst a) (.lst b) = some (.lst (a ++ b)) := if_pos (by rw [sizeLine_eq]; omega)
@[simp] theorem slice_s {z : List Nat} {lo hi : Option Int} : sliceD (.str z) lo hi = some (.str (cutL z lo hi)) := rfl
@[simp] theorem slice_l {z : List D} {lo hi : Option Int} : sliceD (.lst z) lo hi = some (.lst (cutL z lo hi)) := rfl
theorem cut_hi {α : Type} {z : List α} {i : Int} (h : 0 ≤ i) : cutL z none (some i) = z.take i.toNat := by
  unfold cutL
  have e1 : HT.sIx z.length 0 none = 0 := rfl
  have e2 : HT.sIx z.length z.length (some i) = min i.toNat z.length := by
    unfold HT.sIx
    simp only
    split <;> omega
  rw [e1, e2, List.drop_zero, Nat.sub_zero, List.take_eq_take_iff]
  omega
theorem cut_lo {α : Type} {z : List α} {i : Int} (h : 0 ≤ i) : cutL z (some i) none = z.drop i.toNat := by
  unfold cutL
  have e1 : HT.sIx z.length z.length none = z.length := rfl
  have e2 : HT.sIx z.length 0 (some i) = min i.toNat z.length := by
    unfold HT.sIx
    simp only
    split <;> omega
  rw [e1, e2]
  by_cases c : i.toNat ≤ z.length
  · rw [Nat.min_eq_left c, List.take_of_length_le (by simp)]
  · rw [Nat.min_eq_right (by omega), List.drop_eq_nil_of_le (Nat.le_refl _), List.drop_eq_nil_of_le (by omega)]
    simp
theorem joinN_nil : ∀ ps : List (List Nat), joinN [] ps = ps.flatten
  | [] => rfl
  | [p] => by simp [joinN]
  | p :: q :: r => by rw [joinN, joinN_nil (q :: r)]; simp
theorem strs_map : ∀ ps : List (List Nat), strsOf (ps.map .str) = some ps
  | [] => rfl
  | p :: ps => by
    show (strsOf (ps.map .str)).map (p :: ·) = _
    rw [strs_map ps]
    rfl
theorem join_ok {S : List Nat} {ps : List (List Nat)} (h : (ps.map (·.length)).sum + ps.length * S.length ≤ 16777216) : joinD (.str S) (.lst (ps.map .str)) = some (.str (joinN S ps)) := by
  unfold joinD
  show (match strsOf (ps.map .str) with | some ps => _ | none => _) = _
  rw [strs_map]
  exact if_pos h
theorem flat_ones : ∀ z : List Nat, (z.map fun c => [c]).flatten = z
  | [] => rfl
  | c :: z => by simp [flat_ones z]
theorem sum_ones : ∀ z : List Nat, ((z.map fun c => [c]).map (·.length)).sum = z.length
  | [] => rfl
  | c :: z => by rw [List.map_cons, List.map_cons, List.sum_cons, sum_ones z]; simp; omega
theorem join_chrs {z : List Nat} (h : z.length ≤ 1000000) : joinD (.str []) (.lst (chrs z)) = some (.str z) := by
  have e : chrs z = (z.map fun c => [c]).map .str := by unfold chrs; rw [List.map_map]; rfl
  rw [e, join_ok, joinN_nil, flat_ones]
  rw [sum_ones]
  simp
  omega
theorem toPyL_strs : ∀ zs : List (List Nat), toPyL (zs.map .str) = some (zs.map fun z => .str ⟨z.toArray⟩)
  | [] => by simp [toPyL]
  | z :: zs => by simp [toPyL, toPy, toPyL_strs zs]
theorem lay_strs : ∀ {zs : List (List Nat)}, (∀ z ∈ zs, Tx 1000 z) → PyData.canLayAll0 (zs.map fun z => .str ⟨z.toArray⟩) = true ∧ PyData.depthAll (zs.map fun z => .str ⟨z.toArray⟩) = 0 ∧ PyData.weightAll (zs.map fun z => .str ⟨z.toArray⟩) ≤ zs.length * 1001 ∧ PyData.intsShortAll 13 (zs.map fun z => .str ⟨z.toArray⟩) = true ∧ PyData.showableAll (zs.map fun z => .str ⟨z.toArray⟩) = true
  | [], _ => by simp [PyData.canLayAll0, PyData.depthAll, PyData.weightAll, PyData.intsShortAll, PyData.showableAll]
  | z :: zs, h => by
    obtain ⟨h1, h2, h3, h4, h5⟩ := lay_strs fun x m => h x (.tail _ m)
    have hz := h z (.head _)
    refine ⟨?_, ?_, ?_, ?_, ?_⟩
    · rw [List.map_cons, PyData.canLayAll0, h1]
      simp only [PyData.canLay0, Bool.and_true, PyData.strOk]
      simpa using hz.2
    · rw [List.map_cons, PyData.depthAll, h2, PyData.depth]; rfl
    · rw [List.map_cons, PyData.weightAll, PyData.weight, List.length_cons]
      have := hz.1
      simp only [List.size_toArray]
      omega
    · rw [List.map_cons, PyData.intsShortAll, h4, PyData.intsShort]; rfl
    · rw [List.map_cons, PyData.showableAll, h5, PyData.showable]; rfl
theorem str_beq (a b : List Nat) : PyData.eqv (.str ⟨a.toArray⟩) (.str ⟨b.toArray⟩) = decide (a = b) := by
  rw [PyData.eqv]
  by_cases h : a = b
  · subst h
    simp
  · rw [decide_eq_false h]
    have : (⟨a.toArray⟩ : Str) ≠ ⟨b.toArray⟩ := fun z => by
      have z2 : a.toArray = b.toArray := Str.mk.inj z
      exact h (by simpa using z2)
    simpa using this
theorem any_strs (a : List Nat) : ∀ zs : List (List Nat), ((zs.map fun z => PyData.str ⟨z.toArray⟩).any fun z => PyData.eqv z (.str ⟨a.toArray⟩)) = decide (a ∈ zs)
  | [] => rfl
  | z :: zs => by
    rw [List.map_cons, List.any_cons, any_strs a zs, str_beq]
    by_cases h : a = z
    · subst h; simp
    · have h' : ¬ z = a := fun e => h e.symm
      simp [h, h']
theorem shaped_str {n : Nat} {a : List Nat} (h : Tx n a) : SeqAt.shaped (.str ⟨a.toArray⟩) = true := by
  unfold SeqAt.shaped
  simp only [PyData.canLay0, PyData.strOk, PyData.depth]
  simpa using h.2
theorem shaped_strs {zs : List (List Nat)} (h : ∀ z ∈ zs, Tx 1000 z) : SeqAt.shaped (.list (zs.map fun z => .str ⟨z.toArray⟩)) = true ∧ SeqAt.shaped (.tuple (zs.map fun z => .str ⟨z.toArray⟩)) = true := by
  obtain ⟨h1, h2, _⟩ := lay_strs h
  unfold SeqAt.shaped
  simp only [PyData.canLay0, h1, PyData.depth, h2]
  exact ⟨rfl, rfl⟩
theorem in_strs {n : Nat} {a : List Nat} {zs : List (List Nat)} (ha : Tx n a) (h : ∀ z ∈ zs, Tx 1000 z) : inD (.str a) (.lst (zs.map .str)) = some (.bl (decide (a ∈ zs))) := by
  have e : inP (.str a) (.lst (zs.map .str)) = some (decide (a ∈ zs)) := by
    unfold inP
    split
    · rename_i q; cases q
    · rename_i ds _ q
      cases q
      rw [toPy, toPy, toPyL_strs]
      simp only [Option.map_some, shaped_str ha, (shaped_strs h).1, Bool.and_self, if_true, any_strs]
    · rename_i q; cases q
    · rename_i q _ _; exact absurd rfl (q _)
  unfold inD
  rw [e]
  rfl
theorem bols_map {α : Type} (f : α → Bool) : ∀ xs : List α, bolsOf (xs.map fun x => .bl (f x)) = some (xs.map f)
  | [] => rfl
  | x :: xs => by
    show (bolsOf _).map (_ :: ·) = _
    rw [bols_map f xs]
    rfl
theorem all_map {α : Type} (f : α → Bool) (xs : List α) : allD [.lst (xs.map fun x => .bl (f x))] = some (.bl (xs.all f)) := by
  unfold allD
  simp only [bols_map, Option.map_some, List.all_map]
  rfl
end DL
namespace DL
open PySem
mutual
def wt : D → Nat
  | .str z => z.length
  | .tup ds => wtL ds + 1
  | .lst ds => wtL ds + 1
  | .int _ => 70
  | _ => 1
def wtL : List D → Nat
  | [] => 0
  | d :: ds => wt d + 1 + wtL ds
end
mutual
def nic : Nat → D → Bool
  | _, .non => true
  | _, .bl _ => true
  | _, .int i => decide (i.natAbs < 10 ^ 20)
  | _, .str z => z.all fun c => decide (c < 1114112)
  | n + 1, .tup ds => nicL n ds
  | n + 1, .lst ds => nicL n ds
  | _, _ => false
def nicL : Nat → List D → Bool
  | _, [] => true
  | n, d :: ds => nic n d && nicL n ds
end
mutual
def py : D → PyData
  | .non => .none
  | .bl b => .bool b
  | .int i => .int i
  | .str s => .str ⟨s.toArray⟩
  | .tup ds => .tuple (pyL ds)
  | .lst ds => .list (pyL ds)
  | _ => .none
def pyL : List D → List PyData
  | [] => []
  | d :: ds => py d :: pyL ds
end
mutual
def deq : D → D → Bool
  | .non, .non => true
  | .bl a, .bl b => a == b
  | .bl a, .int j => (if a then 1 else 0) == j
  | .int i, .bl b => i == (if b then 1 else 0)
  | .int i, .int j => i == j
  | .str x, .str y => decide (x = y)
  | .lst xs, .lst ys => deqL xs ys
  | .tup xs, .tup ys => deqL xs ys
  | _, _ => false
def deqL : List D → List D → Bool
  | [], [] => true
  | x :: xs, y :: ys => deq x y && deqL xs ys
  | _, _ => false
end
theorem int20 {i : Int} (h : i.natAbs < 10 ^ 20) : i.natAbs.log2 < 67 := PySem.Flt.log2_lt_of (k := 67) (by decide) (Nat.lt_of_lt_of_le h (by decide))
theorem shown20 {i : Int} (h : i.natAbs < 10 ^ 20) : (PyData.shown (.int i)).length ≤ 21 := by
  have e := int_text_length_le10 (k := 20) (by decide) h
  show (Str.ofString (toString i)).length ≤ 21
  rw [ofString_length]; exact e
structure NicP (n : Nat) (w : Nat) (p : PyData) : Prop where
  lay : p.canLay0 = true
  dep : p.depth ≤ n
  sho : p.showable = true
  lea : p.leavesShort 25 = true
  wei : p.weight ≤ w
  nod : p.hasDict = false
structure NicL (n : Nat) (w : Nat) (p : List PyData) : Prop where
  lay : PyData.canLayAll0 p = true
  dep : PyData.depthAll p ≤ n
  sho : PyData.showableAll p = true
  lea : PyData.leavesShortAll 25 p = true
  wei : PyData.weightAll p ≤ w
  nod : PyData.hasDictAll p = false
mutual
theorem nic_ok : ∀ (n : Nat) (d : D), nic n d = true → toPy d = some (py d) ∧ NicP n (wt d) (py d)
  | n, .non, _ => ⟨by simp [toPy, py], by constructor <;> simp [py, PyData.canLay0, PyData.depth, PyData.showable, PyData.leavesShort, PyData.weight, PyData.hasDict, wt]⟩
  | n, .bl _, _ => ⟨by simp [toPy, py], by constructor <;> simp [py, PyData.canLay0, PyData.depth, PyData.showable, PyData.leavesShort, PyData.weight, PyData.hasDict, wt]⟩
  | n, .int i, h => by
    have h' : i.natAbs < 10 ^ 20 := by simpa [nic] using h
    have hl := int20 h'
    refine ⟨by simp [toPy, py], ?_⟩
    constructor <;> simp [py, PyData.canLay0, PyData.depth, PyData.showable, PyData.leavesShort, PyData.hasDict]
    · omega
    · have := shown20 h'; omega
    · simp only [PyData.weight, wt]
      split <;> omega
  | n, .str z, h => by
    have h' : ∀ c ∈ z, c < 1114112 := by simpa [nic] using h
    refine ⟨by simp [toPy, py], ?_⟩
    constructor <;> simp [py, PyData.canLay0, PyData.depth, PyData.showable, PyData.leavesShort, PyData.hasDict, PyData.strOk, PyData.weight, wt]
    · exact h'
    · intro c hc; have := h' c hc; omega
  | n + 1, .tup ds, h => by
    obtain ⟨e, q⟩ := nicL_ok n ds (by simpa [nic] using h)
    refine ⟨by rw [toPy, e]; simp [py], ?_⟩
    constructor <;> simp only [py, PyData.canLay0, PyData.depth, PyData.showable, PyData.leavesShort, PyData.hasDict, PyData.weight, wt]
    · exact q.lay
    · exact Nat.succ_le_succ q.dep
    · exact q.sho
    · exact q.lea
    · exact Nat.le_succ_of_le q.wei
    · exact q.nod
  | n + 1, .lst ds, h => by
    obtain ⟨e, q⟩ := nicL_ok n ds (by simpa [nic] using h)
    refine ⟨by rw [toPy, e]; simp [py], ?_⟩
    constructor <;> simp only [py, PyData.canLay0, PyData.depth, PyData.showable, PyData.leavesShort, PyData.hasDict, PyData.weight, wt]
    · exact q.lay
    · exact Nat.succ_le_succ q.dep
    · exact q.sho
    · exact q.lea
    · exact Nat.le_succ_of_le q.wei
    · exact q.nod
  | 0, .tup _, h => by simp [nic] at h
  | 0, .lst _, h => by simp [nic] at h
  | n, .dic _ _, h => by simp [nic] at h
  | n, .ins _ _ _, h => by simp [nic] at h
  | n, .scr _, h => by simp [nic] at h
  | n, .xc _ _ _ _, h => by simp [nic] at h
theorem nicL_ok : ∀ (n : Nat) (ds : List D), nicL n ds = true → toPyL ds = some (pyL ds) ∧ NicL n (wtL ds) (pyL ds)
  | n, [], _ => ⟨by simp [toPyL, pyL], by constructor <;> simp [pyL, PyData.canLayAll0, PyData.depthAll, PyData.showableAll, PyData.leavesShortAll, PyData.weightAll, PyData.hasDictAll, wtL]⟩
  | n, d :: ds, h => by
    have h' : nic n d = true ∧ nicL n ds = true := by simpa [nicL] using h
    obtain ⟨e1, q1⟩ := nic_ok n d h'.1
    obtain ⟨e2, q2⟩ := nicL_ok n ds h'.2
    refine ⟨by simp [toPyL, e1, e2, pyL], ?_⟩
    have := q1.wei
    have := q2.wei
    have := q1.dep
    have := q2.dep
    constructor <;> simp only [pyL, PyData.canLayAll0, PyData.depthAll, PyData.showableAll, PyData.leavesShortAll, PyData.weightAll, PyData.hasDictAll, wtL]
    · rw [q1.lay, q2.lay]; rfl
    · omega
    · rw [q1.sho, q2.sho]; rfl
    · rw [q1.lea, q2.lea]; rfl
    · omega
    · rw [q1.nod, q2.nod]; rfl
end
theorem shaped_nic {n : Nat} {d : D} (h : nic n d = true) (hn : n ≤ 60) : toPy d = some (py d) ∧ SeqAt.shaped (py d) = true := by
  obtain ⟨e, q⟩ := nic_ok n d h
  refine ⟨e, ?_⟩
  unfold SeqAt.shaped
  rw [q.lay]
  have := q.dep
  simp only [Bool.true_and, decide_eq_true_eq]
  omega
theorem str_eqv (x y : List Nat) : ((⟨x.toArray⟩ : Str) == ⟨y.toArray⟩) = decide (x = y) := by
  have := str_beq x y
  rw [PyData.eqv] at this
  exact this
mutual
theorem deq_py : ∀ (n m : Nat) (a b : D), nic n a = true → nic m b = true → PyData.eqv (py a) (py b) = deq a b
  | n, m, .non, b, _, hb => by cases b <;> simp [py, PyData.eqv, deq] <;> simp [nic] at hb
  | n, m, .bl x, b, _, hb => by cases b <;> simp [py, PyData.eqv, deq] <;> simp [nic] at hb
  | n, m, .int x, b, _, hb => by cases b <;> simp [py, PyData.eqv, deq] <;> simp [nic] at hb
  | n, m, .str x, b, _, hb => by cases b <;> simp [py, PyData.eqv, deq, str_eqv] <;> simp [nic] at hb
  | n + 1, m, .tup x, b, ha, hb => by
    cases b with
    | tup y =>
      cases m with
      | zero => simp [nic] at hb
      | succ m =>
        simp only [py, PyData.eqv, deq]
        exact deqL_py n m x y (by simpa [nic] using ha) (by simpa [nic] using hb)
    | _ => simp [py, PyData.eqv, deq] <;> simp [nic] at hb
  | n + 1, m, .lst x, b, ha, hb => by
    cases b with
    | lst y =>
      cases m with
      | zero => simp [nic] at hb
      | succ m =>
        simp only [py, PyData.eqv, deq]
        exact deqL_py n m x y (by simpa [nic] using ha) (by simpa [nic] using hb)
    | _ => simp [py, PyData.eqv, deq] <;> simp [nic] at hb
  | 0, m, .tup _, b, h, _ => by simp [nic] at h
  | 0, m, .lst _, b, h, _ => by simp [nic] at h
  | n, m, .dic _ _, b, h, _ => by simp [nic] at h
  | n, m, .ins _ _ _, b, h, _ => by simp [nic] at h
  | n, m, .scr _, b, h, _ => by simp [nic] at h
  | n, m, .xc _ _ _ _, b, h, _ => by simp [nic] at h
theorem deqL_py : ∀ (n m : Nat) (a b : List D), nicL n a = true → nicL m b = true → PyData.eqvAll (pyL a) (pyL b) = deqL a b
  | n, m, [], [], _, _ => by simp [pyL, PyData.eqvAll, deqL]
  | n, m, [], _ :: _, _, _ => by simp [pyL, PyData.eqvAll, deqL]
  | n, m, _ :: _, [], _, _ => by simp [pyL, PyData.eqvAll, deqL]
  | n, m, x :: xs, y :: ys, h, k => by
    have h' : nic n x = true ∧ nicL n xs = true := by simpa [nicL] using h
    have k' : nic m y = true ∧ nicL m ys = true := by simpa [nicL] using k
    simp only [pyL, PyData.eqvAll, deqL]
    rw [deq_py n m x y h'.1 k'.1, deqL_py n m xs ys h'.2 k'.2]
end
theorem eqP_nic {n m : Nat} {a b : D} (ha : nic n a = true) (hb : nic m b = true) (hn : n ≤ 60) (hm : m ≤ 60) : eqP a b = some (deq a b) := by
  have e : eqS a b = some (deq a b) := by
    obtain ⟨e1, s1⟩ := shaped_nic ha hn
    obtain ⟨e2, s2⟩ := shaped_nic hb hm
    unfold eqS
    rw [e1, e2]
    simp only [s1, s2, Bool.and_self, if_true, deq_py n m a b ha hb]
  unfold eqP
  split
  · simp [deq]
  · simp [deq]; rw [Bool.eq_iff_iff]; simp
  · simp [deq]; rw [Bool.eq_iff_iff]; simp
  · simp [deq]
  · exact e
theorem eq_nic {n m : Nat} {a b : D} (ha : nic n a = true) (hb : nic m b = true) (hn : n ≤ 60) (hm : m ≤ 60) : eqD a b = some (.bl (deq a b)) := by unfold eqD; rw [eqP_nic ha hb hn hm]; rfl
theorem ne_nic {n m : Nat} {a b : D} (ha : nic n a = true) (hb : nic m b = true) (hn : n ≤ 60) (hm : m ≤ 60) : neD a b = some (.bl (!deq a b)) := by unfold neD; rw [eqP_nic ha hb hn hm]; rfl
theorem nicL_iff {n : Nat} : ∀ {ds : List D}, nicL n ds = true ↔ ∀ d ∈ ds, nic n d = true
  | [] => by simp [nicL]
  | d :: ds => by simp [nicL, nicL_iff (ds := ds)]
theorem nic_strs {n : Nat} {zs : List (List Nat)} (h : ∀ z ∈ zs, ∀ c ∈ z, c < 1114112) : nicL n (zs.map .str) = true := nicL_iff.mpr fun d m => by
  obtain ⟨z, hz, rfl⟩ := List.mem_map.mp m
  simpa [nic] using h z hz
theorem deqL_strs : ∀ {A B : List (List Nat)}, deqL (A.map .str) (B.map .str) = decide (A = B)
  | [], [] => by simp [deqL]
  | [], _ :: _ => by simp [deqL]
  | _ :: _, [] => by simp [deqL]
  | a :: A, b :: B => by
    simp only [List.map_cons, deqL, deq, deqL_strs (A := A) (B := B)]
    by_cases h : a = b <;> by_cases k : A = B <;> simp [h, k]
mutual
theorem nic_mono : ∀ (n m : Nat) (d : D), n ≤ m → nic n d = true → nic m d = true
  | n, m, .non, _, _ => by simp [nic]
  | n, m, .bl _, _, _ => by simp [nic]
  | n, m, .int _, _, h => by simpa [nic] using h
  | n, m, .str _, _, h => by simpa [nic] using h
  | n + 1, m + 1, .tup ds, k, h => by
    have := nicL_mono n m ds (by omega) (by simpa [nic] using h)
    simpa [nic] using this
  | n + 1, m + 1, .lst ds, k, h => by
    have := nicL_mono n m ds (by omega) (by simpa [nic] using h)
    simpa [nic] using this
  | n + 1, 0, .tup _, k, h => by omega
  | n + 1, 0, .lst _, k, h => by omega
  | 0, m, .tup _, _, h => by simp [nic] at h
  | 0, m, .lst _, _, h => by simp [nic] at h
  | n, m, .dic _ _, _, h => by simp [nic] at h
  | n, m, .ins _ _ _, _, h => by simp [nic] at h
  | n, m, .scr _, _, h => by simp [nic] at h
  | n, m, .xc _ _ _ _, _, h => by simp [nic] at h
theorem nicL_mono : ∀ (n m : Nat) (ds : List D), n ≤ m → nicL n ds = true → nicL m ds = true
  | n, m, [], _, _ => by simp [nicL]
  | n, m, d :: ds, k, h => by
    have h' : nic n d = true ∧ nicL n ds = true := by simpa [nicL] using h
    simp only [nicL, nic_mono n m d k h'.1, nicL_mono n m ds k h'.2, Bool.and_self]
end
theorem nic_tup {n : Nat} {ds : List D} : nic (n + 1) (.tup ds) = nicL n ds := by simp [nic]
theorem nic_lst {n : Nat} {ds : List D} : nic (n + 1) (.lst ds) = nicL n ds := by simp [nic]
end DL
namespace DL
open PySem PySem.W
abbrev LX (xs ys : List PyData) : Bool := PyProof.Rows.lexLt PyProof.Rows.itemOrd (keyToksAll xs) (keyToksAll ys)
theorem LX_nil : LX [] [] = false := PyProof.Rows.lex_irrefl _
theorem LX_cons {x y : PyData} {xs ys : List PyData} (h : alike x y = true) : LX (x :: xs) (y :: ys) = if PyData.eqv x y = true then LX xs ys else dataLt x y := by
  by_cases e : PyData.eqv x y = true
  · rw [if_pos e]; exact dataLt_all_yes h e
  · rw [if_neg e]; exact dataLt_all_no h (by simpa using e)
def pr (z : List Nat) : PyData := .tuple [.int z.length, .str ⟨z.toArray⟩]
theorem pr_alike (z w : List Nat) : alike (pr z) (pr w) = true := by simp [pr, alike, alikeAll]
theorem int_alike (i j : Int) : alike (.int i) (.int j) = true := by simp [alike]
theorem str_alike (i j : Str) : alike (.str i) (.str j) = true := by simp [alike]
theorem int_eqv (i j : Int) : PyData.eqv (.int i) (.int j) = decide (i = j) := by
  rw [PyData.eqv]
  by_cases h : i = j <;> simp [h]
theorem pr_eqv (z w : List Nat) : PyData.eqv (pr z) (pr w) = decide (z = w) := by
  unfold pr
  rw [PyData.eqv, PyData.eqvAll, PyData.eqvAll, PyData.eqvAll, int_eqv, str_beq]
  by_cases h : z = w
  · subst h; simp
  · simp [h]
def labLt (z w : List Nat) : Bool := decide (z.length < w.length) || (decide (z.length = w.length) && decide (z < w))
theorem pr_lt {z w : List Nat} (h : z ≠ w) : dataLt (pr z) (pr w) = labLt z w := by
  unfold pr labLt
  rw [dataLt_tuple]
  show LX _ _ = _
  rw [LX_cons (int_alike _ _), int_eqv]
  by_cases e : z.length = w.length
  · have e' : (z.length : Int) = (w.length : Int) := by omega
    have e2 : ¬ z.length < w.length := by omega
    rw [if_pos (decide_eq_true e'), LX_cons (str_alike _ _), str_beq, if_neg (by simpa using h), dataLt_str]
    simp [e]
  · have e' : ¬ (z.length : Int) = (w.length : Int) := by omega
    rw [if_neg (by simpa using e'), dataLt_int]
    simp only [e, decide_false, Bool.false_and, Bool.or_false]
    rw [decide_eq_decide]
    omega
def rowLt : List (List Nat) → List (List Nat) → Bool
  | z :: A, w :: B => if z = w then rowLt A B else labLt z w
  | _, _ => false
theorem LX_rows : ∀ (A B : List (List Nat)), A.length = B.length → LX (A.map pr) (B.map pr) = rowLt A B
  | [], [], _ => LX_nil
  | z :: A, w :: B, h => by
    rw [List.map_cons, List.map_cons, LX_cons (pr_alike _ _), pr_eqv, rowLt]
    by_cases e : z = w
    · rw [if_pos (decide_eq_true e), if_pos e, LX_rows A B (by simpa using h)]
    · rw [if_neg (by simpa using e), if_neg e, pr_lt e]
  | [], _ :: _, h => by simp at h
  | _ :: _, [], h => by simp at h
def beforeW (A B : List (List Nat)) : Bool := if A.length = B.length then rowLt A B else decide (A.length < B.length)
def keyW (A : List (List Nat)) : D := .tup [.int A.length, .tup (A.map fun z => .tup [.int z.length, .str z])]
theorem toPy_prs : ∀ A : List (List Nat), toPyL (A.map fun z => .tup [.int z.length, .str z]) = some (A.map pr)
  | [] => by simp [toPyL]
  | z :: A => by simp [toPyL, toPy, toPy_prs A, pr]
theorem alike_prs : ∀ A B : List (List Nat), alikeAll (A.map pr) (B.map pr) = true
  | z :: A, w :: B => by
    rw [List.map_cons, List.map_cons, alikeAll, pr_alike, alike_prs A B]
    rfl
  | [], _ => by simp [alikeAll]
  | _ :: _, [] => by simp [alikeAll]
theorem depth_prs : ∀ A : List (List Nat), PyData.depthAll (A.map pr) ≤ 1
  | [] => by simp [PyData.depthAll]
  | z :: A => by
    rw [List.map_cons, PyData.depthAll]
    have := depth_prs A
    have h : (pr z).depth = 1 := by simp [pr, PyData.depth, PyData.depthAll]
    omega
theorem key_lt (A B : List (List Nat)) : ltD (keyW A) (keyW B) = some (.bl (beforeW A B)) := by
  have e : ltP (keyW A) (keyW B) = some (beforeW A B) := by
    have tA : ∀ A, toPy (keyW A) = some (.tuple [.int A.length, .tuple (A.map pr)]) := fun A => by
      unfold keyW
      simp [toPy, toPyL, toPy_prs]
    unfold ltP
    rw [tA, tA]
    have c : (alike (.tuple [.int A.length, .tuple (A.map pr)]) (.tuple [.int B.length, .tuple (B.map pr)]) && decide ((PyData.tuple [.int A.length, .tuple (A.map pr)]).depth ≤ 60) && (ltP.isNonP (.tuple [.int A.length, .tuple (A.map pr)]) == false)) = true := by
      have h1 := depth_prs A
      have h2 : (PyData.tuple [.int A.length, .tuple (A.map pr)]).depth ≤ 60 := by
        simp only [PyData.depth, PyData.depthAll]
        omega
      rw [decide_eq_true h2]
      simp [alike, alikeAll, alike_prs, ltP.isNonP]
    simp only [c, if_true]
    congr 1
    rw [dataLt_tuple]
    show LX _ _ = _
    rw [LX_cons (int_alike _ _), int_eqv]
    unfold beforeW
    by_cases h : A.length = B.length
    · have h' : (A.length : Int) = (B.length : Int) := by omega
      rw [if_pos (decide_eq_true h'), if_pos h, LX_cons (by simp [alike, alike_prs])]
      by_cases h2 : PyData.eqv (.tuple (A.map pr)) (.tuple (B.map pr)) = true
      · rw [if_pos h2, LX_nil, ← LX_rows A B h]
        have := (toksAll_eqv (A.map pr) (B.map pr) (alike_prs A B)).1 (by rw [PyData.eqv] at h2; exact h2)
        show _ = PyProof.Rows.lexLt PyProof.Rows.itemOrd (keyToksAll (A.map pr)) (keyToksAll (B.map pr))
        rw [this]
        exact (PyProof.Rows.lex_irrefl _).symm
      · rw [if_neg h2, dataLt_tuple]
        exact LX_rows A B h
    · have h' : ¬ (A.length : Int) = (B.length : Int) := by omega
      rw [if_neg (by simpa using h'), if_neg h, dataLt_int, decide_eq_decide]
      omega
  unfold keyW at *
  show (ltP _ _).map D.bl = _
  rw [e]
  rfl
end DL
namespace FN
open DL
def b_row_key_aaf9 (a0 : D) : R (Fl Unit Empty) := (do let v26 ← (do let r24 ← (do let x22 ← (do let r3 ← (do let x1 ← (pure a0); let r2 ← pure []; pure (x1 :: r2)); DL.ask (lenD r3)); let r23 ← (do let x20 ← (do let r19 ← (do let x17 ← (mkL (do let r16 ← (do let r4 ← (pure a0); DL.ask (itD r4)); lcF (fun d => some d) (fun (c6 : D) => pure true) (fun (c6 : D) => (do let r14 ← (do let x12 ← (do let r9 ← (do let x7 ← (pure c6); let r8 ← pure []; pure (x7 :: r8)); DL.ask (lenD r9)); let r13 ← (do let x10 ← (pure c6); let r11 ← pure []; pure (x10 :: r11)); pure (x12 :: r13)); let r15 ← DL.ask (szL r14); pure (.tup r15))) r16)); let r18 ← pure []; pure (x17 :: r18)); DL.ask (tupleD r19)); let r21 ← pure []; pure (x20 :: r21)); pure (x22 :: r23)); let r25 ← DL.ask (szL r24); pure (.tup r25)); pure (.rt v26))
def m_row_key_aaf9 : List D → R D := apR1 fun a0 => runR false (b_row_key_aaf9 a0)
theorem n_row_key_aaf9 : ∀ ds : List D, m_row_key_aaf9 ds ≠ .stuck → ds.length = 1 := apR1_len _
def b_host_key_aabf (a0 : D) : R (Fl Unit Empty) := (do let v5 ← (do let r4 ← (do let x2 ← (do let x1 ← (pure a0); DL.ask (revD x1)); let r3 ← pure []; pure (x2 :: r3)); Mo.lift (m_row_key_aaf9 r4)); pure (.rt v5))
def m_host_key_aabf : List D → R D := apR1 fun a0 => runR false (b_host_key_aabf a0)
def okRow (A : List (List Nat)) : Bool := decide (A.length ≤ 20) && A.all (isLab 20)
theorem row_kids (A : List (List Nat)) : ∀ x ∈ kids (.tup (A.map .str)), tyD x ≠ none := fun x m => by
  obtain ⟨z, _, rfl⟩ := List.mem_map.mp (show x ∈ A.map .str from m)
  simp [tyD]
theorem path_row (A : List (List Nat)) : pathD (.tup (A.map .str)) = okRow A := by
  rw [pathD_tup, List.length_map, List.all_map]
  rfl
theorem host_row (A : List (List Nat)) : hostD (.tup (A.map .str)) = (okRow A && !A.isEmpty) := by
  unfold hostD
  rw [path_row]
  cases A <;> rfl
theorem is_host_row (A : List (List Nat)) : m_is_host_45ba [.tup (A.map .str)] = .ok (.bl (okRow A && !A.isEmpty)) := by
  rw [is_host_ok (d := .tup (A.map .str)) rfl (row_kids A), host_row]
theorem row_key_ok {A : List (List Nat)} (h : A.length ≤ 1000000) : m_row_key_aaf9 [.tup (A.map .str)] = .ok (keyW A) := by
  unfold m_row_key_aaf9 apR1 b_row_key_aaf9
  have e := lc_map (xe := fun c6 => do
      let r14 ← (do
        let x12 ← (do
          let r9 ← (do
            let x7 ← (pure c6 : R D)
            let r8 ← pure []
            pure (x7 :: r8))
          DL.ask (lenD r9))
        let r13 ← (do
          let x10 ← (pure c6 : R D)
          let r11 ← pure []
          pure (x10 :: r11))
        pure (x12 :: r13))
      let r15 ← DL.ask (szL r14)
      pure (D.tup r15)) (fun d => .tup [.int (match d with | .str z => z.length | _ => 0), d]) (A.map .str) fun d m => by
    obtain ⟨z, _, rfl⟩ := List.mem_map.mp m
    simp only [pure_bind, len_str, askR, sz_ok (ds := [D.int z.length, D.str z]) (by simp)]
  simp only [pure_bind, bind_assoc, len_tup, askR, it_tup, List.length_map] at e ⊢
  rw [e]
  simp only [pure_bind, mkLR, tupleD, askR, sz_ok, List.length_cons, List.length_nil, Nat.reduceAdd, Nat.reduceLeDiff, List.map_map]
  rfl
theorem host_key_ok {A : List (List Nat)} (h : A.length ≤ 1000000) : m_host_key_aabf [.tup (A.map .str)] = .ok (keyW A.reverse) := by
  unfold m_host_key_aabf apR1 b_host_key_aabf
  have e : revD (.tup (A.map .str)) = some (.tup (A.reverse.map .str)) := by
    show some (D.tup (A.map .str).reverse) = _
    rw [List.map_reverse]
  simp only [pure_bind, bind_assoc, e, askR, lift_pR, row_key_ok (A := A.reverse) (by simpa using h), okb]
  rfl
theorem isLab_iff {n : Nat} {z : List Nat} : isLab n z = true ↔ 1 ≤ z.length ∧ z.length ≤ n ∧ ∀ c ∈ z, c ∈ CH := by
  unfold isLab
  simp
theorem ch_lt {c : Nat} (h : c ∈ CH) : c < 1114112 := by
  have : ∀ x ∈ CH, x < 1114112 := by decide
  exact this c h
theorem lab_tx {z : List Nat} (h : isLab 20 z = true) : Tx 20 z := ⟨(isLab_iff.mp h).2.1, fun c m => ch_lt ((isLab_iff.mp h).2.2 c m)⟩
end FN
namespace FN
open DL
def c_MOST_PORT : D := (.int (65535))
def b_default_port_11a4 (a0 : D) : R (Fl Unit Empty) := (do let v3 ← (iteM (do let x1 ← (pure a0); let y2 ← (pure (.str [104, 116, 116, 112])); DL.ask ((eqD x1 y2).bind bOf)) (pure (.int 80)) (pure (.int 443))); pure (.rt v3))
def m_default_port_11a4 : List D → R D := apR1 fun a0 => (runR false (b_default_port_11a4 a0))
end FN
namespace FN
open DL PySem PySem.W
theorem abs_i {i : Int} : absD [.int i] = some (.int (if i < 0 then -i else i)) := rfl
theorem ix_str {z : List Nat} {i : Int} (h0 : 0 ≤ i) (h : i < z.length) : ∃ c, c ∈ z ∧ ixD (.str z) (.int i) = some (.str [c]) := by
  refine ⟨z[i.toNat]'(by omega), List.getElem_mem _, ?_⟩
  unfold ixD L2.atI
  simp only [ixN_ok h0 h]
  show Option.map (fun c => D.str [c]) (z[i.toNat]?) = _
  rw [List.getElem?_eq_getElem (by omega)]
  rfl
theorem tup_lst {ds : List D} : tupleD [.lst ds] = some (.tup ds) := rfl
theorem sub_ii {i j : Int} : subD (.int i) (.int j) = some (.int (i - j)) := rfl
theorem neg_i {i : Int} : negD (.int i) = some (.int (-i)) := rfl
theorem lti {i j : Int} : (ltD (.int i) (.int j)).bind bOf = some (decide (i < j)) := rfl
theorem gti {i j : Int} : (gtD (.int i) (.int j)).bind bOf = some (decide (j < i)) := rfl
def Sm (n W : Nat) (d : D) : Prop := nic n d = true ∧ wt d ≤ W
theorem Sm.mono {n m W V : Nat} {d : D} (h : Sm n W d) (h1 : n ≤ m) (h2 : W ≤ V) : Sm m V d := ⟨nic_mono n m d h1 h.1, Nat.le_trans h.2 h2⟩
theorem add_tt {a b : List D} (h : a.length + b.length ≤ 1000000) : addD (.tup a) (.tup b) = some (.tup (a ++ b)) := if_pos (by rw [sizeLine_eq]; omega)
theorem slice_t {z : List D} {lo hi : Option Int} : sliceD (.tup z) lo hi = some (.tup (cutL z lo hi)) := rfl
theorem join_tup {S : List Nat} {ps : List (List Nat)} (h : (ps.map (·.length)).sum + ps.length * S.length ≤ 16777216) : joinD (.str S) (.tup (ps.map .str)) = some (.str (joinN S ps)) := by
  unfold joinD
  show (match strsOf (ps.map .str) with | some ps => _ | none => _) = _
  rw [strs_map]
  exact if_pos h
theorem sum_le {A : List (List Nat)} {k : Nat} (h : ∀ z ∈ A, z.length ≤ k) : (A.map (·.length)).sum ≤ A.length * k := by
  induction A with
  | nil => simp
  | cons z A ih =>
    have h1 := h z (.head _)
    have h2 := ih fun w m => h w (.tail _ m)
    rw [List.map_cons, List.sum_cons, List.length_cons, Nat.succ_mul]
    omega
theorem le_l {i j : Int} : leD (.int i) (.int j) = some (.bl (decide (i ≤ j))) := rfl
def kHttp : List Nat := [104, 116, 116, 112]
def kHttps : List Nat := [104, 116, 116, 112, 115]
theorem row_sum {A : List (List Nat)} (h : okRow A = true) : A.length ≤ 20 ∧ (A.map (·.length)).sum ≤ 400 := by
  simp only [okRow, Bool.and_eq_true, decide_eq_true_eq, List.all_eq_true] at h
  have := sum_le (A := A) (k := 20) fun z m => (lab_tx (h.2 z m)).1
  exact ⟨h.1, by omega⟩
theorem sz2 {a b : D} : szL [a, b] = some [a, b] := sz_ok (by simp)
end FN
namespace FN
open DL
def b_port_of_e04e (a0 : D) : R (Fl Unit Empty) := (do let t31 ← (DL.orM (do let x1 ← (pure a0); let y2 ← (pure (.str [])); DL.ask ((eqD x1 y2).bind bOf)) (DL.orM (do let x6 ← (do let r5 ← (do let x3 ← (pure a0); let r4 ← pure []; pure (x3 :: r4)); DL.ask (lenD r5)); let y7 ← (pure (.int 5)); DL.ask ((gtD x6 y7).bind bOf)) (do let x10 ← (do let x8 ← (pure a0); let y9 ← (pure (.int 0)); DL.ask (ixD x8 y9)); let y11 ← (pure (.str [48])); DL.ask ((eqD x10 y11).bind bOf)))); seqF (if t31 = true then (do let v13 ← (pure .non); pure (.rt v13)) else (pure (.nx ()))) fun (q12 : Unit) => (do let r30 ← (do let r14 ← (pure a0); DL.ask (itD r14)); seqF (forF (fun d => some d) (fun (q15 : Unit) (c16 : D) => (do let t21 ← (do let x17 ← (pure c16); let y18 ← (pure (.str [48, 49, 50, 51, 52, 53, 54, 55, 56, 57])); DL.ask ((notInD x17 y18).bind bOf)); seqF (if t21 = true then (do let v20 ← (pure .non); pure (.rt v20)) else (pure (.nx ()))) fun (q19 : Unit) => (pure (.nx ())))) r30 ()) fun (q22 : Unit) => (do let v23 ← (do let r26 ← (do let x24 ← (pure a0); let r25 ← pure []; pure (x24 :: r25)); DL.ask (intXD r26)); (do let v29 ← (iteM (do let x27 ← (pure v23); let y28 ← (pure c_MOST_PORT); DL.ask ((leD x27 y28).bind bOf)) (pure v23) (pure .non)); pure (.rt v29)))))
def m_port_of_e04e : List D → R D := apR1 fun a0 => (runR false (b_port_of_e04e a0))
end FN
namespace FN
open DL PySem PySem.W
section
variable {w w' : List Nat} {A A' B B' : List (List Nat)} {i i' : Int}
def dpt (w : List Nat) : Int := if w = kHttp then 80 else 443
def door (w : List Nat) (i : Int) : List Nat := if i = dpt w then [] else [58] ++ numD i
def pre (w : List Nat) (A : List (List Nat)) : List Nat := w ++ [58, 47, 47] ++ joinN [46] A
def ptx (w : List Nat) (A : List (List Nat)) (i : Int) (B : List (List Nat)) : List Nat := pre w A ++ (door w i ++ ([47] ++ joinN [47] B))
def flds (w : List Nat) (A : List (List Nat)) (i : Int) (B : List (List Nat)) : List D := [.str w, .tup (A.map .str), .int i, .tup (B.map .str), .str (ptx w A i B)]
def pgD (w : List Nat) (A : List (List Nat)) (i : Int) (B : List (List Nat)) : D := D.ins "Page" ["scheme", "host", "port", "path", "text"] (flds w A i B)
structure Pg (w : List Nat) (A : List (List Nat)) (i : Int) (B : List (List Nat)) : Prop where
  sw : w = kHttp ∨ w = kHttps
  rA : okRow A = true
  nA : A ≠ []
  i1 : 1 ≤ i
  i2 : i ≤ 65535
  rB : okRow B = true
theorem def_port2 {w : List Nat} (h : w = kHttp ∨ w = kHttps) : m_default_port_11a4 [.str w] = .ok (.int (dpt w)) := by
  rcases h with rfl | rfl <;> rfl
theorem join_row2 {S : List Nat} {A : List (List Nat)} (h : okRow A = true) (hS : S.length ≤ 1) : joinD (.str S) (.tup (A.map .str)) = some (.str (joinN S A)) ∧ (joinN S A).length ≤ 1000 := by
  obtain ⟨h1, h2⟩ := row_sum h
  have h3 : A.length * S.length ≤ 20 * 1 := Nat.mul_le_mul h1 hS
  refine ⟨join_tup (by omega), ?_⟩
  have := joinN_len S A
  omega
theorem join_tx {S : Nat} {A : List (List Nat)} (h : okRow A = true) (hS : S < 1114112) : ∀ c ∈ joinN [S] A, c < 1114112 := by
  simp only [okRow, Bool.and_eq_true, decide_eq_true_eq, List.all_eq_true] at h
  have hA := h.2
  clear h
  induction A with
  | nil => intro c hc; cases hc
  | cons z A ih =>
    have hz := (lab_tx (hA z (.head _))).2
    have ih' := ih fun w m => hA w (.tail _ m)
    cases A with
    | nil => intro c hc; exact hz c (by simpa [joinN] using hc)
    | cons y A =>
      intro c hc
      rw [joinN] at hc
      rcases List.mem_append.mp hc with hc | hc
      · exact hz c hc
      · rcases List.mem_append.mp hc with hc | hc
        · rw [List.mem_singleton.mp hc]; exact hS
        · exact ih' c hc
theorem lab_ok_row (h : okRow A = true) : A.length ≤ 20 ∧ ∀ z ∈ A, isLab 20 z = true := by
  simpa only [okRow, Bool.and_eq_true, decide_eq_true_eq, List.all_eq_true] using h
theorem row_of (h1 : A.length ≤ 20) (h2 : ∀ z ∈ A, isLab 20 z = true) : okRow A = true := by
  simp only [okRow, Bool.and_eq_true, decide_eq_true_eq, List.all_eq_true]; exact ⟨h1, h2⟩
theorem eq_i {i j : Int} : eqD (.int i) (.int j) = some (.bl (decide (i = j))) := rfl
theorem ch_free {s : Nat} (h : ¬ s ∈ CH) {z : List Nat} (hz : isLab 20 z = true) : s ∉ z := fun m => h ((isLab_iff.mp hz).2.2 s m)
theorem split_ok {s : Nat} (hs : s < 256) (hc : ¬ s ∈ CH) (hA : ∀ z ∈ A, isLab 20 z = true) (h0 : A ≠ []) (hl : (joinN [s] A).length ≤ 1000000) : splitD (.str (joinN [s] A)) (.str [s]) = some (A.map .str) := by
  show (if s < 256 ∧ (joinN [s] A).length ≤ 1000000 then some ((TL.spl [s] 0 [] (joinN [s] A)).map D.str) else none) = _
  rw [if_pos ⟨hs, hl⟩, joinN_eq, TL.spl_join h0 fun p m => ch_free hc (hA p m)]
theorem un3_3 {a b c : D} : un3 (.tup [a, b, c]) = some (a, b, c) := rfl
end
end FN
namespace DL
open PySem PySem.Spec PyProof.Rows L2
end DL
namespace FN
open DL PySem PySem.W
theorem par_eq {S : List Nat} : ∀ {z acc p q : List Nat}, TL.par S acc z = some (p, q) → acc ++ z = p ++ (S ++ q)
  | [], acc, p, q, h => by
    have h' : (none : Option (List Nat × List Nat)) = some (p, q) := h
    cases h'
  | c :: r, acc, p, q, h => by
    by_cases hp : TL.pre S (c :: r) = true
    · rw [TL.par_hit hp] at h
      cases h
      have e : (c :: r).take S.length = S := by simpa [TL.pre] using hp
      have e2 := List.take_append_drop S.length (c :: r)
      rw [e] at e2
      rw [e2]
    · rw [TL.par_miss (by simpa using hp)] at h
      have := par_eq h
      simpa using this
theorem spl_len {S : List Nat} : ∀ (z : List Nat) (k : Nat) (acc : List Nat), (TL.spl S k acc z).length ≤ z.length + 1
  | [], k, acc => by rw [TL.spl_nil]; simp
  | x :: r, 0, acc => by
    by_cases hp : TL.pre S (x :: r) = true
    · rw [TL.spl_hit hp]
      have := spl_len (S := S) r (S.length - 1) []
      simp only [List.length_cons]; omega
    · rw [TL.spl_miss (by simpa using hp)]
      have := spl_len (S := S) r 0 (acc ++ [x])
      simp only [List.length_cons]; omega
  | x :: r, k + 1, acc => by
    have := spl_len (S := S) r k acc
    simp only [List.length_cons]
    show (TL.spl S k acc r).length ≤ _
    omega
theorem part_eq {z S : List Nat} (hS : S ≠ []) (hz : z.length ≤ 1000000) : partD (.str z) (.str S) = some (match TL.par S [] z with | some (p, q) => D.tup [.str p, .str S, .str q] | none => D.tup [.str z, .str [], .str []]) := by
  show (if S ≠ [] ∧ z.length ≤ 1000000 then _ else none) = _
  rw [if_pos ⟨hS, hz⟩] <;> rfl
theorem any_py {n m : Nat} {a : D} (ha : nic n a = true) : ∀ {ds : List D}, nicL m ds = true → ((pyL ds).any fun z => PyData.eqv z (py a)) = ds.any fun y => deq y a
  | [], _ => rfl
  | d :: ds, h => by
    have h' : nic m d = true ∧ nicL m ds = true := by simpa [nicL] using h
    simp only [pyL, List.any_cons, deq_py m n d a h'.1 ha, any_py (m := m) ha h'.2]
theorem in_nic {n m : Nat} {a : D} {ds : List D} (ha : nic n a = true) (hb : nicL m ds = true) (hn : n ≤ 60) (hm : m ≤ 59) : inP a (.lst ds) = some (ds.any fun y => deq y a) := by
  obtain ⟨e1, s1⟩ := shaped_nic ha hn
  have hb' : nic (m + 1) (.lst ds) = true := hb
  obtain ⟨e2, s2⟩ := shaped_nic hb' (by omega)
  have e : inP a (.lst ds) = match toPy a, toPy (.lst ds) with
    | some x, some (.list ys) => if SeqAt.shaped x && SeqAt.shaped (.list ys) then some (ys.any fun z => PyData.eqv z x) else none
    | _, _ => none := by
    unfold inP
    cases a with
    | str s => rcases s with _ | ⟨c, _ | _⟩ <;> rfl
    | _ => rfl
  have e3 : py (.lst ds) = .list (pyL ds) := rfl
  rw [e, e1, e2, e3]
  rw [e3] at s2
  show (if (SeqAt.shaped (py a) && SeqAt.shaped (.list (pyL ds))) = true then some ((pyL ds).any fun z => PyData.eqv z (py a)) else none) = _
  rw [if_pos (by rw [s1, s2]; rfl), any_py ha hb]
theorem par_ix {c : Nat} : ∀ {z acc : List Nat}, c ∈ z → TL.par [c] acc z = some (acc ++ z.take (z.idxOf c), z.drop (z.idxOf c + 1))
  | [], _, h => by cases h
  | x :: r, acc, h => by
    by_cases hx : x = c
    · subst hx
      have hp : TL.pre [x] (x :: r) = true := TL.pre_self [x] r
      rw [TL.par_hit hp, List.idxOf_cons_self]
      simp
    · rw [TL.par_miss (TL.pre_of_head [] r hx)]
      have hr : c ∈ r := by
        rcases List.mem_cons.mp h with e | e
        · exact absurd e.symm hx
        · exact e
      have e : (x :: r).idxOf c = r.idxOf c + 1 := by
        have hb : (x == c) = false := beq_eq_false_iff_ne.mpr hx
        rw [List.idxOf_cons, hb]; rfl
      rw [par_ix hr, e]
      simp
theorem notin_sign {z : List Nat} {c : Nat} : (notInD (.str [c]) (.str z)).bind bOf = some (!decide (c ∈ z)) := rfl
theorem cut_to {z : List Nat} {n : Nat} : cutL z none (some (n : Int)) = z.take n := by rw [cut_hi (by omega)]; rfl
theorem sqp {α β γ : Type} {a : α} {k : α → R (Fl γ β)} : seqF (pure (Fl.nx a) : R (Fl α β)) k = k a := rfl
theorem tx1 {c : Nat} (h : c < 1114112) : Tx 1 [c] := ⟨by simp, fun x m => by rw [List.mem_singleton.mp m]; exact h⟩
theorem noexM {α : Type} {a : α} : (Mo.noex (pure a : M α) : M α) = pure a := rfl
theorem isLab_up {n m : Nat} {z : List Nat} (h : isLab n z = true) (w : n ≤ m) : isLab m z = true := by
  obtain ⟨a, b, c⟩ := isLab_iff.mp h
  exact isLab_iff.mpr ⟨a, by omega, c⟩
def Rn (l n : Nat) (d : D) : Prop := ∃ A : List (List Nat), d = .tup (A.map .str) ∧ l ≤ A.length ∧ A.length ≤ n ∧ ∀ z ∈ A, isLab 20 z = true
theorem Rn.up {l n m : Nat} {d : D} (h : Rn l n d) (w : n ≤ m) : Rn l m d := by
  obtain ⟨A, a, b, c, e⟩ := h
  exact ⟨A, a, b, by omega, e⟩
end FN
namespace DL
open PySem PySem.Spec PyProof.Rows L2 NdefX ClX
end DL
namespace DL
open PySem PySem.Spec PyProof.Rows L2
end DL
namespace DL
open PySem PySem.Spec PyProof.Rows PySem.Calls L2 RZ
def zipLD : List D → Option D
  | [.tup xs, .tup ys] => some (.lst (zipL xs ys))
  | _ => none
end DL
namespace DL
open PySem PySem.Spec PyProof.Rows L2
end DL
namespace DL
open PySem PySem.Spec PyProof.Rows L2
section
variable {X : Cx} {fx : Fx} {m : Type → Type} [Mo m] {G : List Sl} {o e : Expr} {pos apos : Pos} {x y : m D} [DL.TC]
def lstripD : D → D → Option D
  | .str a, .str b => if (Txt.lstripChars ⟨a.toArray⟩ ⟨b.toArray⟩).cps.toList.length ≤ sizeLine then some (.str (Txt.lstripChars ⟨a.toArray⟩ ⟨b.toArray⟩).cps.toList) else none
  | _, _ => none
end
end DL
namespace DL
open PySem PySem.Spec PyProof.Rows L2
def indexLD (a b : D) : Option D := match a, b with
  | .lst ds, .str z => match strsOf ds with
    | some ps => if z ∈ ps then some (.int ((ps.idxOf z : Nat) : Int)) else none
    | none => none
  | _, _ => none
end DL
namespace FN
open DL
def c_ALL_PORTS : D := (.tup [(.int (1)), (.int (65535))])
def c_HOST : D := (.str [104, 111, 115, 116])
def c_PATH : D := (.str [112, 97, 116, 104])
def b_ports_of_0eba (a0 : D) : R (Fl Unit Empty) := (do let t40 ← (do let x1 ← (pure a0); let y2 ← (pure (.str [42])); DL.ask ((eqD x1 y2).bind bOf)); seqF (if t40 = true then (do let v4 ← (pure c_ALL_PORTS); pure (.rt v4)) else (pure (.nx ()))) fun (q3 : Unit) => (do let v5 ← (do let x7 ← (pure a0); let _ ← DL.ask (strOf x7); let y8 ← (pure (.str [45])); DL.ask (partD x7 y8)); let c6 ← DL.ask (un3 v5); (do let v9 ← (do let r12 ← (do let x10 ← (pure c6.1); let r11 ← pure []; pure (x10 :: r11)); Mo.lift (m_port_of_e04e r12)); (do let v13 ← (iteM (do let x14 ← (pure c6.2.1); let y15 ← (pure (.str [])); DL.ask ((eqD x14 y15).bind bOf)) (pure v9) (do let r18 ← (do let x16 ← (pure c6.2.2); let r17 ← pure []; pure (x16 :: r17)); Mo.lift (m_port_of_e04e r18))); (do let t39 ← (DL.orM (do let x19 ← (pure v9); let y20 ← (pure .non); DL.ask ((isD x19 y20).bind bOf)) (do let x21 ← (pure v13); let y22 ← (pure .non); DL.ask ((isD x21 y22).bind bOf))); seqF (if t39 = true then (do let v24 ← (pure .non); pure (.rt v24)) else (pure (.nx ()))) fun (q23 : Unit) => (do let t38 ← (DL.andM (do let x25 ← (pure c6.2.1); let y26 ← (pure (.str [45])); DL.ask ((eqD x25 y26).bind bOf)) (do let x27 ← (pure v9); let y28 ← (pure v13); DL.ask ((geD x27 y28).bind bOf))); seqF (if t38 = true then (do let v30 ← (pure .non); pure (.rt v30)) else (pure (.nx ()))) fun (q29 : Unit) => (do let v37 ← (do let r35 ← (do let x33 ← (pure v9); let r34 ← (do let x31 ← (pure v13); let r32 ← pure []; pure (x31 :: r32)); pure (x33 :: r34)); let r36 ← DL.ask (szL r35); pure (.tup r36)); pure (.rt v37))))))))
def m_ports_of_0eba : List D → R D := apR1 fun a0 => (runR false (b_ports_of_0eba a0))
end FN
namespace FN
open DL PySem PySem.W
def isIt (z : List Nat) : Bool := decide (1 ≤ z.length) && decide (z.length ≤ 8) && decide (z.count 42 ≤ 1) && z.all fun c => decide (c = 42) || decide (c ∈ CH)
def gp : List Nat := [42, 42]
theorem it_gap {z : List Nat} (h : isIt z = true) : z ≠ gp := by
  rintro rfl
  revert h
  decide
theorem cut_toD {z : List D} {n : Nat} : cutL z none (some (n : Int)) = z.take n := by rw [cut_hi (by omega)]; rfl
theorem cut_fromD {z : List D} {n : Nat} : cutL z (some ((n : Int) + 1)) none = z.drop (n + 1) := by
  have := cut_lo (z := z) (i := (n : Int) + 1) (by omega)
  rw [this]
  congr 1
def PatI (l0 l1 mh mt : Nat) (I h t : List (List Nat)) (g : Bool) : Prop := (∀ z ∈ h ++ t, isIt z = true) ∧ ((g = false ∧ I = h ∧ t = [] ∧ l0 ≤ h.length ∧ h.length ≤ l1) ∨ (g = true ∧ I = h ++ gp :: t ∧ h.length ≤ mh ∧ t.length ≤ mt))
theorem pat_mem {l0 l1 mh mt : Nat} {I h t : List (List Nat)} {g : Bool} (p : PatI l0 l1 mh mt I h t g) : ∀ z ∈ I, z = gp ∨ isIt z = true := by
  obtain ⟨hz, ⟨rfl, rfl, rfl, h0, h1⟩ | ⟨rfl, rfl, h0, h1⟩⟩ := p
  · exact fun z m => .inr (hz z (by simpa using m))
  · intro z m
    rcases List.mem_append.mp m with m | m
    · exact .inr (hz z (List.mem_append_left _ m))
    · rcases List.mem_cons.mp m with m | m
      · exact .inl m
      · exact .inr (hz z (List.mem_append_right _ m))
theorem it_free {z : List Nat} {s : Nat} (h : z = gp ∨ isIt z = true) (hs : s ∉ CH) (h2 : s ≠ 42) : s ∉ z := by
  intro m
  rcases h with rfl | h
  · simp only [gp, List.mem_cons, List.not_mem_nil, or_false, or_self] at m
    exact h2 m
  · unfold isIt at h
    simp only [Bool.and_eq_true] at h
    have := List.all_eq_true.mp h.2 s m
    simp only [Bool.or_eq_true, decide_eq_true_eq] at this
    rcases this with e | e
    · exact h2 e
    · exact hs e
theorem it_len {z : List Nat} (h : z = gp ∨ isIt z = true) : z.length ≤ 8 := by
  rcases h with rfl | h
  · decide
  · unfold isIt at h
    simp only [Bool.and_eq_true, decide_eq_true_eq] at h
    exact h.1.1.2
theorem join_len {s : Nat} : ∀ {I : List (List Nat)}, (∀ z ∈ I, z.length ≤ 8) → (joinN [s] I).length ≤ 9 * I.length
  | [], _ => Nat.zero_le _
  | [p], h => by
    show p.length ≤ 9 * 1
    have := h p (.head _)
    omega
  | p :: q :: r, h => by
    show (p ++ ([s] ++ joinN [s] (q :: r))).length ≤ _
    have ih := join_len (s := s) (I := q :: r) fun z m => h z (.tail _ m)
    have := h p (.head _)
    simp only [List.length_append, List.length_cons, List.length_nil] at ih ⊢
    omega
def iPd (i j : Int) : D := .tup [.int i, .int j]
def Dr (t : List Nat) (pd : D) : Prop := (t = [] ∧ pd = .non) ∨ ∃ u lo hi, t = 58 :: u ∧ pd = iPd lo hi ∧ 1 ≤ lo ∧ lo ≤ hi ∧ hi ≤ 65535 ∧ m_ports_of_0eba [.str u] = .ok (iPd lo hi) ∧ 47 ∉ u ∧ (∀ c ∈ u, c < 1114112) ∧ u.length ≤ 100
theorem in_strsT {k : Nat} {z : List Nat} {S : List (List Nat)} (h : Tx k z) (hz : ∀ w ∈ S, Tx 1000 w) : inP (.str z) (.tup (S.map .str)) = some (decide (z ∈ S)) := by
  have e : inP (.str z) (.tup (S.map .str)) = match toPy (.str z), toPy (.tup (S.map .str)) with
    | some x, some (.tuple ys) => if SeqAt.shaped x && SeqAt.shaped (.tuple ys) then some (ys.any fun z => PyData.eqv z x) else none
    | _, _ => none := by
    unfold inP
    split
    · rename_i q; cases q
    · rename_i q; cases q
    · rename_i ds _ q; cases q; rfl
    · rename_i q1 q2 q3; first | exact absurd rfl (q1 _) | exact absurd rfl (q2 _) | exact absurd rfl (q3 _)
  rw [e, toPy, toPy, toPyL_strs]
  simp only [Option.map_some, shaped_str h, (shaped_strs hz).2, Bool.and_self, if_true, any_strs]
theorem notin_T {k : Nat} {z : List Nat} {S : List (List Nat)} (h : Tx k z) (hz : ∀ w ∈ S, Tx 1000 w) : (notInD (.str z) (.tup (S.map .str))).bind bOf = some (!decide (z ∈ S)) := by
  unfold notInD
  rw [in_strsT h hz]
  rfl
theorem tx_all {S : List (List Nat)} (h : (S.all fun w => decide (w.length ≤ 1000) && w.all fun c => decide (c < 1114112)) = true) : ∀ w ∈ S, Tx 1000 w := fun w m => by
  have := List.all_eq_true.mp h w m
  simp only [Bool.and_eq_true, decide_eq_true_eq, List.all_eq_true] at this
  exact ⟨this.1, fun c hc => by simpa using this.2 c hc⟩
theorem ix_zero {c : Nat} {r : List Nat} : ixD (.str (c :: r)) (.int 0) = some (.str [c]) := by
  unfold ixD L2.atI
  simp only [ixN_ok (n := (c :: r).length) (i := 0) (Int.le_refl 0) (by simp)]
  rfl
def Sg (s : List Nat) : Prop := s = [43] ∨ s = [45]
def Wd (w : List Nat) : Prop := w = [97, 110, 121] ∨ w = kHttp ∨ w = kHttps
def wrt (t : List Nat) : List Nat := t.drop 1
def ruT (s w nm t pj : List Nat) : List Nat := s ++ [32] ++ w ++ [58, 47, 47] ++ nm ++ t ++ [47] ++ pj
def PNs : List Str := ["text", "level", "head", "tail", "gap"]
def RNs : List Str := ["text", "sign", "scheme", "written_ports", "ports", "near", "host", "path"]
def ptF (x : List Nat) (lv : D) (h t : List (List Nat)) (g : Bool) : List D := [.str x, lv, .tup (h.map .str), .tup (t.map .str), .bl g]
inductive NmK : List Nat → D → D → Prop
  | near {A : List (List Nat)} (h0 : A ≠ []) (hl : A.length ≤ 4) (hA : ∀ z ∈ A, isLab 20 z = true) : NmK (126 :: joinN [46] A) (.tup (A.map .str)) .non
  | host {I h t : List (List Nat)} {g : Bool} (p : PatI 1 4 3 2 I.reverse h t g) (h0 : I ≠ []) (hl : I.length ≤ 10) : NmK (joinN [46] I) .non (.ins "HostPattern" PNs (ptF (joinN [46] I) c_HOST h t g))
theorem nm_len {nm : List Nat} {n h : D} (k : NmK nm n h) : nm.length ≤ 1000 := by
  cases k with
  | near h0 hl hA =>
    have hr : okRow _ = true := row_of (by omega) hA
    have e : ∀ {A : List (List Nat)}, (∀ z ∈ A, z.length ≤ 20) → (joinN [46] A).length ≤ 21 * A.length := by
      intro A
      induction A with
      | nil => intro _; exact Nat.zero_le _
      | cons z r ih =>
        intro h
        cases r with
        | nil =>
          show z.length ≤ 21 * 1
          have := h z (.head _)
          omega
        | cons q r =>
          show (z ++ ([46] ++ joinN [46] (q :: r))).length ≤ _
          have := ih fun z m => h z (.tail _ m)
          have := h z (.head _)
          simp only [List.length_append, List.length_cons, List.length_nil] at *
          omega
    have := e fun z m => (lab_tx (hA z m)).1
    simp only [List.length_cons]
    have hl' := hl
    omega
  | host p h0 hl =>
    have := join_len (s := 46) fun z m => it_len (pat_mem p z (by simpa using m))
    omega
def ruF (s w nm t pj : List Nat) (pd near host path : D) : List D := [.str (ruT s w nm t pj), .str s, .str w, .str (wrt t), pd, near, host, path]
theorem ch36 : CH.length = 36 := rfl
def Lab8 (zs : List (List Nat)) : Prop := zs ≠ [] ∧ zs.length ≤ 10 ∧ ∀ z ∈ zs, isLab 20 z = true
theorem all2_P {P : List Nat → Prop} : ∀ {ds rs : List D}, All2 (fun _ r => ∃ z, r = D.str z ∧ P z) ds rs → ∃ A : List (List Nat), rs = A.map .str ∧ A.length = ds.length ∧ ∀ z ∈ A, P z
  | [], [], _ => ⟨[], rfl, rfl, by simp⟩
  | [], _ :: _, h => by cases h
  | _ :: _, [], h => by cases h
  | d :: ds, r :: rs, h => by
    cases h with
    | cons h1 h2 =>
      obtain ⟨z, rfl, hz⟩ := h1
      obtain ⟨A, rfl, hl, hA⟩ := all2_P h2
      exact ⟨z :: A, rfl, by simp [hl], fun x m => by
        rcases List.mem_cons.mp m with rfl | m
        · exact hz
        · exact hA x m⟩
inductive HpD : D → List Nat → D → D → Prop
  | near {A : List (List Nat)} (h0 : A ≠ []) (hl : A.length ≤ 4) (hA : ∀ z ∈ A, isLab 20 z = true) : HpD (.tup [.str [126], .tup (A.map .str)]) (126 :: joinN [46] A) (.tup (A.map .str)) .non
  | host {I h t : List (List Nat)} {g : Bool} (p : PatI 1 4 3 2 I.reverse h t g) (h0 : I ≠ []) (hl : I.length ≤ 10) : HpD (.tup [.str [], .lst (I.map .str)]) (joinN [46] I) .non (.ins "HostPattern" PNs (ptF (joinN [46] I) c_HOST h t g))
theorem HpD.nm {d : D} {nm : List Nat} {n h : D} (k : HpD d nm n h) : NmK nm n h := by
  cases k with
  | near h0 hl hA => exact .near h0 hl hA
  | host p h0 hl => exact .host p h0 hl
inductive PjD : D → List Nat → D → Prop
  | mk {J h t : List (List Nat)} {g : Bool} (p : PatI 0 3 2 2 J h t g) (hl : J.length ≤ 10) : PjD (.lst (J.map .str)) (joinN [47] J) (.ins "PathPattern" PNs (ptF (47 :: joinN [47] J) c_PATH h t g))
theorem sum_le8 {I : List (List Nat)} {k : Nat} (h : ∀ z ∈ I, z.length ≤ k) (hl : I.length ≤ 1000) (hk : k ≤ 100) : (I.map (·.length)).sum + I.length * 1 ≤ 16777216 := by
  have := sum_le h
  have : I.length * k ≤ 1000 * 100 := Nat.mul_le_mul hl hk
  omega
theorem HpD.join {d : D} {nm : List Nat} {n h : D} (k : HpD d nm n h) : ∃ p x r j, d = .tup [.str p, x] ∧ listD [x] = some r ∧ szL r = some r ∧ joinD (.str [46]) (.lst r) = some (.str j) ∧ nm = p ++ j ∧ p.length ≤ 1 ∧ j.length ≤ 1000 := by
  have hn := nm_len k.nm
  cases k with
  | @near A h0 hl hA =>
    refine ⟨[126], .tup (A.map .str), A.map .str, joinN [46] A, rfl, rfl, sz_ok (by rw [List.length_map]; omega), join_ok (sum_le8 (k := 20) (fun z m => (isLab_iff.mp (hA z m)).2.1) (by omega) (by omega)), rfl, by simp, ?_⟩
    simp only [List.length_cons] at hn
    omega
  | @host I h t g p h0 hl =>
    exact ⟨[], .lst (I.map .str), I.map .str, joinN [46] I, rfl, rfl, sz_ok (by rw [List.length_map]; omega), join_ok (sum_le8 (k := 8) (fun z m => it_len (pat_mem p z (by simpa using m))) (by omega) (by omega)), rfl, by simp, hn⟩
inductive RuD : D → List Nat → List D → Prop
  | mk {s w nm t pj : List Nat} {part pd near host path J : D} (hs : Sg s) (hw : Wd w) (ht : Dr t pd) (hn : HpD part nm near host) (hp : PjD J pj path) : RuD (.tup [.str s, .str w, part, pd, J]) (ruT s w nm t pj) (ruF s w nm t pj pd near host path)
end FN
namespace DL
open PySem PySem.Spec PyProof.Rows L2
section
variable {X : Cx} {fx : Fx} {m : Type → Type} [Mo m] {G : List Sl} {α β : Type} {kk : Nat} {e : Expr} {rest : List Stmt} {ex : α → List Sl} {exb : β → List Sl} {pos : Pos} {x : m D} [DL.TC]
theorem dss_augL {n : Str} {pos' : Pos} {k : List D → m (Fl α β)} {ds0 : List D} (C : Cok X fx kk) (i : Nat) (he : PE X e (tE X.K X.mg fx G x)) (hr : ∀ ds, PSs X rest (tS X.K X.mg fx (G.set i (.ow ds)) ex exb (k ds)))
    (hG : G[i]? = some (.ow ds0) := by rfl) (hi : X.N[i]? = some n := by rfl) (hx : Loc X.env.scope n := by first | exact Or.inl rfl | exact Or.inr rfl) (hf : X.fn n = true ∨ X.env.scope.names.lookup n = some .local := by first | exact .inl rfl | exact .inr rfl) (hg : GxOk fx G := by first | exact True.intro | repeat' (first | exact True.intro | exact Or.inl rfl | exact Or.inr rfl | refine And.intro ?_ ?_)) :
    PSs X (.AugAssign (.Name n pos') .Add e pos :: rest) (tS X.K X.mg fx G ex exb (do let d ← x; let r ← DL.ask (extI ds0 [d]); k r)) :=
  pssI (pss_cons (ps_aug (ti := rExt2) C.nd hi hx he (fun pins s σ H x y v u Q => iop_ext pins s σ H x y v u Q) hf) (pss_ex hr)) fun De σ H ⟨Hf, s, h⟩ => by
    obtain ⟨p, vs, ep, hp, hf', h0, nb, l, hz⟩ := h.1.sl i _ hG
    have hi' : i < G.length := (List.getElem?_eq_some_iff.mp hG).1
    have hsl := h.1.len
    refine ⟨.ref p, ep, ((h.bind hg).mono fun v H1 ⟨d, Hf1, s1, sb, r, h1⟩ => ?_).to⟩
    have w1 := Mo.wp_lift (Mo.wp_bind h1.2)
    have st1 := h1.1
    obtain ⟨p1, vs1, ep1, hp1, hf1, _, _, l1, hz1⟩ := st1.sl i _ hG
    have eq : p1 = p := by rw [ep] at ep1; cases ep1; rfl
    subst eq
    cases d with
    | lst fs =>
      by_cases hc : ds0.length + fs.length ≤ sizeLine
      · have e2 : extI ds0 [.lst fs] = some (ds0 ++ fs) := if_pos hc
        rw [e2] at w1
        obtain ⟨hz2, p2, w2, rfl, t2, l2⟩ := r
        refine ⟨p1, p2, vs1, w2, rfl, rfl, hp1, st1.top _ _ t2, by rw [← l1.len, ← l2.len]; exact hc, ?_⟩
        have e1 : σ.set i (some (.ref p1)) = σ := by
          apply List.ext_getElem?
          intro j
          by_cases c : i = j
          · subst c
            rw [List.getElem?_set_self (by rw [hsl]; exact hi'), ep]
          · rw [List.getElem?_set_ne c]
        show ∃ r, tS X.K X.mg fx (G.set i (.ow r)) ex exb (k r) De (σ.set i (some (.ref p1))) (upd H1 p1 (.lst (vs1 ++ w2)))
        rw [e1]
        exact ⟨ds0 ++ fs, Hf1, s1, st1.updOw hG ep (l1.app l2) (by rw [List.length_append]; exact hc), w1⟩
      · have e2 : extI ds0 [.lst fs] = none := if_neg hc
        rw [e2] at w1
        exact w1.elim
    | _ => exact w1.elim
end
section
variable {X : Cx} {fx : Fx} {m : Type → Type} [Mo m] {G : List Sl} {α β : Type} {ss : List Stmt} {ex : α → List Sl} {exb : β → List Sl} [DL.TC]
theorem pss_k {k k' : m (Fl α β)} (e : k = k') (h : PSs X ss (tS X.K X.mg fx G ex exb k')) : PSs X ss (tS X.K X.mg fx G ex exb k) := by
  rw [e]
  exact h
end
section
variable {X : Cx} {fx : Fx} {m : Type → Type} [Mo m] {G : List Sl} {e : Expr} {p p1 p2 pt pos : Pos} {x : m D} {k : Nat} [DL.TC]
def isi2D (T1 T2 : String) (d : D) : Option D := match tyD d with
  | some a => match kitB a T1, kitB a T2 with
    | some b, some c => some (.bl (b || c))
    | _, _ => none
  | none => none
theorem de_isi2 (T1 T2 : String) {n1 n2 : Str} (he : PE X e (tE X.K X.mg fx G x)) (hg : Gl X "isinstance") (hm : X.mg "isinstance" = none) (hg1 : Gl X n1) (hm1 : X.mg n1 = none) (hv1 : bootBuiltins n1 = some (.type T1)) (hg2 : Gl X n2) (hm2 : X.mg n2 = none) (hv2 : bootBuiltins n2 = some (.type T2))
    (hn1 : n1 ≠ "__name__" := by decide) (hdb1 : (n1 == ("__debug__" : Str)) = false := by decide) (hn2 : n2 ≠ "__name__" := by decide) (hdb2 : (n2 == ("__debug__" : Str)) = false := by decide)
    (hs : starEach [e, .Tuple [.Name n1 p1, .Name n2 p2] k pt] X.env = (false, eval e X.env) :: starEach [.Tuple [.Name n1 p1, .Name n2 p2] k pt] X.env := by rfl) (hs2 : starEach [.Tuple [.Name n1 p1, .Name n2 p2] k pt] X.env = (false, eval (.Tuple [.Name n1 p1, .Name n2 p2] k pt) X.env) :: starEach [] X.env := by rfl)
    (hs3 : starEach [.Name n1 p1, .Name n2 p2] X.env = (false, eval (.Name n1 p1) X.env) :: starEach [.Name n2 p2] X.env := by rfl) (hs4 : starEach [.Name n2 p2] X.env = (false, eval (.Name n2 p2) X.env) :: starEach [] X.env := by rfl)
    (hpl : (backTo pos (starEach [.Tuple [.Name n1 p1, .Name n2 p2] k pt] X.env)).any (·.1) = false := by rfl) :
    PE X (.Call (.Name "isinstance" p) [e, .Tuple [.Name n1 p1, .Name n2 p2] k pt] [] pos) (tE X.K X.mg fx G (do let d ← x; ask (isi2D T1 T2 d))) :=
  peI (pe_callB call_isiT hg hm rfl (pa_cons he (pa_cons (pe_tup (pa_cons (pe_bltn (v := .ty T1) hg1 hm1 hv1 rfl hn1 hdb1) (pa_cons (pe_bltn (v := .ty T2) hg2 hm2 hv2 rfl hn2 hdb2) pa_nil hs4) hs3)) pa_nil hs2) hs) (by decide) (by decide) hs hpl) fun σ H Q ⟨Hf, s, h⟩ =>
  (h.bind.mono fun v1 H1 ⟨d1, Hf1, s1, sb1, r1, h1⟩ => by
    obtain ⟨d, e, q⟩ := h1.ask
    unfold isi2D at e
    cases e1 : tyD d1 with
    | none => rw [e1] at e; cases e
    | some a =>
      simp only [e1] at e
      cases e2 : kitB a T1 with
      | none => rw [e2] at e; cases e
      | some b =>
        cases e3 : kitB a T2 with
        | none => rw [e2, e3] at e; cases e
        | some c =>
          rw [e2, e3] at e
          cases e
          refine ⟨(by show 2 ≤ sizeLine; decide), fun t ht => ?_⟩
          have sn : Ste ([] : List Addr) Hf1 H1 Hf1 (upd H1 t (.tup [.ty T1, .ty T2])) := Ste.new' h1.1.top ht
          refine ⟨v1, t, [.ty T1, .ty T2], _, [.type T1, .type T2], (b || c), rfl, upd_same, .cons (.ty T1) (.cons (.ty T2) .nil), tyD_is sn.top r1 e1, ?_, q _ Hf1 _ sn (is_bl _)⟩
          exact kitAny_cons (kit_ty e2) (fun z => by subst z; rw [Bool.false_or]; exact kitAny_cons (kit_ty e3) (fun z => by subst z; rfl) (fun z => z)) (fun z => by subst z; rfl)).to
end
end DL
namespace DL
open PySem PySem.Spec PyProof.Rows L2
end DL
namespace DL
open PySem PySem.Spec PyProof.Rows L2
end DL
namespace FN
open DL PySem PySem.W
def b_label_fits_6e5b (a0 a1 : D) : R (Fl Unit Empty) := (do let v1 ← (do let x3 ← (pure a0); let _ ← DL.ask (strOf x3); let y4 ← (pure (.str [42])); DL.ask (partD x3 y4)); let c2 ← DL.ask (un3 v1); (do let t29 ← (do let x5 ← (pure c2.2.1); let y6 ← (pure (.str [])); DL.ask ((eqD x5 y6).bind bOf)); seqF (if t29 = true then (do let v10 ← (do let x8 ← (pure a0); let y9 ← (pure a1); DL.ask (eqD x8 y9)); pure (.rt v10)) else (pure (.nx ()))) fun (q7 : Unit) => (do let v28 ← (andV (do let x22 ← (do let r13 ← (do let x11 ← (pure a1); let r12 ← pure []; pure (x11 :: r12)); DL.ask (lenD r13)); let y23 ← (do let x20 ← (do let r16 ← (do let x14 ← (pure c2.1); let r15 ← pure []; pure (x14 :: r15)); DL.ask (lenD r16)); let y21 ← (do let r19 ← (do let x17 ← (pure c2.2.2); let r18 ← pure []; pure (x17 :: r18)); DL.ask (lenD r19)); DL.ask (addD x20 y21)); DL.ask (geD x22 y23)) (andV (do let x24 ← (pure a1); let _ ← DL.ask (strOf x24); let y25 ← (pure c2.1); DL.ask (strM (fun a b => .bl (PySem.Txt.startswith ⟨a.toArray⟩ ⟨b.toArray⟩)) x24 y25)) (do let x26 ← (pure a1); let _ ← DL.ask (strOf x26); let y27 ← (pure c2.2.2); DL.ask (strM (fun a b => .bl (PySem.Txt.endswith ⟨a.toArray⟩ ⟨b.toArray⟩)) x26 y27)))); pure (.rt v28))))
theorem e_label_fits_6e5b (a0 a1 : D) : b_label_fits_6e5b a0 a1 = (do let _ ← DL.ask (strOf a0); let v1 ← (DL.ask (partD a0 (.str [42]))); let c2 ← DL.ask (un3 v1); let t29 ← (DL.ask ((eqD c2.2.1 (.str [])).bind bOf)); seqF (if t29 = true then (do let v10 ← (DL.ask (eqD a0 a1)); pure (.rt v10)) else (pure (.nx ()))) fun (q7 : Unit) => (do let v28 ← (andV (do let x22 ← (DL.ask (lenD [a1])); let x20 ← (DL.ask (lenD [c2.1])); let y21 ← (DL.ask (lenD [c2.2.2])); let y23 ← (DL.ask (addD x20 y21)); DL.ask (geD x22 y23)) (andV (do let _ ← DL.ask (strOf a1); DL.ask (strM (fun a b => .bl (PySem.Txt.startswith ⟨a.toArray⟩ ⟨b.toArray⟩)) a1 c2.1)) (do let _ ← DL.ask (strOf a1); DL.ask (strM (fun a b => .bl (PySem.Txt.endswith ⟨a.toArray⟩ ⟨b.toArray⟩)) a1 c2.2.2)))); pure (.rt v28))) := by
  unfold b_label_fits_6e5b; simp only [pure_bind, bind_assoc, mkL]
def m_label_fits_6e5b : List D → R D := apR2 fun a0 a1 => (runR false (b_label_fits_6e5b a0 a1))
def b__law_fits_b893 (a0 a1 : D) : R (Fl Unit Empty) := (do let t53 ← (do let x1 ← (pure (.str [42])); let y2 ← (pure a0); DL.ask ((notInD x1 y2).bind bOf)); seqF (if t53 = true then (do let v6 ← (do let x4 ← (pure a0); let y5 ← (pure a1); DL.ask (eqD x4 y5)); pure (.rt v6)) else (pure (.nx ()))) fun (q3 : Unit) => (do let v7 ← (do let x9 ← (pure a0); let _ ← DL.ask (strOf x9); let y10 ← (pure (.str [42])); DL.ask (partD x9 y10)); let c8 ← DL.ask (un3 v7); (do let t52 ← (do let x22 ← (do let r13 ← (do let x11 ← (pure a1); let r12 ← pure []; pure (x11 :: r12)); DL.ask (lenD r13)); let y23 ← (do let x20 ← (do let r16 ← (do let x14 ← (pure c8.1); let r15 ← pure []; pure (x14 :: r15)); DL.ask (lenD r16)); let y21 ← (do let r19 ← (do let x17 ← (pure c8.2.2); let r18 ← pure []; pure (x17 :: r18)); DL.ask (lenD r19)); DL.ask (addD x20 y21)); DL.ask ((ltD x22 y23).bind bOf)); seqF (if t52 = true then (do let v25 ← (pure (.bl false)); pure (.rt v25)) else (pure (.nx ()))) fun (q24 : Unit) => (do let v51 ← (andV (do let x34 ← (do let x31 ← (pure a1); let l32 ← (pure none); let u33 ← (do let x29 ← (do let r28 ← (do let x26 ← (pure c8.1); let r27 ← pure []; pure (x26 :: r27)); DL.ask (lenD r28)); let i30 ← DL.ask (intOf x29); pure (some i30)); DL.ask (sliceD x31 l32 u33)); let y35 ← (pure c8.1); DL.ask (eqD x34 y35)) (do let x49 ← (do let x46 ← (pure a1); let l47 ← (do let x44 ← (do let x42 ← (do let r38 ← (do let x36 ← (pure a1); let r37 ← pure []; pure (x36 :: r37)); DL.ask (lenD r38)); let y43 ← (do let r41 ← (do let x39 ← (pure c8.2.2); let r40 ← pure []; pure (x39 :: r40)); DL.ask (lenD r41)); DL.ask (subD x42 y43)); let i45 ← DL.ask (intOf x44); pure (some i45)); let u48 ← (pure none); DL.ask (sliceD x46 l47 u48)); let y50 ← (pure c8.2.2); DL.ask (eqD x49 y50))); pure (.rt v51)))))
theorem e__law_fits_b893 (a0 a1 : D) : b__law_fits_b893 a0 a1 = (do let t53 ← (DL.ask ((notInD (.str [42]) a0).bind bOf)); seqF (if t53 = true then (do let v6 ← (DL.ask (eqD a0 a1)); pure (.rt v6)) else (pure (.nx ()))) fun (q3 : Unit) => (do let _ ← DL.ask (strOf a0); let v7 ← (DL.ask (partD a0 (.str [42]))); let c8 ← DL.ask (un3 v7); let x22 ← (DL.ask (lenD [a1])); let x20 ← (DL.ask (lenD [c8.1])); let y21 ← (DL.ask (lenD [c8.2.2])); let y23 ← (DL.ask (addD x20 y21)); let t52 ← (DL.ask ((ltD x22 y23).bind bOf)); seqF (if t52 = true then (pure (.rt (.bl false))) else (pure (.nx ()))) fun (q24 : Unit) => (do let v51 ← (andV (do let x29 ← (DL.ask (lenD [c8.1])); let i30 ← DL.ask (intOf x29); let x34 ← (DL.ask (sliceD a1 none (some i30))); DL.ask (eqD x34 c8.1)) (do let x42 ← (DL.ask (lenD [a1])); let y43 ← (DL.ask (lenD [c8.2.2])); let x44 ← (DL.ask (subD x42 y43)); let i45 ← DL.ask (intOf x44); let x49 ← (DL.ask (sliceD a1 (some i45) none)); DL.ask (eqD x49 c8.2.2))); pure (.rt v51)))) := by
  unfold b__law_fits_b893; simp only [pure_bind, bind_assoc, mkL]
def m__law_fits_b893 : List D → R D := apR2 fun a0 a1 => (runR false (b__law_fits_b893 a0 a1))
def b__law_default_6094 (a0 : D) : R (Fl Unit Empty) := (do let v3 ← (iteM (do let x1 ← (pure a0); let y2 ← (pure (.str [104, 116, 116, 112])); DL.ask ((eqD x1 y2).bind bOf)) (pure (.int 80)) (pure (.int 443))); pure (.rt v3))
def m__law_default_6094 : List D → R D := apR1 fun a0 => (runR false (b__law_default_6094 a0))
def b_row_fits_a0db (a0 a1 : D) : R (Fl Unit Empty) := (do let v1 ← (pure a0); let c2 ← DL.ask (un3 v1); (do let t64 ← (DL.orM (do let x14 ← (do let r5 ← (do let x3 ← (pure a1); let r4 ← pure []; pure (x3 :: r4)); DL.ask (lenD r5)); let y15 ← (do let x12 ← (do let r8 ← (do let x6 ← (pure c2.1); let r7 ← pure []; pure (x6 :: r7)); DL.ask (lenD r8)); let y13 ← (do let r11 ← (do let x9 ← (pure c2.2.1); let r10 ← pure []; pure (x9 :: r10)); DL.ask (lenD r11)); DL.ask (addD x12 y13)); DL.ask ((ltD x14 y15).bind bOf)) (DL.andM (DL.notM (do let x16 ← (pure c2.2.2); DL.ask (truD x16))) (do let x23 ← (do let r19 ← (do let x17 ← (pure a1); let r18 ← pure []; pure (x17 :: r18)); DL.ask (lenD r19)); let y24 ← (do let r22 ← (do let x20 ← (pure c2.1); let r21 ← pure []; pure (x20 :: r21)); DL.ask (lenD r22)); DL.ask ((gtD x23 y24).bind bOf)))); seqF (if t64 = true then (do let v26 ← (pure (.bl false)); pure (.rt v26)) else (pure (.nx ()))) fun (q25 : Unit) => (do let v27 ← (do let x51 ← (do let r32 ← (do let x30 ← (pure c2.1); let r31 ← (do let x28 ← (pure a1); let r29 ← pure []; pure (x28 :: r29)); pure (x30 :: r31)); DL.ask (zipLD r32)); let y52 ← (do let r50 ← (do let x48 ← (pure c2.2.1); let r49 ← (do let x46 ← (do let x43 ← (pure a1); let l44 ← (do let x41 ← (do let x39 ← (do let r35 ← (do let x33 ← (pure a1); let r34 ← pure []; pure (x33 :: r34)); DL.ask (lenD r35)); let y40 ← (do let r38 ← (do let x36 ← (pure c2.2.1); let r37 ← pure []; pure (x36 :: r37)); DL.ask (lenD r38)); DL.ask (subD x39 y40)); let i42 ← DL.ask (intOf x41); pure (some i42)); let u45 ← (pure none); DL.ask (sliceD x43 l44 u45)); let r47 ← pure []; pure (x46 :: r47)); pure (x48 :: r49)); DL.ask (zipLD r50)); DL.ask (addD x51 y52)); (do let v63 ← (notV (mkL (do let r62 ← (do let r53 ← (pure v27); DL.ask (itD r53)); lcF un2 (fun (c55 : D × D) => (DL.notM (do let x61 ← (do let r60 ← (do let x58 ← (pure c55.1); let r59 ← (do let x56 ← (pure c55.2); let r57 ← pure []; pure (x56 :: r57)); pure (x58 :: r59)); Mo.lift (m_label_fits_6e5b r60)); DL.ask (truD x61)))) (fun (c55 : D × D) => (pure c55.2)) r62))); pure (.rt v63)))))
theorem e_row_fits_a0db (a0 a1 : D) : b_row_fits_a0db a0 a1 = (do let c2 ← DL.ask (un3 a0); let t64 ← (DL.orM (do let x14 ← (DL.ask (lenD [a1])); let x12 ← (DL.ask (lenD [c2.1])); let y13 ← (DL.ask (lenD [c2.2.1])); let y15 ← (DL.ask (addD x12 y13)); DL.ask ((ltD x14 y15).bind bOf)) (DL.andM (DL.notM (DL.ask (truD c2.2.2))) (do let x23 ← (DL.ask (lenD [a1])); let y24 ← (DL.ask (lenD [c2.1])); DL.ask ((gtD x23 y24).bind bOf)))); seqF (if t64 = true then (pure (.rt (.bl false))) else (pure (.nx ()))) fun (q25 : Unit) => (do let x51 ← (DL.ask (zipLD [c2.1, a1])); let x39 ← (DL.ask (lenD [a1])); let y40 ← (DL.ask (lenD [c2.2.1])); let x41 ← (DL.ask (subD x39 y40)); let i42 ← DL.ask (intOf x41); let x46 ← (DL.ask (sliceD a1 (some i42) none)); let y52 ← (DL.ask (zipLD [c2.2.1, x46])); let v27 ← (DL.ask (addD x51 y52)); let v63 ← (notV (mkL (do let r62 ← (DL.ask (itD v27)); lcF un2 (fun (c55 : D × D) => (DL.notM (do let x61 ← (Mo.lift (m_label_fits_6e5b [c55.1, c55.2])); DL.ask (truD x61)))) (fun (c55 : D × D) => (pure c55.2)) r62))); pure (.rt v63))) := by
  unfold b_row_fits_a0db; simp only [pure_bind, bind_assoc, mkL]
def m_row_fits_a0db : List D → R D := apR2 fun a0 a1 => (runR false (b_row_fits_a0db a0 a1))
def b__law_all_fit_d024 (a0 a1 : D) : R (Fl Unit Empty) := (do let v17 ← (do let r16 ← (do let x14 ← (mkL (do let r13 ← (do let r5 ← (do let x3 ← (pure a0); let r4 ← (do let x1 ← (pure a1); let r2 ← pure []; pure (x1 :: r2)); pure (x3 :: r4)); DL.ask (zipD r5)); lcF un2 (fun (c7 : D × D) => pure true) (fun (c7 : D × D) => (do let r12 ← (do let x10 ← (pure c7.1); let r11 ← (do let x8 ← (pure c7.2); let r9 ← pure []; pure (x8 :: r9)); pure (x10 :: r11)); Mo.lift (m__law_fits_b893 r12))) r13)); let r15 ← pure []; pure (x14 :: r15)); DL.ask (allD r16)); pure (.rt v17))
theorem e__law_all_fit_d024 (a0 a1 : D) : b__law_all_fit_d024 a0 a1 = (do let r13 ← (DL.ask (zipD [a0, a1])); let x14 ← (lcF un2 (fun (c7 : D × D) => pure true) (fun (c7 : D × D) => (Mo.lift (m__law_fits_b893 [c7.1, c7.2]))) r13); let v17 ← (DL.ask (allD [(.lst x14)])); pure (.rt v17)) := by
  unfold b__law_all_fit_d024; simp only [pure_bind, bind_assoc, mkL]
def m__law_all_fit_d024 : List D → R D := apR2 fun a0 a1 => (runR false (b__law_all_fit_d024 a0 a1))
def b__law_row_fits_3c3f (a0 a1 : D) : R (Fl Unit Empty) := (do let t75 ← (do let x1 ← (pure (.str [42, 42])); let y2 ← (pure a0); DL.ask ((notInD x1 y2).bind bOf)); seqF (if t75 = true then (do let v17 ← (andV (do let x10 ← (do let r6 ← (do let x4 ← (pure a0); let r5 ← pure []; pure (x4 :: r5)); DL.ask (lenD r6)); let y11 ← (do let r9 ← (do let x7 ← (pure a1); let r8 ← pure []; pure (x7 :: r8)); DL.ask (lenD r9)); DL.ask (eqD x10 y11)) (do let r16 ← (do let x14 ← (pure a0); let r15 ← (do let x12 ← (pure a1); let r13 ← pure []; pure (x12 :: r13)); pure (x14 :: r15)); Mo.lift (m__law_all_fit_d024 r16))); pure (.rt v17)) else (pure (.nx ()))) fun (q3 : Unit) => (do let v18 ← (do let x19 ← (pure a0); let _ ← DL.ask (lstOf x19); let y20 ← (pure (.str [42, 42])); DL.ask (indexLD x19 y20)); (do let v21 ← (do let x25 ← (pure a0); let l26 ← (pure none); let u27 ← (do let x23 ← (pure v18); let i24 ← DL.ask (intOf x23); pure (some i24)); DL.ask (sliceD x25 l26 u27)); let v22 ← (do let x32 ← (pure a0); let l33 ← (do let x30 ← (do let x28 ← (pure v18); let y29 ← (pure (.int 1)); DL.ask (addD x28 y29)); let i31 ← DL.ask (intOf x30); pure (some i31)); let u34 ← (pure none); DL.ask (sliceD x32 l33 u34)); (do let t74 ← (do let x46 ← (do let r37 ← (do let x35 ← (pure a1); let r36 ← pure []; pure (x35 :: r36)); DL.ask (lenD r37)); let y47 ← (do let x44 ← (do let r40 ← (do let x38 ← (pure v21); let r39 ← pure []; pure (x38 :: r39)); DL.ask (lenD r40)); let y45 ← (do let r43 ← (do let x41 ← (pure v22); let r42 ← pure []; pure (x41 :: r42)); DL.ask (lenD r43)); DL.ask (addD x44 y45)); DL.ask ((ltD x46 y47).bind bOf)); seqF (if t74 = true then (do let v49 ← (pure (.bl false)); pure (.rt v49)) else (pure (.nx ()))) fun (q48 : Unit) => (do let v73 ← (andV (do let r54 ← (do let x52 ← (pure v21); let r53 ← (do let x50 ← (pure a1); let r51 ← pure []; pure (x50 :: r51)); pure (x52 :: r53)); Mo.lift (m__law_all_fit_d024 r54)) (do let r72 ← (do let x70 ← (pure v22); let r71 ← (do let x68 ← (do let x65 ← (pure a1); let l66 ← (do let x63 ← (do let x61 ← (do let r57 ← (do let x55 ← (pure a1); let r56 ← pure []; pure (x55 :: r56)); DL.ask (lenD r57)); let y62 ← (do let r60 ← (do let x58 ← (pure v22); let r59 ← pure []; pure (x58 :: r59)); DL.ask (lenD r60)); DL.ask (subD x61 y62)); let i64 ← DL.ask (intOf x63); pure (some i64)); let u67 ← (pure none); DL.ask (sliceD x65 l66 u67)); let r69 ← pure []; pure (x68 :: r69)); pure (x70 :: r71)); Mo.lift (m__law_all_fit_d024 r72))); pure (.rt v73))))))
theorem e__law_row_fits_3c3f (a0 a1 : D) : b__law_row_fits_3c3f a0 a1 = (do let t75 ← (DL.ask ((notInD (.str [42, 42]) a0).bind bOf)); seqF (if t75 = true then (do let v17 ← (andV (do let x10 ← (DL.ask (lenD [a0])); let y11 ← (DL.ask (lenD [a1])); DL.ask (eqD x10 y11)) (Mo.lift (m__law_all_fit_d024 [a0, a1]))); pure (.rt v17)) else (pure (.nx ()))) fun (q3 : Unit) => (do let _ ← DL.ask (lstOf a0); let v18 ← (DL.ask (indexLD a0 (.str [42, 42]))); let i24 ← DL.ask (intOf v18); let v21 ← (DL.ask (sliceD a0 none (some i24))); let x30 ← (DL.ask (addD v18 (.int 1))); let i31 ← DL.ask (intOf x30); let v22 ← (DL.ask (sliceD a0 (some i31) none)); let x46 ← (DL.ask (lenD [a1])); let x44 ← (DL.ask (lenD [v21])); let y45 ← (DL.ask (lenD [v22])); let y47 ← (DL.ask (addD x44 y45)); let t74 ← (DL.ask ((ltD x46 y47).bind bOf)); seqF (if t74 = true then (pure (.rt (.bl false))) else (pure (.nx ()))) fun (q48 : Unit) => (do let v73 ← (andV (Mo.lift (m__law_all_fit_d024 [v21, a1])) (do let x61 ← (DL.ask (lenD [a1])); let y62 ← (DL.ask (lenD [v22])); let x63 ← (DL.ask (subD x61 y62)); let i64 ← DL.ask (intOf x63); let x68 ← (DL.ask (sliceD a1 (some i64) none)); Mo.lift (m__law_all_fit_d024 [v22, x68]))); pure (.rt v73)))) := by
  unfold b__law_row_fits_3c3f; simp only [pure_bind, bind_assoc, mkL]
def m__law_row_fits_3c3f : List D → R D := apR2 fun a0 a1 => (runR false (b__law_row_fits_3c3f a0 a1))
def fitN (x l : List Nat) : Bool := match TL.par [42] [] x with
  | none => decide (x = l)
  | some (h, t) => decide (h.length + t.length ≤ l.length) && (decide (l.take h.length = h) && decide (l.drop (l.length - t.length) = t))
theorem beq_eq (a b : List Nat) : (a == b) = decide (a = b) := by
  rw [Bool.eq_iff_iff]
  simp
theorem starts_eq (a b : List Nat) : PySem.Txt.startswith ⟨a.toArray⟩ ⟨b.toArray⟩ = (decide (b.length ≤ a.length) && decide (a.take b.length = b)) := by
  unfold PySem.Txt.startswith
  rw [StrLaws.subAt_eq]
  simp [Str.length]
  rw [beq_eq]
theorem ends_eq (a b : List Nat) : PySem.Txt.endswith ⟨a.toArray⟩ ⟨b.toArray⟩ = (decide (b.length ≤ a.length) && decide ((a.drop (a.length - b.length)).take b.length = b)) := by
  unfold PySem.Txt.endswith
  rw [StrLaws.subAt_eq]
  simp [Str.length]
  rw [beq_eq]
theorem par_none_iff {x : List Nat} {c : Nat} (h : TL.par [c] [] x = none) : c ∉ x := fun m => by
  rw [par_ix m] at h
  cases h
theorem par_some_mem {x p q : List Nat} {c : Nat} (h : TL.par [c] [] x = some (p, q)) : c ∈ x := by
  have e := par_eq h
  rw [List.nil_append] at e
  rw [e]
  simp
theorem label_fits43 {x l : List Nat} (hx : x.length ≤ 1000) (hl : l.length ≤ 1000) : m_label_fits_6e5b [.str x, .str l] = .ok (.bl (fitN x l)) := by
  have hp := part_eq (z := x) (S := [42]) (by simp) (by omega)
  have ll : ∀ z : List Nat, lenD [.str z] = some (.int (z.length : Int)) := fun _ => rfl
  unfold m_label_fits_6e5b apR2
  unfold fitN
  cases e : TL.par [42] [] x with
  | none =>
    rw [e] at hp
    have d0 : decide (([] : List Nat) = []) = true := by decide
    simp only [e_label_fits_6e5b, str_of, askR, pure_bind, hp, un3_3, eq_ss, decide_true, Option.bind_some, bOf_bl, if_true]
    rfl
  | some pq =>
    obtain ⟨p, q⟩ := pq
    rw [e] at hp
    have d0 : decide (([42] : List Nat) = []) = false := by decide
    have ge : geD (.int (l.length : Int)) (.int ((p.length : Int) + (q.length : Int))) = some (.bl (decide (p.length + q.length ≤ l.length))) := by
      show some (D.bl (decide ((p.length : Int) + (q.length : Int) ≤ (l.length : Int)))) = _
      by_cases c : p.length + q.length ≤ l.length
      · rw [decide_eq_true c, decide_eq_true (show (p.length : Int) + (q.length : Int) ≤ (l.length : Int) by omega)]
      · rw [decide_eq_false c, decide_eq_false (show ¬ (p.length : Int) + (q.length : Int) ≤ (l.length : Int) by omega)]
    have st : strM (fun a b => .bl (PySem.Txt.startswith ⟨a.toArray⟩ ⟨b.toArray⟩)) (.str l) (.str p) = some (.bl (decide (p.length ≤ l.length) && decide (l.take p.length = p))) := congrArg (fun b => some (D.bl b)) (starts_eq l p)
    have en : strM (fun a b => .bl (PySem.Txt.endswith ⟨a.toArray⟩ ⟨b.toArray⟩)) (.str l) (.str q) = some (.bl (decide (q.length ≤ l.length) && decide ((l.drop (l.length - q.length)).take q.length = q))) := congrArg (fun b => some (D.bl b)) (ends_eq l q)
    simp only [e_label_fits_6e5b, str_of, askR, pure_bind, hp, un3_3, eq_ss, d0, Option.bind_some, bOf_bl, Bool.false_eq_true, if_false, sqp, ll, add_ii, andV, ge, tru_bl, st, en]
    by_cases h1 : p.length + q.length ≤ l.length
    · have h2 : p.length ≤ l.length := by omega
      have h3 : q.length ≤ l.length := by omega
      have h4 : (l.drop (l.length - q.length)).take q.length = l.drop (l.length - q.length) := List.take_of_length_le (by rw [List.length_drop]; omega)
      rw [decide_eq_true h1, decide_eq_true h2, decide_eq_true h3, h4]
      simp only [Bool.true_and, if_true]
      cases decide (l.take p.length = p) <;> rfl
    · rw [decide_eq_false h1]
      rfl
theorem law_fits43 {x l : List Nat} (hx : x.length ≤ 1000) (hl : l.length ≤ 1000) : m__law_fits_b893 [.str x, .str l] = .ok (.bl (fitN x l)) := by
  have hp := part_eq (z := x) (S := [42]) (by simp) (by omega)
  have ll : ∀ z : List Nat, lenD [.str z] = some (.int (z.length : Int)) := fun _ => rfl
  unfold m__law_fits_b893 apR2
  unfold fitN
  cases e : TL.par [42] [] x with
  | none =>
    have hm : (notInD (.str [42]) (.str x)).bind bOf = some true := by rw [notin_sign, decide_eq_false (par_none_iff e)]; rfl
    simp only [e__law_fits_b893, hm, askR, pure_bind, if_true, eq_ss]
    rfl
  | some pq =>
    obtain ⟨p, q⟩ := pq
    rw [e] at hp
    have hm : (notInD (.str [42]) (.str x)).bind bOf = some false := by rw [notin_sign, decide_eq_true (par_some_mem e)]; rfl
    have lt : (ltD (.int (l.length : Int)) (.int ((p.length : Int) + (q.length : Int)))).bind bOf = some (decide (¬ p.length + q.length ≤ l.length)) := by
      rw [lti]
      congr 2
      simp only [eq_iff_iff]
      omega
    have c1 : cutL l none (some (p.length : Int)) = l.take p.length := cut_to
    simp only [e__law_fits_b893, hm, askR, pure_bind, Bool.false_eq_true, if_false, sqp, str_of, hp, un3_3, ll, add_ii, lt]
    by_cases h1 : p.length + q.length ≤ l.length
    · have c2 : cutL l (some ((l.length : Int) - (q.length : Int))) none = l.drop (l.length - q.length) := by
        rw [cut_lo (by omega)]
        congr 1
        omega
      have d : decide (¬ p.length + q.length ≤ l.length) = false := decide_eq_false (by omega)
      simp only [d, Bool.false_eq_true, if_false, sqp, int_of, slice_s, c1, askR, pure_bind, andV, eq_ss, tru_bl, sub_ii, c2]
      rw [decide_eq_true h1, Bool.true_and]
      cases decide (l.take p.length = p) <;> rfl
    · have d : decide (¬ p.length + q.length ≤ l.length) = true := decide_eq_true h1
      simp only [d, if_true, decide_eq_false h1]
      rfl
def zfit (h R : List (List Nat)) : Bool := (h.zip R).all fun p => fitN p.1 p.2
def pr2 (p : List Nat × List Nat) : D := .tup [.str p.1, .str p.2]
theorem zipL_strs : ∀ (h R : List (List Nat)), zipL (h.map D.str) (R.map D.str) = (h.zip R).map pr2
  | [], _ => rfl
  | _ :: _, [] => rfl
  | x :: h, y :: R => by
    show D.tup [.str x, .str y] :: zipL (h.map D.str) (R.map D.str) = _
    rw [zipL_strs h R]
    rfl
def badP : D → Bool
  | .tup [.str x, .str l] => !fitN x l
  | _ => false
def sndD : D → D
  | .tup [_, b] => b
  | d => d
def prD : D → D × D
  | .tup [a, b] => (a, b)
  | d => (d, d)
theorem bad_filter (ps : List (List Nat × List Nat)) : (((ps.map pr2).filter badP).map sndD).isEmpty = ps.all fun p => fitN p.1 p.2 := by
  induction ps with
  | nil => rfl
  | cons p r ih =>
    rw [List.map_cons, List.all_cons]
    cases h : fitN p.1 p.2 with
    | true =>
      have e : ¬ badP (pr2 p) = true := by show ¬ (!fitN p.1 p.2) = true; rw [h]; simp
      rw [List.filter_cons_of_neg e, ih, Bool.true_and]
    | false =>
      have e : badP (pr2 p) = true := by show (!fitN p.1 p.2) = true; rw [h]; rfl
      rw [List.filter_cons_of_pos e]
      rfl
def Sh (A : List (List Nat)) : Prop := ∀ z ∈ A, z.length ≤ 1000
def rowN (h t : List (List Nat)) (g : Bool) (R : List (List Nat)) : Bool := decide (h.length + t.length ≤ R.length) && ((g || decide (R.length ≤ h.length)) && (zfit h R && zfit t (R.drop (R.length - t.length))))
theorem walk43 (ps : List (List Nat × List Nat)) (hs : ∀ p ∈ ps, p.1.length ≤ 1000 ∧ p.2.length ≤ 1000) : (lcF un2 (fun (c55 : D × D) => (DL.notM (do let x61 ← (Mo.lift (m_label_fits_6e5b [c55.1, c55.2])); DL.ask (truD x61)))) (fun (c55 : D × D) => (pure c55.2)) (ps.map pr2) : R (List D)) = .ok (((ps.map pr2).filter badP).map sndD) := by
  refine lcR (u := un2) (xe := fun c55 : D × D => (pure c55.2 : R D)) (c := prD) (p := badP) (f := sndD) (ps.map pr2) (fun d m => ?_) (fun d m => ?_) (fun d m _ => ?_)
  · obtain ⟨p, hp, rfl⟩ := List.mem_map.mp m
    rfl
  · obtain ⟨p, hp, rfl⟩ := List.mem_map.mp m
    obtain ⟨h1, h2⟩ := hs p hp
    show (DL.notM (do let x61 ← (Mo.lift (m_label_fits_6e5b [.str p.1, .str p.2])); DL.ask (truD x61)) : R Bool) = .ok (!fitN p.1 p.2)
    simp only [DL.notM, label_fits43 h1 h2, lift_pR, okpR, pure_bind, tru_bl, askR]
  · obtain ⟨p, hp, rfl⟩ := List.mem_map.mp m
    rfl
theorem zip_sh {A B : List (List Nat)} (hA : Sh A) (hB : Sh B) : ∀ p ∈ A.zip B, p.1.length ≤ 1000 ∧ p.2.length ≤ 1000 := fun p m => ⟨hA _ (List.of_mem_zip m).1, hB _ (List.of_mem_zip m).2⟩
theorem row_fits43 {h t R : List (List Nat)} {g : Bool} (hh : Sh h) (ht : Sh t) (hR : Sh R) (l1 : h.length ≤ 1000) (l2 : t.length ≤ 1000) (l3 : R.length ≤ 1000) : m_row_fits_a0db [.tup [.tup (h.map .str), .tup (t.map .str), .bl g], .tup (R.map .str)] = .ok (.bl (rowN h t g R)) := by
  have ll : ∀ xs : List (List Nat), lenD [.tup (xs.map D.str)] = some (.int (xs.length : Int)) := fun xs => by
    show some (D.int ((xs.map D.str).length : Int)) = _
    rw [List.length_map]
  have lt : (ltD (.int (R.length : Int)) (.int ((h.length : Int) + (t.length : Int)))).bind bOf = some (decide (¬ h.length + t.length ≤ R.length)) := by
    rw [lti]
    congr 2
    simp only [eq_iff_iff]
    omega
  have gt : (gtD (.int (R.length : Int)) (.int (h.length : Int))).bind bOf = some (decide (¬ R.length ≤ h.length)) := by
    rw [gti]
    congr 2
    simp only [eq_iff_iff]
    omega
  unfold m_row_fits_a0db apR2
  simp only [e_row_fits_a0db, un3_3, askR, pure_bind, ll, add_ii, lt, DL.orM]
  unfold rowN
  by_cases c1 : h.length + t.length ≤ R.length
  · have d1 : decide (¬ h.length + t.length ≤ R.length) = false := decide_eq_false (by omega)
    simp only [d1, Bool.false_eq_true, if_false, decide_eq_true c1, Bool.true_and, tru_bl, askR, gt]
    by_cases c2 : (g || decide (R.length ≤ h.length)) = true
    · have d2 : (DL.andM (DL.notM (pure g)) (pure (decide (¬ R.length ≤ h.length))) : DL.R Bool) = pure false := by
        cases g with
        | true => rfl
        | false =>
          have : R.length ≤ h.length := by simpa using c2
          simp only [DL.andM, DL.notM, pure_bind, Bool.not_false, if_true, decide_eq_false (show ¬ ¬ R.length ≤ h.length from fun q => q this)]
      rw [d2, c2]
      have cd : cutL (R.map D.str) (some ((R.length : Int) - (t.length : Int))) none = (R.drop (R.length - t.length)).map D.str := by
        rw [cut_lo (by omega), List.map_drop]
        congr 1
        omega
      have z1 : zipLD [.tup (h.map D.str), .tup (R.map D.str)] = some (.lst ((h.zip R).map pr2)) := by
        show some (D.lst (zipL (h.map D.str) (R.map D.str))) = _
        rw [zipL_strs]
      have z2 : zipLD [.tup (t.map D.str), .tup ((R.drop (R.length - t.length)).map D.str)] = some (.lst ((t.zip (R.drop (R.length - t.length))).map pr2)) := by
        show some (D.lst (zipL (t.map D.str) _)) = _
        rw [zipL_strs]
      have ea : addD (.lst ((h.zip R).map pr2)) (.lst ((t.zip (R.drop (R.length - t.length))).map pr2)) = some (.lst ((h.zip R ++ t.zip (R.drop (R.length - t.length))).map pr2)) := by
        rw [add_ll (by simp only [List.length_map, List.length_zip]; omega), List.map_append]
      have hw := walk43 (h.zip R ++ t.zip (R.drop (R.length - t.length))) fun p m => by
        rcases List.mem_append.mp m with m | m
        · exact zip_sh hh hR p m
        · exact zip_sh ht (fun z q => hR z (List.mem_of_mem_drop q)) p m
      simp only [pure_bind, Bool.false_eq_true, if_false, sqp, z1, sub_ii, int_of, slice_t, cd, z2, ea, it_lst, askR]
      rw [hw]
      show DL.R.ok (D.bl (!(!(List.map sndD (List.filter badP _)).isEmpty))) = _
      rw [Bool.not_not, bad_filter, List.all_append]
      simp only [Bool.true_and]
      rfl
    · have c2' : (g || decide (R.length ≤ h.length)) = false := by simpa using c2
      have d2 : (DL.andM (DL.notM (pure g)) (pure (decide (¬ R.length ≤ h.length))) : DL.R Bool) = pure true := by
        simp only [Bool.or_eq_false_iff, decide_eq_false_iff_not] at c2'
        obtain ⟨rfl, q⟩ := c2'
        simp only [DL.andM, DL.notM, pure_bind, Bool.not_false, if_true, decide_eq_true q]
      rw [d2, c2']
      rfl
  · have d1 : decide (¬ h.length + t.length ≤ R.length) = true := decide_eq_true c1
    simp only [d1, if_true, pure_bind, decide_eq_false c1, Bool.false_and]
    rfl
theorem all_fit43 {A B : List (List Nat)} (hA : Sh A) (hB : Sh B) : m__law_all_fit_d024 [.lst (A.map .str), .lst (B.map .str)] = .ok (.bl (zfit A B)) := by
  have z : zipD [.lst (A.map D.str), .lst (B.map D.str)] = some ((A.zip B).map pr2) := by
    show some (zipL (A.map D.str) (B.map D.str)) = _
    rw [zipL_strs]
  have hw : (lcF un2 (fun (c7 : D × D) => pure true) (fun (c7 : D × D) => (Mo.lift (m__law_fits_b893 [c7.1, c7.2]))) ((A.zip B).map pr2) : R (List D)) = .ok ((A.zip B).map fun p => .bl (fitN p.1 p.2)) := by
    refine (lcR (u := un2) (xt := fun _ : D × D => (pure true : R Bool)) (xe := fun c7 : D × D => (Mo.lift (m__law_fits_b893 [c7.1, c7.2]) : R D)) (c := prD) (p := fun _ => true) (f := fun d => match d with | .tup [.str x, .str l] => .bl (fitN x l) | d => d) ((A.zip B).map pr2) (fun d m => ?_) (fun d m => rfl) (fun d m _ => ?_)).trans ?_
    · obtain ⟨p, hp, rfl⟩ := List.mem_map.mp m
      rfl
    · obtain ⟨p, hp, rfl⟩ := List.mem_map.mp m
      obtain ⟨h1, h2⟩ := zip_sh hA hB p hp
      show (Mo.lift (m__law_fits_b893 [.str p.1, .str p.2]) : R D) = _
      rw [law_fits43 h1 h2]
      rfl
    · rw [List.filter_eq_self.mpr (fun _ _ => rfl), List.map_map]
      rfl
  unfold m__law_all_fit_d024 apR2
  simp only [e__law_all_fit_d024, z, askR, pure_bind]
  rw [hw]
  simp only [okpR, pure_bind, all_map, askR]
  rfl
theorem notin_L {k : Nat} {z : List Nat} {S : List (List Nat)} (h : Tx k z) (hz : ∀ w ∈ S, Tx 1000 w) : (notInD (.str z) (.lst (S.map .str))).bind bOf = some (!decide (z ∈ S)) := by
  have e := in_strs h hz
  unfold inD at e
  unfold notInD
  cases q : inP (.str z) (.lst (S.map .str)) with
  | none => rw [q] at e; cases e
  | some b =>
    rw [q] at e
    cases e
    rfl
theorem ch_small43 : ∀ c ∈ CH, c < 1114112 := by decide
theorem it_tx {z : List Nat} (h : z = gp ∨ isIt z = true) : Tx 1000 z := ⟨by have := it_len h; omega, fun c m => Nat.lt_of_not_le fun q => it_free h (s := c) (fun x => by have := ch_small43 c x; omega) (by omega) m⟩
theorem strs_map : ∀ A : List (List Nat), strsOf (A.map D.str) = some A
  | [] => rfl
  | z :: r => by
    show (strsOf (r.map D.str)).map (z :: ·) = _
    rw [strs_map r]
    rfl
theorem idx_gap {A B : List (List Nat)} (h : gp ∉ A) : (A ++ gp :: B).idxOf gp = A.length := by
  induction A with
  | nil => simp
  | cons x r ih =>
    have hx : (x == gp) = false := by
      simp only [beq_eq_false_iff_ne, ne_eq]
      exact fun e => h (by rw [e]; exact .head _)
    rw [List.cons_append, List.idxOf_cons, hx, ih fun m => h (.tail _ m)]
    rfl
theorem law_row43 {l0 l1 mh mt : Nat} {I h t R : List (List Nat)} {g : Bool} (p : PatI l0 l1 mh mt I h t g) (hR : Sh R) (hl : I.length ≤ 1000) (hr : R.length ≤ 1000) : m__law_row_fits_3c3f [.lst (I.map .str), .lst (R.map .str)] = .ok (.bl (rowN h t g R)) := by
  have pm := pat_mem p
  have hI : Sh I := fun z m => (it_tx (pm z m)).1
  have hn := notin_L (k := 2) (z := gp) ⟨by decide, by decide⟩ (fun w m => it_tx (pm w m))
  have ll : ∀ xs : List (List Nat), lenD [.lst (xs.map D.str)] = some (.int (xs.length : Int)) := fun xs => by
    show some (D.int ((xs.map D.str).length : Int)) = _
    rw [List.length_map]
  obtain ⟨hz, ⟨rfl, rfl, rfl, h0, h1⟩ | ⟨rfl, rfl, h0, h1⟩⟩ := p
  · have ng : gp ∉ I := fun m => it_gap (hz _ (by simpa using m)) rfl
    rw [decide_eq_false ng] at hn
    have hn' : (notInD (.str [42, 42]) (.lst (I.map D.str))).bind bOf = some true := hn
    unfold m__law_row_fits_3c3f apR2
    simp only [e__law_row_fits_3c3f, hn', askR, pure_bind, if_true, ll, eq_i, andV, tru_bl, all_fit43 hI hR, lift_pR, okpR]
    unfold rowN
    have zn : zfit [] (R.drop (R.length - ([] : List (List Nat)).length)) = true := rfl
    rw [zn]
    by_cases c : I.length = R.length
    · have c' : decide ((I.length : Int) = (R.length : Int)) = true := decide_eq_true (by omega)
      rw [c', decide_eq_true (show I.length + ([] : List (List Nat)).length ≤ R.length by simp; omega), decide_eq_true (show R.length ≤ I.length by omega)]
      simp
      rfl
    · have c' : decide ((I.length : Int) = (R.length : Int)) = false := decide_eq_false (by omega)
      rw [c']
      have : (decide (I.length + ([] : List (List Nat)).length ≤ R.length) && ((false || decide (R.length ≤ I.length)) && (zfit I R && true))) = false := by
        by_cases c1 : I.length ≤ R.length
        · rw [decide_eq_false (show ¬ R.length ≤ I.length by omega)]
          simp
        · rw [decide_eq_false (show ¬ I.length + ([] : List (List Nat)).length ≤ R.length by simp; omega)]
          rfl
      rw [this]
      rfl
  · have na : gp ∉ h := fun m => it_gap (hz _ (List.mem_append_left _ m)) rfl
    rw [decide_eq_true (show gp ∈ h ++ gp :: t by simp)] at hn
    have hn' : (notInD (.str [42, 42]) (.lst ((h ++ gp :: t).map D.str))).bind bOf = some false := hn
    have hi : indexLD (.lst ((h ++ gp :: t).map D.str)) (.str [42, 42]) = some (.int (h.length : Int)) := by
      show (match strsOf ((h ++ gp :: t).map D.str) with | some ps => if [42, 42] ∈ ps then some (D.int ((ps.idxOf [42, 42] : Nat) : Int)) else none | none => none) = _
      rw [strs_map]
      show (if gp ∈ h ++ gp :: t then some (D.int (((h ++ gp :: t).idxOf gp : Nat) : Int)) else none) = _
      rw [if_pos (by simp), idx_gap na]
    have lo : lstOf (.lst ((h ++ gp :: t).map D.str)) = some ((h ++ gp :: t).map D.str) := rfl
    have c1 : cutL ((h ++ gp :: t).map D.str) none (some (h.length : Int)) = h.map D.str := by
      rw [cut_toD, ← List.map_take, List.take_left' rfl]
    have c2 : cutL ((h ++ gp :: t).map D.str) (some ((h.length : Int) + 1)) none = t.map D.str := by
      rw [cut_fromD, ← List.map_drop, show h ++ gp :: t = (h ++ [gp]) ++ t by simp, List.drop_left' (by simp)]
    have lt : (ltD (.int (R.length : Int)) (.int ((h.length : Int) + (t.length : Int)))).bind bOf = some (decide (¬ h.length + t.length ≤ R.length)) := by
      rw [lti]
      congr 2
      simp only [eq_iff_iff]
      omega
    have hh : Sh h := fun z m => hI z (List.mem_append_left _ m)
    have htt : Sh t := fun z m => hI z (List.mem_append_right _ (.tail _ m))
    unfold m__law_row_fits_3c3f apR2
    simp only [e__law_row_fits_3c3f, hn', lo, hi, askR, pure_bind, Bool.false_eq_true, if_false, sqp, str_of, int_of, slice_l, c1, add_ii, c2, ll, lt]
    unfold rowN
    by_cases c : h.length + t.length ≤ R.length
    · have d1 : decide (¬ h.length + t.length ≤ R.length) = false := decide_eq_false (by omega)
      have cd : cutL (R.map D.str) (some ((R.length : Int) - (t.length : Int))) none = (R.drop (R.length - t.length)).map D.str := by
        rw [cut_lo (by omega), List.map_drop]
        congr 1
        omega
      simp only [d1, Bool.false_eq_true, if_false, decide_eq_true c, Bool.true_and, Bool.true_or, sqp, andV, all_fit43 hh hR, lift_pR, okpR, pure_bind, tru_bl, askR, sub_ii, int_of, slice_l, cd, all_fit43 htt (fun z m => hR z (List.mem_of_mem_drop m))]
      cases zfit h R <;> rfl
    · have d1 : decide (¬ h.length + t.length ≤ R.length) = true := decide_eq_true c
      simp only [d1, if_true, pure_bind, decide_eq_false c, Bool.false_and]
      rfl
theorem zfit_take : ∀ (h R : List (List Nat)), zfit h R = zfit h (R.take h.length)
  | [], R => rfl
  | x :: h, [] => rfl
  | x :: h, y :: R => by
    show (fitN x y && zfit h R) = (fitN x y && zfit h (R.take h.length))
    rw [zfit_take h R]
theorem zfit_app : ∀ {a b c d : List (List Nat)}, a.length = c.length → zfit (a ++ b) (c ++ d) = (zfit a c && zfit b d)
  | [], b, [], d, _ => by simp [zfit]
  | x :: a, b, y :: c, d, h => by
    show (fitN x y && zfit (a ++ b) (c ++ d)) = ((fitN x y && zfit a c) && zfit b d)
    rw [zfit_app (by simpa using h), Bool.and_assoc]
  | [], _, _ :: _, _, h => by simp at h
  | _ :: _, _, [], _, h => by simp at h
theorem zfit_rev : ∀ {h R : List (List Nat)}, h.length = R.length → zfit h.reverse R.reverse = zfit h R
  | [], [], _ => rfl
  | x :: h, y :: R, e => by
    have e' : h.length = R.length := by simpa using e
    rw [List.reverse_cons, List.reverse_cons, zfit_app (by simpa using e'), zfit_rev e']
    show (zfit h R && (fitN x y && true)) = (fitN x y && zfit h R)
    rw [Bool.and_true, Bool.and_comm]
  | [], _ :: _, h => by simp at h
  | _ :: _, [], h => by simp at h
theorem zfit_back {h A : List (List Nat)} (l : h.length ≤ A.length) : zfit h A.reverse = zfit h.reverse (A.drop (A.length - h.length)) := by
  have e : (A.reverse).take h.length = (A.drop (A.length - h.length)).reverse := by
    rw [List.reverse_drop]
    congr 1
    omega
  have hl : (A.drop (A.length - h.length)).length = h.length := by rw [List.length_drop]; omega
  rw [zfit_take, e]
  have := zfit_rev (h := h.reverse) (R := A.drop (A.length - h.length)) (by rw [List.length_reverse, hl])
  rw [List.reverse_reverse] at this
  exact this
theorem row_back {h t A : List (List Nat)} : rowN h t true A.reverse = rowN t.reverse h.reverse true A := by
  unfold rowN
  simp only [List.length_reverse, Bool.true_or, Bool.true_and]
  by_cases c : h.length + t.length ≤ A.length
  · have c' : t.length + h.length ≤ A.length := by omega
    rw [decide_eq_true c, decide_eq_true c', Bool.true_and, Bool.true_and, zfit_back (by omega)]
    have e : A.reverse.drop (A.length - t.length) = (A.take t.length).reverse := by
      rw [List.reverse_take]
    have hl : (A.take t.length).length = t.length := by rw [List.length_take]; omega
    have z := zfit_rev (h := t.reverse) (R := A.take t.length) (by rw [List.length_reverse, hl])
    rw [List.reverse_reverse] at z
    rw [e, z, zfit_take t.reverse A, List.length_reverse, Bool.and_comm]
  · have c' : ¬ t.length + h.length ≤ A.length := by omega
    rw [decide_eq_false c, decide_eq_false c']
    rfl
theorem row_plain {h A : List (List Nat)} : rowN h [] false A.reverse = rowN h.reverse [] false A := by
  unfold rowN
  have zn : ∀ X : List (List Nat), zfit [] X = true := fun _ => rfl
  simp only [List.length_reverse, zn, Bool.and_true, Bool.false_or, List.length_nil, Nat.add_zero]
  by_cases c : h.length = A.length
  · have e := zfit_rev (h := h.reverse) (R := A) (by rw [List.length_reverse]; exact c)
    rw [List.reverse_reverse] at e
    rw [e]
  · by_cases c1 : h.length ≤ A.length
    · rw [decide_eq_false (show ¬ A.length ≤ h.length by omega)]
      simp
    · rw [decide_eq_false c1]
      rfl
def dueB (sch : List Nat) (i : Int) : D → Bool
  | .tup [.int lo, .int hi] => decide (lo ≤ i) && decide (i ≤ hi)
  | _ => decide (i = dpt sch)
theorem in_any {w sch : List Nat} (hw : Wd w) (hsch : sch = kHttp ∨ sch = kHttps) : (notInD (.str w) (.tup [.str [97, 110, 121], .str sch])).bind bOf = some (!decide (w ∈ [[97, 110, 121], sch])) ∧ (∃ b, b = decide (w ∈ [[97, 110, 121], sch]) ∧ inD (.str w) (.lst [.str [97, 110, 121], .str sch]) = some (.bl b)) := by
  have tx : Tx 5 w := by rcases hw with rfl | rfl | rfl <;> exact ⟨by decide, by decide⟩
  have ta : ∀ z ∈ ([[97, 110, 121], sch] : List (List Nat)), Tx 1000 z := by
    rcases hsch with rfl | rfl <;> exact tx_all (by decide)
  exact ⟨notin_T tx ta, _, rfl, in_strs tx ta⟩
theorem chain_ii {a b c : Int} : (chainM leD leD (pure (.int a)) (pure (.int b)) (pure (.int c)) : R D) = .ok (.bl (decide (a ≤ b) && decide (b ≤ c))) := by
  unfold chainM
  simp only [le_l, askR, pure_bind]
  cases h : decide (a ≤ b)
  · rfl
  · rfl
def fitB (w sch : List Nat) (i : Int) (pd : D) : Bool := decide (w ∈ [[97, 110, 121], sch]) && dueB sch i pd
theorem pat_len {l0 l1 mh mt : Nat} {I h t : List (List Nat)} {g : Bool} (p : PatI l0 l1 mh mt I h t g) (hl : I.length ≤ 10) : h.length ≤ 10 ∧ t.length ≤ 10 ∧ Sh h ∧ Sh t := by
  have pm := pat_mem p
  obtain ⟨hz, ⟨rfl, rfl, rfl, _, _⟩ | ⟨rfl, rfl, _, _⟩⟩ := p
  · exact ⟨hl, by simp, fun z m => (it_tx (pm z m)).1, fun z m => by cases m⟩
  · simp only [List.length_append, List.length_cons] at hl
    exact ⟨by omega, by omega, fun z m => (it_tx (.inr (hz z (List.mem_append_left _ m)))).1, fun z m => (it_tx (.inr (hz z (List.mem_append_right _ m)))).1⟩
theorem pat_back {I h t : List (List Nat)} {g : Bool} (p : PatI 1 4 3 2 I.reverse h t g) : (g = false ∧ PatI 1 4 2 3 I h.reverse [] false ∧ t = []) ∨ (g = true ∧ PatI 1 4 2 3 I t.reverse h.reverse true) := by
  obtain ⟨hz, ⟨rfl, e, rfl, h0, h1⟩ | ⟨rfl, e, h0, h1⟩⟩ := p
  · have e' : I = h.reverse := by rw [← e, List.reverse_reverse]
    exact .inl ⟨rfl, ⟨fun z m => hz z (by simpa using m), .inl ⟨rfl, e', rfl, by simpa using h0, by simpa using h1⟩⟩, rfl⟩
  · have e' : I = t.reverse ++ gp :: h.reverse := by
      have := congrArg List.reverse e
      rw [List.reverse_reverse] at this
      rw [this]
      simp
    exact .inr ⟨rfl, ⟨fun z m => hz z (by
      rcases List.mem_append.mp m with m | m
      · exact List.mem_append_right _ (List.mem_reverse.mp m)
      · exact List.mem_append_left _ (List.mem_reverse.mp m)), .inr ⟨rfl, e', by simpa using h1, by simpa using h0⟩⟩⟩
theorem host43 {I h t A : List (List Nat)} {g : Bool} (p : PatI 1 4 3 2 I.reverse h t g) (hl : I.length ≤ 10) (hA : Sh A) (hl2 : A.length ≤ 1000) : m__law_row_fits_3c3f [.lst (I.map .str), .lst (A.map .str)] = .ok (.bl (rowN h t g A.reverse)) := by
  rcases pat_back p with ⟨rfl, q, rfl⟩ | ⟨rfl, q⟩
  · rw [law_row43 q hA (by omega) hl2, row_plain]
  · rw [law_row43 q hA (by omega) hl2, row_back]
theorem default43 {sch : List Nat} (h : sch = kHttp ∨ sch = kHttps) : m__law_default_6094 [.str sch] = .ok (.int (dpt sch)) := by
  rcases h with rfl | rfl <;> rfl
theorem gate43 {w t sch : List Nat} {pd : D} {i : Int} (hw : Wd w) (ht : Dr t pd) (hsch : sch = kHttp ∨ sch = kHttps) {k : R (Fl Unit Empty)} :
    (do let t91 ← (DL.ask ((notInD (.str w) (.lst [.str [97, 110, 121], .str sch])).bind bOf)); seqF (if t91 = true then (pure (.rt (.bl false))) else (pure (.nx ()))) fun (q12 : Unit) => (do let t90 ← (DL.andM (DL.ask ((isD pd .non).bind bOf)) (do let y20 ← (Mo.lift (m__law_default_6094 [.str sch])); DL.ask ((neD (.int i) y20).bind bOf))); seqF (if t90 = true then (pure (.rt (.bl false))) else (pure (.nx ()))) fun (q21 : Unit) => (do let t89 ← (DL.andM (DL.ask ((isNotD pd .non).bind bOf)) (DL.notM (do let x29 ← (chainM leD leD (DL.ask (ixD pd (.int 0))) (pure (.int i)) (DL.ask (ixD pd (.int 1)))); DL.ask (bOf x29)))); seqF (if t89 = true then (pure (.rt (.bl false))) else (pure (.nx ()))) fun (q30 : Unit) => k)) : R (Fl Unit Empty)) = if fitB w sch i pd = true then k else .ok (.rt (.bl false)) := by
  have tx : Tx 5 w := by rcases hw with rfl | rfl | rfl <;> exact ⟨by decide, by decide⟩
  have ta : ∀ z ∈ ([[97, 110, 121], sch] : List (List Nat)), Tx 1000 z := by
    rcases hsch with rfl | rfl <;> exact tx_all (by decide)
  have hin : (notInD (.str w) (.lst [.str [97, 110, 121], .str sch])).bind bOf = some (!decide (w ∈ [[97, 110, 121], sch])) := notin_L tx ta
  rw [hin]
  unfold fitB
  cases hb : decide (w ∈ [[97, 110, 121], sch]) with
  | false => rfl
  | true =>
    simp only [Bool.not_true, askR, pure_bind, Bool.false_eq_true, if_false, sqp, Bool.true_and]
    rcases ht with ⟨rfl, rfl⟩ | ⟨u, lo, hi, rfl, rfl, h1, h2, h3, _⟩
    · have isn : isD .non .non = some (.bl true) := rfl
      have isnn : isNotD .non .non = some (.bl false) := rfl
      have ne : (neD (.int i) (.int (dpt sch))).bind bOf = some (!decide (i = dpt sch)) := rfl
      simp only [isn, isnn, Option.bind_some, bOf_bl, askR, DL.andM, pure_bind, if_true, default43 hsch, lift_pR, okpR, ne, dueB]
      by_cases c : i = dpt sch
      · simp only [decide_eq_true c, Bool.not_true, Bool.false_eq_true, if_false, if_true]
        rfl
      · simp only [decide_eq_false c, Bool.not_false, Bool.false_eq_true, if_false, if_true]
        rfl
    · have isn : isD (iPd lo hi) .non = some (.bl false) := rfl
      have isnn : isNotD (iPd lo hi) .non = some (.bl true) := rfl
      have x0 : ixD (iPd lo hi) (.int 0) = some (.int lo) := rfl
      have x1 : ixD (iPd lo hi) (.int 1) = some (.int hi) := rfl
      have e : dueB sch i (iPd lo hi) = (decide (lo ≤ i) && decide (i ≤ hi)) := rfl
      rw [e]
      simp only [isn, isnn, Option.bind_some, bOf_bl, askR, DL.andM, DL.notM, pure_bind, Bool.false_eq_true, if_false, if_true, sqp, x0, x1, chain_ii, okpR]
      by_cases c : (decide (lo ≤ i) && decide (i ≤ hi)) = true
      · simp only [c, Bool.not_true, Bool.false_eq_true, if_false, if_true]
        rfl
      · have c' : (decide (lo ≤ i) && decide (i ≤ hi)) = false := by simpa using c
        simp only [c', Bool.not_false, Bool.false_eq_true, if_false, if_true]
        rfl
def Labs (R : List (List Nat)) : Prop := ∀ z ∈ R, isLab 20 z = true
end FN
namespace FN
open DL PySem PySem.W
def c_EXCEPTION : D := (.str [101, 120, 99, 101, 112, 116, 105, 111, 110])
def c_LEAST_OF_GROUP : D := (.int (2))
def c_MOST_GROUPS : D := (.int (4))
def c_MOST_LABELS_OF_MEMBER : D := (.int (3))
def c_MOST_LABELS_OF_ROW : D := (.int (3))
def c_MOST_OF_GROUP : D := (.int (4))
def c_PLAIN : D := (.str [112, 108, 97, 105, 110])
def c_WILD : D := (.str [111, 112, 101, 110])
def b_ends_with_d715 (a0 a1 : D) : R (Fl Unit Empty) := (do let v24 ← (andV (do let x7 ← (do let r3 ← (do let x1 ← (pure a0); let r2 ← pure []; pure (x1 :: r2)); DL.ask (lenD r3)); let y8 ← (do let r6 ← (do let x4 ← (pure a1); let r5 ← pure []; pure (x4 :: r5)); DL.ask (lenD r6)); DL.ask (geD x7 y8)) (do let x22 ← (do let x19 ← (pure a0); let l20 ← (do let x17 ← (do let x15 ← (do let r11 ← (do let x9 ← (pure a0); let r10 ← pure []; pure (x9 :: r10)); DL.ask (lenD r11)); let y16 ← (do let r14 ← (do let x12 ← (pure a1); let r13 ← pure []; pure (x12 :: r13)); DL.ask (lenD r14)); DL.ask (subD x15 y16)); let i18 ← DL.ask (intOf x17); pure (some i18)); let u21 ← (pure none); DL.ask (sliceD x19 l20 u21)); let y23 ← (pure a1); DL.ask (eqD x22 y23))); pure (.rt v24))
theorem e_ends_with_d715 (a0 a1 : D) : b_ends_with_d715 a0 a1 = (do let v24 ← (andV (do let x7 ← (DL.ask (lenD [a0])); let y8 ← (DL.ask (lenD [a1])); DL.ask (geD x7 y8)) (do let x15 ← (DL.ask (lenD [a0])); let y16 ← (DL.ask (lenD [a1])); let x17 ← (DL.ask (subD x15 y16)); let i18 ← DL.ask (intOf x17); let x22 ← (DL.ask (sliceD a0 (some i18) none)); DL.ask (eqD x22 a1))); pure (.rt v24)) := by
  unfold b_ends_with_d715; simp only [pure_bind, bind_assoc, mkL]
def m_ends_with_d715 : List D → R D := apR2 fun a0 a1 => (runR false (b_ends_with_d715 a0 a1))
theorem n_ends_with_d715 : ∀ ds : List D, m_ends_with_d715 ds ≠ .stuck → ds.length = 2 := apR2_len _
def b_Pattern_shape_d275 (a0 : D) : R (Fl Unit Empty) := (do let v12 ← (do let r10 ← (do let x8 ← (do let x1 ← (pure a0); DL.ask (fldD ["HostPattern", "PathPattern"] "head" x1)); let r9 ← (do let x6 ← (do let x2 ← (pure a0); DL.ask (fldD ["HostPattern", "PathPattern"] "tail" x2)); let r7 ← (do let x4 ← (do let x3 ← (pure a0); DL.ask (fldD ["HostPattern", "PathPattern"] "gap" x3)); let r5 ← pure []; pure (x4 :: r5)); pure (x6 :: r7)); pure (x8 :: r9)); let r11 ← DL.ask (szL r10); pure (.tup r11)); pure (.rt v12))
def m_Pattern_shape_d275 : List D → R D := apR1 fun a0 => (runR false (b_Pattern_shape_d275 a0))
def b_parsed_row_b892 (a0 : D) : R (Fl Unit Empty) := (do let t76 ← (DL.notM (do let x2 ← (do let x1 ← (pure a0); DL.ask (isiD "str" x1)); DL.ask (truD x2))); seqF (if t76 = true then (do let v4 ← (pure .non); pure (.rt v4)) else (pure (.nx ()))) fun (q3 : Unit) => (do let v5 ← (do let r15 ← (do let x13 ← (pure c_PLAIN); let r14 ← (do let x11 ← (pure a0); let r12 ← (do let x9 ← (pure (.int 1)); let r10 ← (do let x7 ← (pure c_MOST_LABELS_OF_ROW); let r8 ← pure []; pure (x7 :: r8)); pure (x9 :: r10)); pure (x11 :: r12)); pure (x13 :: r14)); let r16 ← DL.ask (szL r15); pure (.tup r16)); let c6 ← DL.ask ((unN 4) v5); (do let t75 ← (do let x19 ← (do let x17 ← (pure a0); let _ ← DL.ask (strOf x17); let y18 ← (pure (.str [33])); DL.ask (strM (fun a b => .bl (PySem.Txt.startswith ⟨a.toArray⟩ ⟨b.toArray⟩)) x17 y18)); DL.ask (truD x19)); seqF (if t75 = true then (do let v27 ← (pure c_EXCEPTION); let v28 ← (do let x24 ← (pure a0); let l25 ← (do let x22 ← (pure (.int 1)); let i23 ← DL.ask (intOf x22); pure (some i23)); let u26 ← (pure none); DL.ask (sliceD x24 l25 u26)); let v29 ← (pure (.int 2)); (pure (.nx (v27, v28, v29, (c6.getD 3 .non))))) else (do let t45 ← (do let x32 ← (do let x30 ← (pure a0); let _ ← DL.ask (strOf x30); let y31 ← (pure (.str [42, 46])); DL.ask (strM (fun a b => .bl (PySem.Txt.startswith ⟨a.toArray⟩ ⟨b.toArray⟩)) x30 y31)); DL.ask (truD x32)); seqF (if t45 = true then (do let v42 ← (pure c_WILD); let v43 ← (do let x37 ← (pure a0); let l38 ← (do let x35 ← (pure (.int 2)); let i36 ← DL.ask (intOf x35); pure (some i36)); let u39 ← (pure none); DL.ask (sliceD x37 l38 u39)); let v44 ← (do let x40 ← (pure c_MOST_LABELS_OF_ROW); let y41 ← (pure (.int 1)); DL.ask (subD x40 y41)); (pure (.nx (v42, v43, v44)))) else (pure (.nx ((c6.getD 0 .non), (c6.getD 1 .non), (c6.getD 3 .non))))) fun (q33 : D × D × D) => (pure (.nx (q33.1, q33.2.1, (c6.getD 2 .non), q33.2.2))))) fun (q20 : D × D × D × D) => (do let v46 ← (do let r51 ← (do let x49 ← (mkL (do let x47 ← (pure q20.2.1); let _ ← DL.ask (strOf x47); let y48 ← (pure (.str [46])); DL.ask (splitD x47 y48))); let r50 ← pure []; pure (x49 :: r50)); DL.ask (tupleD r51)); (do let t74 ← (DL.orM (DL.notM (do let x55 ← (chainM leD leD (pure q20.2.2.1) (do let r54 ← (do let x52 ← (pure v46); let r53 ← pure []; pure (x52 :: r53)); DL.ask (lenD r54)) (pure q20.2.2.2)); DL.ask (bOf x55))) (do let x64 ← (mkL (do let r63 ← (do let r56 ← (pure v46); DL.ask (itD r56)); lcF (fun d => some d) (fun (c58 : D) => (DL.notM (do let x62 ← (do let r61 ← (do let x59 ← (pure c58); let r60 ← pure []; pure (x59 :: r60)); Mo.lift (m_is_label_344b r61)); DL.ask (truD x62)))) (fun (c58 : D) => (pure c58)) r63)); DL.ask (truD x64))); seqF (if t74 = true then (do let v66 ← (pure .non); pure (.rt v66)) else (pure (.nx ()))) fun (q65 : Unit) => (do let v73 ← (do let r71 ← (do let x69 ← (pure q20.1); let r70 ← (do let x67 ← (pure v46); let r68 ← pure []; pure (x67 :: r68)); pure (x69 :: r70)); let r72 ← DL.ask (szL r71); pure (.tup r72)); pure (.rt v73)))))))
theorem e_parsed_row_b892 (a0 : D) : b_parsed_row_b892 a0 = (do let t76 ← (DL.notM (do let x2 ← (DL.ask (isiD "str" a0)); DL.ask (truD x2))); seqF (if t76 = true then (pure (.rt .non)) else (pure (.nx ()))) fun (q3 : Unit) => (do let r16 ← DL.ask (szL [c_PLAIN, a0, (.int 1), c_MOST_LABELS_OF_ROW]); let c6 ← DL.ask ((unN 4) (.tup r16)); let _ ← DL.ask (strOf a0); let x19 ← (DL.ask (strM (fun a b => .bl (PySem.Txt.startswith ⟨a.toArray⟩ ⟨b.toArray⟩)) a0 (.str [33]))); let t75 ← (DL.ask (truD x19)); seqF (if t75 = true then (do let i23 ← DL.ask (intOf (.int 1)); let v28 ← (DL.ask (sliceD a0 (some i23) none)); (pure (.nx (c_EXCEPTION, v28, (.int 2), (c6.getD 3 .non))))) else (do let _ ← DL.ask (strOf a0); let x32 ← (DL.ask (strM (fun a b => .bl (PySem.Txt.startswith ⟨a.toArray⟩ ⟨b.toArray⟩)) a0 (.str [42, 46]))); let t45 ← (DL.ask (truD x32)); seqF (if t45 = true then (do let i36 ← DL.ask (intOf (.int 2)); let v43 ← (DL.ask (sliceD a0 (some i36) none)); let v44 ← (DL.ask (subD c_MOST_LABELS_OF_ROW (.int 1))); (pure (.nx (c_WILD, v43, v44)))) else (pure (.nx ((c6.getD 0 .non), (c6.getD 1 .non), (c6.getD 3 .non))))) fun (q33 : D × D × D) => (pure (.nx (q33.1, q33.2.1, (c6.getD 2 .non), q33.2.2))))) fun (q20 : D × D × D × D) => (do let _ ← DL.ask (strOf q20.2.1); let x49 ← (DL.ask (splitD q20.2.1 (.str [46]))); let v46 ← (DL.ask (tupleD [(.lst x49)])); let t74 ← (DL.orM (DL.notM (do let x55 ← (chainM leD leD (pure q20.2.2.1) (DL.ask (lenD [v46])) (pure q20.2.2.2)); DL.ask (bOf x55))) (do let r63 ← (DL.ask (itD v46)); let x64 ← (lcF (fun d => some d) (fun (c58 : D) => (DL.notM (do let x62 ← (Mo.lift (m_is_label_344b [c58])); DL.ask (truD x62)))) (fun (c58 : D) => (pure c58)) r63); DL.ask (truD (.lst x64)))); seqF (if t74 = true then (pure (.rt .non)) else (pure (.nx ()))) fun (q65 : Unit) => (do let r72 ← DL.ask (szL [q20.1, v46]); pure (.rt (.tup r72)))))) := by
  unfold b_parsed_row_b892; simp only [pure_bind, bind_assoc, mkL]
def m_parsed_row_b892 : List D → R D := apR1 fun a0 => (runR false (b_parsed_row_b892 a0))
def b_ending_size_5148 (a0 a1 : D) : R (Fl Unit Empty) := (do let v1 ← (do let r7 ← (do let x5 ← (pure (.int 1)); let r6 ← (do let x3 ← (pure (.int 0)); let r4 ← pure []; pure (x3 :: r4)); pure (x5 :: r6)); let r8 ← DL.ask (szL r7); pure (.tup r8)); let c2 ← DL.ask (un2 v1); (do let r73 ← (do let r9 ← (pure a0); DL.ask (itD r9)); seqF (forF un2 (fun (q10 : D × D) (c11 : D × D) => (do let t66 ← (DL.notM (do let x17 ← (do let r16 ← (do let x14 ← (pure a1); let r15 ← (do let x12 ← (pure c11.2); let r13 ← pure []; pure (x12 :: r13)); pure (x14 :: r15)); Mo.lift (m_ends_with_d715 r16)); DL.ask (truD x17))); seqF (if t66 = true then (pure (.ct (q10.1, q10.2))) else (pure (.nx ()))) fun (q18 : Unit) => (do let t65 ← (do let x19 ← (pure c11.1); let y20 ← (pure c_EXCEPTION); DL.ask ((eqD x19 y20).bind bOf)); seqF (if t65 = true then (do let v22 ← (do let r30 ← (do let x28 ← (pure q10.2); let r29 ← (do let x26 ← (do let r25 ← (do let x23 ← (pure c11.2); let r24 ← pure []; pure (x23 :: r24)); DL.ask (lenD r25)); let r27 ← pure []; pure (x26 :: r27)); pure (x28 :: r29)); DL.ask (maxD r30)); (pure (.nx (q10.1, v22)))) else (do let t64 ← (do let x31 ← (pure c11.1); let y32 ← (pure c_PLAIN); DL.ask ((eqD x31 y32).bind bOf)); seqF (if t64 = true then (do let v34 ← (do let r42 ← (do let x40 ← (pure q10.1); let r41 ← (do let x38 ← (do let r37 ← (do let x35 ← (pure c11.2); let r36 ← pure []; pure (x35 :: r36)); DL.ask (lenD r37)); let r39 ← pure []; pure (x38 :: r39)); pure (x40 :: r41)); DL.ask (maxD r42)); (pure (.nx v34))) else (do let t63 ← (do let x49 ← (do let r45 ← (do let x43 ← (pure a1); let r44 ← pure []; pure (x43 :: r44)); DL.ask (lenD r45)); let y50 ← (do let r48 ← (do let x46 ← (pure c11.2); let r47 ← pure []; pure (x46 :: r47)); DL.ask (lenD r48)); DL.ask ((gtD x49 y50).bind bOf)); seqF (if t63 = true then (do let v52 ← (do let r62 ← (do let x60 ← (pure q10.1); let r61 ← (do let x58 ← (do let x56 ← (do let r55 ← (do let x53 ← (pure c11.2); let r54 ← pure []; pure (x53 :: r54)); DL.ask (lenD r55)); let y57 ← (pure (.int 1)); DL.ask (addD x56 y57)); let r59 ← pure []; pure (x58 :: r59)); pure (x60 :: r61)); DL.ask (maxD r62)); (pure (.nx v52))) else (pure (.nx q10.1))) fun (q51 : D) => (pure (.nx q51)))) fun (q33 : D) => (pure (.nx (q33, q10.2))))) fun (q21 : D × D) => (pure (.nx (q21.1, q21.2)))))) r73 (c2.1, c2.2)) fun (q67 : D × D) => (do let v72 ← (iteM (do let x68 ← (pure q67.2); let y69 ← (pure (.int 0)); DL.ask ((gtD x68 y69).bind bOf)) (do let x70 ← (pure q67.2); let y71 ← (pure (.int 1)); DL.ask (subD x70 y71)) (pure q67.1)); pure (.rt v72))))
theorem e_ending_size_5148 (a0 a1 : D) : b_ending_size_5148 a0 a1 = (do let r8 ← DL.ask (szL [(.int 1), (.int 0)]); let c2 ← DL.ask (un2 (.tup r8)); let r73 ← (DL.ask (itD a0)); seqF (forF un2 (fun (q10 : D × D) (c11 : D × D) => (do let t66 ← (DL.notM (do let x17 ← (Mo.lift (m_ends_with_d715 [a1, c11.2])); DL.ask (truD x17))); seqF (if t66 = true then (pure (.ct (q10.1, q10.2))) else (pure (.nx ()))) fun (q18 : Unit) => (do let t65 ← (DL.ask ((eqD c11.1 c_EXCEPTION).bind bOf)); seqF (if t65 = true then (do let x26 ← (DL.ask (lenD [c11.2])); let v22 ← (DL.ask (maxD [q10.2, x26])); (pure (.nx (q10.1, v22)))) else (do let t64 ← (DL.ask ((eqD c11.1 c_PLAIN).bind bOf)); seqF (if t64 = true then (do let x38 ← (DL.ask (lenD [c11.2])); let v34 ← (DL.ask (maxD [q10.1, x38])); (pure (.nx v34))) else (do let x49 ← (DL.ask (lenD [a1])); let y50 ← (DL.ask (lenD [c11.2])); let t63 ← (DL.ask ((gtD x49 y50).bind bOf)); seqF (if t63 = true then (do let x56 ← (DL.ask (lenD [c11.2])); let x58 ← (DL.ask (addD x56 (.int 1))); let v52 ← (DL.ask (maxD [q10.1, x58])); (pure (.nx v52))) else (pure (.nx q10.1))) fun (q51 : D) => (pure (.nx q51)))) fun (q33 : D) => (pure (.nx (q33, q10.2))))) fun (q21 : D × D) => (pure (.nx (q21.1, q21.2)))))) r73 (c2.1, c2.2)) fun (q67 : D × D) => (do let v72 ← (iteM (DL.ask ((gtD q67.2 (.int 0)).bind bOf)) (DL.ask (subD q67.2 (.int 1))) (pure q67.1)); pure (.rt v72))) := by
  unfold b_ending_size_5148; simp only [pure_bind, bind_assoc, mkL]
def m_ending_size_5148 : List D → R D := apR2 fun a0 a1 => (runR false (b_ending_size_5148 a0 a1))
def b_member_and_head_c6a4 (a0 a1 : D) : R (Fl Unit Empty) := (do let v1 ← (pure .non); (do let r41 ← (do let r2 ← (pure a0); DL.ask (itD r2)); seqF (forF (fun d => some d) (fun (q3 : D) (c4 : D) => (do let r38 ← (do let r5 ← (pure c4); DL.ask (itD r5)); seqF (forF (fun d => some d) (fun (q6 : D) (c7 : D) => (do let t36 ← (DL.andM (do let x13 ← (do let r12 ← (do let x10 ← (pure a1); let r11 ← (do let x8 ← (pure c7); let r9 ← pure []; pure (x8 :: r9)); pure (x10 :: r11)); Mo.lift (m_ends_with_d715 r12)); DL.ask (truD x13)) (DL.orM (do let x14 ← (pure q6); let y15 ← (pure .non); DL.ask ((isD x14 y15).bind bOf)) (do let x24 ← (do let r18 ← (do let x16 ← (pure c7); let r17 ← pure []; pure (x16 :: r17)); DL.ask (lenD r18)); let y25 ← (do let r23 ← (do let x21 ← (do let x19 ← (pure q6); let y20 ← (pure (.int 0)); DL.ask (ixD x19 y20)); let r22 ← pure []; pure (x21 :: r22)); DL.ask (lenD r23)); DL.ask ((gtD x24 y25).bind bOf)))); seqF (if t36 = true then (do let v27 ← (do let r34 ← (do let x32 ← (pure c7); let r33 ← (do let x30 ← (do let x28 ← (pure c4); let y29 ← (pure (.int 0)); DL.ask (ixD x28 y29)); let r31 ← pure []; pure (x30 :: r31)); pure (x32 :: r33)); let r35 ← DL.ask (szL r34); pure (.tup r35)); (pure (.nx v27))) else (pure (.nx q6))) fun (q26 : D) => (pure (.nx q26)))) r38 q3) fun (q37 : D) => (pure (.nx q37)))) r41 v1) fun (q39 : D) => (do let v40 ← (pure q39); pure (.rt v40))))
theorem e_member_and_head_c6a4 (a0 a1 : D) : b_member_and_head_c6a4 a0 a1 = (do let r41 ← (DL.ask (itD a0)); seqF (forF (fun d => some d) (fun (q3 : D) (c4 : D) => (do let r38 ← (DL.ask (itD c4)); seqF (forF (fun d => some d) (fun (q6 : D) (c7 : D) => (do let t36 ← (DL.andM (do let x13 ← (Mo.lift (m_ends_with_d715 [a1, c7])); DL.ask (truD x13)) (DL.orM (DL.ask ((isD q6 .non).bind bOf)) (do let x24 ← (DL.ask (lenD [c7])); let x21 ← (DL.ask (ixD q6 (.int 0))); let y25 ← (DL.ask (lenD [x21])); DL.ask ((gtD x24 y25).bind bOf)))); seqF (if t36 = true then (do let x30 ← (DL.ask (ixD c4 (.int 0))); let r35 ← DL.ask (szL [c7, x30]); (pure (.nx (.tup r35)))) else (pure (.nx q6))) fun (q26 : D) => (pure (.nx q26)))) r38 q3) fun (q37 : D) => (pure (.nx q37)))) r41 .non) fun (q39 : D) => (pure (.rt q39))) := by
  unfold b_member_and_head_c6a4; simp only [pure_bind, bind_assoc, mkL]
def m_member_and_head_c6a4 : List D → R D := apR2 fun a0 a1 => (runR false (b_member_and_head_c6a4 a0 a1))
theorem n_member_and_head_c6a4 : ∀ ds : List D, m_member_and_head_c6a4 ds ≠ .stuck → ds.length = 2 := apR2_len _
def b_door_fits_6b32 (a0 a1 a2 : D) : R (Fl Unit Empty) := (do let t30 ← (do let x8 ← (do let x1 ← (pure a0); DL.ask (fldD ["Page", "Rule"] "scheme" x1)); let y9 ← (do let r6 ← (do let x4 ← (pure (.str [97, 110, 121])); let r5 ← (do let x2 ← (pure a1); let r3 ← pure []; pure (x2 :: r3)); pure (x4 :: r5)); let r7 ← DL.ask (szL r6); pure (.tup r7)); DL.ask ((notInD x8 y9).bind bOf)); seqF (if t30 = true then (do let v11 ← (pure (.bl false)); pure (.rt v11)) else (pure (.nx ()))) fun (q10 : Unit) => (do let t29 ← (do let x13 ← (do let x12 ← (pure a0); DL.ask (fldD ["Rule"] "ports" x12)); let y14 ← (pure .non); DL.ask ((isD x13 y14).bind bOf)); seqF (if t29 = true then (do let v21 ← (do let x19 ← (pure a2); let y20 ← (do let r18 ← (do let x16 ← (pure a1); let r17 ← pure []; pure (x16 :: r17)); Mo.lift (m_default_port_11a4 r18)); DL.ask (eqD x19 y20)); pure (.rt v21)) else (pure (.nx ()))) fun (q15 : Unit) => (do let v28 ← (chainM leD leD (do let x23 ← (do let x22 ← (pure a0); DL.ask (fldD ["Rule"] "ports" x22)); let y24 ← (pure (.int 0)); DL.ask (ixD x23 y24)) (pure a2) (do let x26 ← (do let x25 ← (pure a0); DL.ask (fldD ["Rule"] "ports" x25)); let y27 ← (pure (.int 1)); DL.ask (ixD x26 y27))); pure (.rt v28))))
theorem e_door_fits_6b32 (a0 a1 a2 : D) : b_door_fits_6b32 a0 a1 a2 = (do let x8 ← (DL.ask (fldD ["Page", "Rule"] "scheme" a0)); let r7 ← DL.ask (szL [(.str [97, 110, 121]), a1]); let t30 ← (DL.ask ((notInD x8 (.tup r7)).bind bOf)); seqF (if t30 = true then (pure (.rt (.bl false))) else (pure (.nx ()))) fun (q10 : Unit) => (do let x13 ← (DL.ask (fldD ["Rule"] "ports" a0)); let t29 ← (DL.ask ((isD x13 .non).bind bOf)); seqF (if t29 = true then (do let y20 ← (Mo.lift (m_default_port_11a4 [a1])); let v21 ← (DL.ask (eqD a2 y20)); pure (.rt v21)) else (pure (.nx ()))) fun (q15 : Unit) => (do let v28 ← (chainM leD leD (do let x23 ← (DL.ask (fldD ["Rule"] "ports" a0)); DL.ask (ixD x23 (.int 0))) (pure a2) (do let x26 ← (DL.ask (fldD ["Rule"] "ports" a0)); DL.ask (ixD x26 (.int 1)))); pure (.rt v28)))) := by
  unfold b_door_fits_6b32; simp only [pure_bind, bind_assoc, mkL]
def m_door_fits_6b32 : List D → R D := apR3 fun a0 a1 a2 => (runR false (b_door_fits_6b32 a0 a1 a2))
def b_site_by_dd2e (a0 a1 : D) : R (Fl Unit Empty) := (do let v1 ← (do let r16 ← (do let x14 ← (do let r4 ← (do let x2 ← (pure a1); let r3 ← pure []; pure (x2 :: r3)); DL.ask (lenD r4)); let r15 ← (do let x12 ← (do let x10 ← (do let r9 ← (do let x7 ← (pure a0); let r8 ← (do let x5 ← (pure a1); let r6 ← pure []; pure (x5 :: r6)); pure (x7 :: r8)); Mo.lift (m_ending_size_5148 r9)); let y11 ← (pure (.int 1)); DL.ask (addD x10 y11)); let r13 ← pure []; pure (x12 :: r13)); pure (x14 :: r15)); DL.ask (minD r16)); (do let v27 ← (do let x24 ← (pure a1); let l25 ← (do let x22 ← (do let x20 ← (do let r19 ← (do let x17 ← (pure a1); let r18 ← pure []; pure (x17 :: r18)); DL.ask (lenD r19)); let y21 ← (pure v1); DL.ask (subD x20 y21)); let i23 ← DL.ask (intOf x22); pure (some i23)); let u26 ← (pure none); DL.ask (sliceD x24 l25 u26)); pure (.rt v27)))
theorem e_site_by_dd2e (a0 a1 : D) : b_site_by_dd2e a0 a1 = (do let x14 ← (DL.ask (lenD [a1])); let x10 ← (Mo.lift (m_ending_size_5148 [a0, a1])); let x12 ← (DL.ask (addD x10 (.int 1))); let v1 ← (DL.ask (minD [x14, x12])); let x20 ← (DL.ask (lenD [a1])); let x22 ← (DL.ask (subD x20 v1)); let i23 ← DL.ask (intOf x22); let v27 ← (DL.ask (sliceD a1 (some i23) none)); pure (.rt v27)) := by
  unfold b_site_by_dd2e; simp only [pure_bind, bind_assoc, mkL]
def m_site_by_dd2e : List D → R D := apR2 fun a0 a1 => (runR false (b_site_by_dd2e a0 a1))
def b_moved_8ac7 (a0 a1 : D) : R (Fl Unit Empty) := (do let v1 ← (do let r6 ← (do let x4 ← (pure a0); let r5 ← (do let x2 ← (pure a1); let r3 ← pure []; pure (x2 :: r3)); pure (x4 :: r5)); Mo.lift (m_member_and_head_c6a4 r6)); (do let t29 ← (do let x7 ← (pure v1); let y8 ← (pure .non); DL.ask ((isD x7 y8).bind bOf)); seqF (if t29 = true then (do let v10 ← (pure a1); pure (.rt v10)) else (pure (.nx ()))) fun (q9 : Unit) => (do let v11 ← (pure v1); let c12 ← DL.ask (un2 v11); (do let v28 ← (do let x26 ← (do let x23 ← (pure a1); let l24 ← (pure none); let u25 ← (do let x21 ← (do let x19 ← (do let r15 ← (do let x13 ← (pure a1); let r14 ← pure []; pure (x13 :: r14)); DL.ask (lenD r15)); let y20 ← (do let r18 ← (do let x16 ← (pure c12.1); let r17 ← pure []; pure (x16 :: r17)); DL.ask (lenD r18)); DL.ask (subD x19 y20)); let i22 ← DL.ask (intOf x21); pure (some i22)); DL.ask (sliceD x23 l24 u25)); let y27 ← (pure c12.2); DL.ask (addD x26 y27)); pure (.rt v28)))))
theorem e_moved_8ac7 (a0 a1 : D) : b_moved_8ac7 a0 a1 = (do let v1 ← (Mo.lift (m_member_and_head_c6a4 [a0, a1])); let t29 ← (DL.ask ((isD v1 .non).bind bOf)); seqF (if t29 = true then (pure (.rt a1)) else (pure (.nx ()))) fun (q9 : Unit) => (do let c12 ← DL.ask (un2 v1); let x19 ← (DL.ask (lenD [a1])); let y20 ← (DL.ask (lenD [c12.1])); let x21 ← (DL.ask (subD x19 y20)); let i22 ← DL.ask (intOf x21); let x26 ← (DL.ask (sliceD a1 none (some i22))); let v28 ← (DL.ask (addD x26 c12.2)); pure (.rt v28))) := by
  unfold b_moved_8ac7; simp only [pure_bind, bind_assoc, mkL]
def m_moved_8ac7 : List D → R D := apR2 fun a0 a1 => (runR false (b_moved_8ac7 a0 a1))
theorem n_moved_8ac7 : ∀ ds : List D, m_moved_8ac7 ds ≠ .stuck → ds.length = 2 := apR2_len _
def b_host_of_5eec (a0 : D) : R (Fl Unit Empty) := (do let t20 ← (DL.orM (DL.notM (do let x2 ← (do let x1 ← (pure a0); DL.ask (isiD "str" x1)); DL.ask (truD x2))) (DL.notM (do let x11 ← (do let r10 ← (do let x8 ← (do let r7 ← (do let x5 ← (mkL (do let x3 ← (pure a0); let _ ← DL.ask (strOf x3); let y4 ← (pure (.str [46])); DL.ask (splitD x3 y4))); let r6 ← pure []; pure (x5 :: r6)); DL.ask (tupleD r7)); let r9 ← pure []; pure (x8 :: r9)); Mo.lift (m_is_host_45ba r10)); DL.ask (truD x11)))); seqF (if t20 = true then (do let v13 ← (pure a0); raiseX "BadHost" "host" v13) else (pure (.nx ()))) fun (q12 : Unit) => (do let v19 ← (do let r18 ← (do let x16 ← (mkL (do let x14 ← (pure a0); let _ ← DL.ask (strOf x14); let y15 ← (pure (.str [46])); DL.ask (splitD x14 y15))); let r17 ← pure []; pure (x16 :: r17)); DL.ask (tupleD r18)); pure (.rt v19)))
theorem e_host_of_5eec (a0 : D) : b_host_of_5eec a0 = (do let t20 ← (DL.orM (DL.notM (do let x2 ← (DL.ask (isiD "str" a0)); DL.ask (truD x2))) (DL.notM (do let _ ← DL.ask (strOf a0); let x5 ← (DL.ask (splitD a0 (.str [46]))); let x8 ← (DL.ask (tupleD [(.lst x5)])); let x11 ← (Mo.lift (m_is_host_45ba [x8])); DL.ask (truD x11)))); seqF (if t20 = true then (raiseX "BadHost" "host" a0) else (pure (.nx ()))) fun (q12 : Unit) => (do let _ ← DL.ask (strOf a0); let x16 ← (DL.ask (splitD a0 (.str [46]))); let v19 ← (DL.ask (tupleD [(.lst x16)])); pure (.rt v19))) := by
  unfold b_host_of_5eec; simp only [pure_bind, bind_assoc, mkL]
def m_host_of_5eec : List D → R D := apR1 fun a0 => (runR false (b_host_of_5eec a0))
theorem n_host_of_5eec : ∀ ds : List D, m_host_of_5eec ds ≠ .stuck → ds.length = 1 := apR1_len _
def b_host_text_f5b6 (a0 : D) : R (Fl Unit Empty) := (do let t10 ← (DL.notM (do let x4 ← (do let r3 ← (do let x1 ← (pure a0); let r2 ← pure []; pure (x1 :: r2)); Mo.lift (m_is_host_45ba r3)); DL.ask (truD x4))); seqF (if t10 = true then (do let v6 ← (pure a0); raiseX "BadHost" "host" v6) else (pure (.nx ()))) fun (q5 : Unit) => (do let v9 ← (do let x7 ← (pure (.str [46])); let _ ← DL.ask (strOf x7); let y8 ← (pure a0); DL.ask (joinD x7 y8)); pure (.rt v9)))
theorem e_host_text_f5b6 (a0 : D) : b_host_text_f5b6 a0 = (do let t10 ← (DL.notM (do let x4 ← (Mo.lift (m_is_host_45ba [a0])); DL.ask (truD x4))); seqF (if t10 = true then (raiseX "BadHost" "host" a0) else (pure (.nx ()))) fun (q5 : Unit) => (do let _ ← DL.ask (strOf (.str [46])); let v9 ← (DL.ask (joinD (.str [46]) a0)); pure (.rt v9))) := by
  unfold b_host_text_f5b6; simp only [pure_bind, bind_assoc, mkL]
def m_host_text_f5b6 : List D → R D := apR1 fun a0 => (runR false (b_host_text_f5b6 a0))
theorem n_host_text_f5b6 : ∀ ds : List D, m_host_text_f5b6 ds ≠ .stuck → ds.length = 1 := apR1_len _
def b_site_of_0513 (a0 a1 : D) : R (Fl Unit Empty) := (do let v13 ← (do let r12 ← (do let x10 ← (mkL (do let r7 ← (do let r1 ← (pure a0); DL.ask (itD r1)); lcF (fun d => some d) (fun (c3 : D) => pure true) (fun (c3 : D) => (do let r6 ← (do let x4 ← (pure c3); let r5 ← pure []; pure (x4 :: r5)); Mo.lift (m_parsed_row_b892 r6))) r7)); let r11 ← (do let x8 ← (pure a1); let r9 ← pure []; pure (x8 :: r9)); pure (x10 :: r11)); Mo.lift (m_site_by_dd2e r12)); pure (.rt v13))
theorem e_site_of_0513 (a0 a1 : D) : b_site_of_0513 a0 a1 = (do let r7 ← (DL.ask (itD a0)); let x10 ← (lcF (fun d => some d) (fun (c3 : D) => pure true) (fun (c3 : D) => (Mo.lift (m_parsed_row_b892 [c3]))) r7); let v13 ← (Mo.lift (m_site_by_dd2e [(.lst x10), a1])); pure (.rt v13)) := by
  unfold b_site_of_0513; simp only [pure_bind, bind_assoc, mkL]
def m_site_of_0513 : List D → R D := apR2 fun a0 a1 => (runR false (b_site_of_0513 a0 a1))
def b_checked_group_64d1 (a0 a1 : D) : R (Fl Unit Empty) := (do let t56 ← (DL.orM (DL.notM (do let x2 ← (do let x1 ← (pure a0); DL.ask (isi2D "list" "tuple" x1)); DL.ask (truD x2))) (DL.notM (do let x6 ← (chainM leD leD (pure c_LEAST_OF_GROUP) (do let r5 ← (do let x3 ← (pure a0); let r4 ← pure []; pure (x3 :: r4)); DL.ask (lenD r5)) (pure c_MOST_OF_GROUP)); DL.ask (bOf x6)))); seqF (if t56 = true then (do let v8 ← (pure a0); raiseX "BadGroup" "group" v8) else (pure (.nx ()))) fun (q7 : Unit) => (do let v9 ← (do let r10 ← pure []; DL.ask (szL r10)); (do let r55 ← (do let r11 ← (pure a0); DL.ask (itD r11)); seqF (forF (fun d => some d) (fun (q12 : List D) (c13 : D) => (do let v14 ← (do let r17 ← (do let x15 ← (pure c13); let r16 ← pure []; pure (x15 :: r16)); Mo.lift (m_host_of_5eec r17)); (do let t27 ← (do let x21 ← (do let r20 ← (do let x18 ← (pure v14); let r19 ← pure []; pure (x18 :: r19)); DL.ask (lenD r20)); let y22 ← (pure c_MOST_LABELS_OF_MEMBER); DL.ask ((gtD x21 y22).bind bOf)); seqF (if t27 = true then (do let v24 ← (pure c13); raiseX "BadHost" "host" v24) else (pure (.nx ()))) fun (q23 : Unit) => (do let v25 ← (pure v14); let v26 ← DL.ask (apd q12 v25); (pure (.nx v26)))))) r55 v9) fun (q28 : List D) => (do let r54 ← (do let r31 ← (do let x29 ← (pure (.lst q28)); let r30 ← pure []; pure (x29 :: r30)); DL.ask (enumOf r31)); seqF (forF un2 (fun (q32 : Unit) (c33 : D × D) => (do let t48 ← (DL.orM (do let x34 ← (pure c33.2); let y35 ← (pure a1); DL.ask ((inD x34 y35).bind bOf)) (do let x41 ← (pure c33.2); let y42 ← (do let x38 ← (pure (.lst q28)); let l39 ← (pure none); let u40 ← (do let x36 ← (pure c33.1); let i37 ← DL.ask (intOf x36); pure (some i37)); DL.ask (sliceD x38 l39 u40)); DL.ask ((inD x41 y42).bind bOf))); seqF (if t48 = true then (do let v47 ← (do let r46 ← (do let x44 ← (pure c33.2); let r45 ← pure []; pure (x44 :: r45)); Mo.lift (m_host_text_f5b6 r46)); raiseX "Twice" "name" v47) else (pure (.nx ()))) fun (q43 : Unit) => (pure (.nx ())))) r54 ()) fun (q49 : Unit) => (do let v53 ← (do let r52 ← (do let x50 ← (pure (.lst q28)); let r51 ← pure []; pure (x50 :: r51)); DL.ask (tupleD r52)); pure (.rt v53))))))
theorem e_checked_group_64d1 (a0 a1 : D) : b_checked_group_64d1 a0 a1 = (do let t56 ← (DL.orM (DL.notM (do let x2 ← (DL.ask (isi2D "list" "tuple" a0)); DL.ask (truD x2))) (DL.notM (do let x6 ← (chainM leD leD (pure c_LEAST_OF_GROUP) (DL.ask (lenD [a0])) (pure c_MOST_OF_GROUP)); DL.ask (bOf x6)))); seqF (if t56 = true then (raiseX "BadGroup" "group" a0) else (pure (.nx ()))) fun (q7 : Unit) => (do let v9 ← (DL.ask (szL [])); let r55 ← (DL.ask (itD a0)); seqF (forF (fun d => some d) (fun (q12 : List D) (c13 : D) => (do let v14 ← (Mo.lift (m_host_of_5eec [c13])); let x21 ← (DL.ask (lenD [v14])); let t27 ← (DL.ask ((gtD x21 c_MOST_LABELS_OF_MEMBER).bind bOf)); seqF (if t27 = true then (raiseX "BadHost" "host" c13) else (pure (.nx ()))) fun (q23 : Unit) => (do let v26 ← DL.ask (apd q12 v14); (pure (.nx v26))))) r55 v9) fun (q28 : List D) => (do let r54 ← (DL.ask (enumOf [(.lst q28)])); seqF (forF un2 (fun (q32 : Unit) (c33 : D × D) => (do let t48 ← (DL.orM (DL.ask ((inD c33.2 a1).bind bOf)) (do let i37 ← DL.ask (intOf c33.1); let y42 ← (DL.ask (sliceD (.lst q28) none (some i37))); DL.ask ((inD c33.2 y42).bind bOf))); seqF (if t48 = true then (do let v47 ← (Mo.lift (m_host_text_f5b6 [c33.2])); raiseX "Twice" "name" v47) else (pure (.nx ()))) fun (q43 : Unit) => (pure (.nx ())))) r54 ()) fun (q49 : Unit) => (do let v53 ← (DL.ask (tupleD [(.lst q28)])); pure (.rt v53))))) := by
  unfold b_checked_group_64d1; simp only [pure_bind, bind_assoc, mkL]
def m_checked_group_64d1 : List D → R D := apR2 fun a0 a1 => (runR false (b_checked_group_64d1 a0 a1))
theorem n_checked_group_64d1 : ∀ ds : List D, m_checked_group_64d1 ds ≠ .stuck → ds.length = 2 := apR2_len _
def b_host_fits_56fd (a0 a1 a2 : D) : R (Fl Unit Empty) := (do let t29 ← (do let x2 ← (do let x1 ← (pure a0); DL.ask (fldD ["Page", "Rule"] "host" x1)); let y3 ← (pure .non); DL.ask ((isD x2 y3).bind bOf)); seqF (if t29 = true then (do let v18 ← (do let x16 ← (do let r9 ← (do let x7 ← (pure a1); let r8 ← (do let x5 ← (pure a2); let r6 ← pure []; pure (x5 :: r6)); pure (x7 :: r8)); Mo.lift (m_site_of_0513 r9)); let y17 ← (do let r15 ← (do let x13 ← (pure a1); let r14 ← (do let x11 ← (do let x10 ← (pure a0); DL.ask (fldD ["Rule"] "near" x10)); let r12 ← pure []; pure (x11 :: r12)); pure (x13 :: r14)); Mo.lift (m_site_of_0513 r15)); DL.ask (eqD x16 y17)); pure (.rt v18)) else (pure (.nx ()))) fun (q4 : Unit) => (do let v28 ← (do let r27 ← (do let x25 ← (do let x20 ← (do let x19 ← (pure a0); DL.ask (fldD ["Page", "Rule"] "host" x19)); let _ ← DL.ask (insOk ["HostPattern", "PathPattern"] "shape" x20); let r21 ← pure []; Mo.lift (dispM [("HostPattern", m_Pattern_shape_d275), ("PathPattern", m_Pattern_shape_d275)] x20 r21)); let r26 ← (do let x23 ← (do let x22 ← (pure a2); DL.ask (revD x22)); let r24 ← pure []; pure (x23 :: r24)); pure (x25 :: r26)); Mo.lift (m_row_fits_a0db r27)); pure (.rt v28)))
theorem e_host_fits_56fd (a0 a1 a2 : D) : b_host_fits_56fd a0 a1 a2 = (do let x2 ← (DL.ask (fldD ["Page", "Rule"] "host" a0)); let t29 ← (DL.ask ((isD x2 .non).bind bOf)); seqF (if t29 = true then (do let x16 ← (Mo.lift (m_site_of_0513 [a1, a2])); let x11 ← (DL.ask (fldD ["Rule"] "near" a0)); let y17 ← (Mo.lift (m_site_of_0513 [a1, x11])); let v18 ← (DL.ask (eqD x16 y17)); pure (.rt v18)) else (pure (.nx ()))) fun (q4 : Unit) => (do let x20 ← (DL.ask (fldD ["Page", "Rule"] "host" a0)); let _ ← DL.ask (insOk ["HostPattern", "PathPattern"] "shape" x20); let x25 ← (Mo.lift (dispM [("HostPattern", m_Pattern_shape_d275), ("PathPattern", m_Pattern_shape_d275)] x20 [])); let x23 ← (DL.ask (revD a2)); let v28 ← (Mo.lift (m_row_fits_a0db [x25, x23])); pure (.rt v28))) := by
  unfold b_host_fits_56fd; simp only [pure_bind, bind_assoc, mkL]
def m_host_fits_56fd : List D → R D := apR3 fun a0 a1 a2 => (runR false (b_host_fits_56fd a0 a1 a2))
def b_rule_fits_7439 (a0 a1 a2 a3 : D) : R (Fl Unit Empty) := (do let t31 ← (DL.orM (DL.notM (do let x10 ← (do let r9 ← (do let x7 ← (pure a0); let r8 ← (do let x5 ← (do let x1 ← (pure a3); DL.ask (fldD ["Page", "Rule"] "scheme" x1)); let r6 ← (do let x3 ← (do let x2 ← (pure a3); DL.ask (fldD ["Page"] "port" x2)); let r4 ← pure []; pure (x3 :: r4)); pure (x5 :: r6)); pure (x7 :: r8)); Mo.lift (m_door_fits_6b32 r9)); DL.ask (truD x10))) (DL.notM (do let x20 ← (do let r19 ← (do let x17 ← (do let x12 ← (do let x11 ← (pure a0); DL.ask (fldD ["Page", "Rule"] "path" x11)); let _ ← DL.ask (insOk ["HostPattern", "PathPattern"] "shape" x12); let r13 ← pure []; Mo.lift (dispM [("HostPattern", m_Pattern_shape_d275), ("PathPattern", m_Pattern_shape_d275)] x12 r13)); let r18 ← (do let x15 ← (do let x14 ← (pure a3); DL.ask (fldD ["Page", "Rule"] "path" x14)); let r16 ← pure []; pure (x15 :: r16)); pure (x17 :: r18)); Mo.lift (m_row_fits_a0db r19)); DL.ask (truD x20)))); seqF (if t31 = true then (do let v22 ← (pure (.bl false)); pure (.rt v22)) else (pure (.nx ()))) fun (q21 : Unit) => (do let v30 ← (do let r29 ← (do let x27 ← (pure a0); let r28 ← (do let x25 ← (pure a1); let r26 ← (do let x23 ← (pure a2); let r24 ← pure []; pure (x23 :: r24)); pure (x25 :: r26)); pure (x27 :: r28)); Mo.lift (m_host_fits_56fd r29)); pure (.rt v30)))
theorem e_rule_fits_7439 (a0 a1 a2 a3 : D) : b_rule_fits_7439 a0 a1 a2 a3 = (do let t31 ← (DL.orM (DL.notM (do let x5 ← (DL.ask (fldD ["Page", "Rule"] "scheme" a3)); let x3 ← (DL.ask (fldD ["Page"] "port" a3)); let x10 ← (Mo.lift (m_door_fits_6b32 [a0, x5, x3])); DL.ask (truD x10))) (DL.notM (do let x12 ← (DL.ask (fldD ["Page", "Rule"] "path" a0)); let _ ← DL.ask (insOk ["HostPattern", "PathPattern"] "shape" x12); let x17 ← (Mo.lift (dispM [("HostPattern", m_Pattern_shape_d275), ("PathPattern", m_Pattern_shape_d275)] x12 [])); let x15 ← (DL.ask (fldD ["Page", "Rule"] "path" a3)); let x20 ← (Mo.lift (m_row_fits_a0db [x17, x15])); DL.ask (truD x20)))); seqF (if t31 = true then (pure (.rt (.bl false))) else (pure (.nx ()))) fun (q21 : Unit) => (do let v30 ← (Mo.lift (m_host_fits_56fd [a0, a1, a2])); pure (.rt v30))) := by
  unfold b_rule_fits_7439; simp only [pure_bind, bind_assoc, mkL]
def m_rule_fits_7439 : List D → R D := apR4 fun a0 a1 a2 a3 => (runR false (b_rule_fits_7439 a0 a1 a2 a3))
def b_Groups_init_8f72 (a1 : D) : R (Fl (List D) Empty) := (do let v1 ← (do let r3 ← pure []; DL.ask (szL r3)); let v2 ← (do let r4 ← pure []; DL.ask (szL r4)); (do let r53 ← (do let r5 ← (pure a1); DL.ask (itD r5)); seqF (forF (fun d => some d) (fun (q6 : List D × List D) (c7 : D) => (do let v8 ← (do let w9 ← Mo.noex (do let r14 ← (do let x12 ← (pure c7); let r13 ← (do let x10 ← (pure (.lst q6.2)); let r11 ← pure []; pure (x10 :: r11)); pure (x12 :: r13)); Mo.lift (m_checked_group_64d1 r14)); DL.ask (flatD w9)); (do let v15 ← (pure v8); let v16 ← DL.ask (apd q6.1 v15); (do let v17 ← (mkL (do let r21 ← (do let x19 ← (pure v8); let r20 ← pure []; pure (x19 :: r20)); let r22 ← DL.ask (listD r21); DL.ask (szL r22))); let v18 ← DL.ask (extI q6.2 [v17]); (pure (.nx (v16, v18))))))) r53 (v1, v2)) fun (q23 : List D × List D) => (do let t52 ← (do let x27 ← (do let r26 ← (do let x24 ← (pure (.lst q23.1)); let r25 ← pure []; pure (x24 :: r25)); DL.ask (lenD r26)); let y28 ← (pure c_MOST_GROUPS); DL.ask ((gtD x27 y28).bind bOf)); seqF (if t52 = true then (Mo.lift R.stuck) else (pure (.nx ()))) fun (q29 : Unit) => (do let v30 ← (do let r33 ← (do let x31 ← (pure (.lst q23.1)); let r32 ← pure []; pure (x31 :: r32)); DL.ask (tupleD r33)); (do let v34 ← (do let r51 ← (do let x49 ← (mkL (do let r48 ← (do let r35 ← (pure (.lst q23.1)); DL.ask (itD r35)); lcF (fun d => some d) (fun (c37 : D) => pure true) (fun (c37 : D) => (do let r47 ← (do let x45 ← (mkL (do let r44 ← (do let r38 ← (pure c37); DL.ask (itD r38)); lcF (fun d => some d) (fun (c40 : D) => pure true) (fun (c40 : D) => (do let r43 ← (do let x41 ← (pure c40); let r42 ← pure []; pure (x41 :: r42)); Mo.lift (m_host_text_f5b6 r43))) r44)); let r46 ← pure []; pure (x45 :: r46)); DL.ask (tupleD r47))) r48)); let r50 ← pure []; pure (x49 :: r50)); DL.ask (tupleD r51)); (pure (.nx [v30, v34])))))))
theorem e_Groups_init_8f72 (a1 : D) : b_Groups_init_8f72 a1 = (do let v1 ← (DL.ask (szL [])); let v2 ← (DL.ask (szL [])); let r53 ← (DL.ask (itD a1)); seqF (forF (fun d => some d) (fun (q6 : List D × List D) (c7 : D) => (do let w9 ← Mo.noex (Mo.lift (m_checked_group_64d1 [c7, (.lst q6.2)])); let v8 ← (DL.ask (flatD w9)); let v16 ← DL.ask (apd q6.1 v8); let r22 ← DL.ask (listD [v8]); let v17 ← (DL.ask (szL r22)); let v18 ← DL.ask (extI q6.2 [(.lst v17)]); (pure (.nx (v16, v18))))) r53 (v1, v2)) fun (q23 : List D × List D) => (do let x27 ← (DL.ask (lenD [(.lst q23.1)])); let t52 ← (DL.ask ((gtD x27 c_MOST_GROUPS).bind bOf)); seqF (if t52 = true then (Mo.lift R.stuck) else (pure (.nx ()))) fun (q29 : Unit) => (do let v30 ← (DL.ask (tupleD [(.lst q23.1)])); let r48 ← (DL.ask (itD (.lst q23.1))); let x49 ← (lcF (fun d => some d) (fun (c37 : D) => pure true) (fun (c37 : D) => (do let r44 ← (DL.ask (itD c37)); let x45 ← (lcF (fun d => some d) (fun (c40 : D) => pure true) (fun (c40 : D) => (Mo.lift (m_host_text_f5b6 [c40]))) r44); DL.ask (tupleD [(.lst x45)]))) r48); let v34 ← (DL.ask (tupleD [(.lst x49)])); (pure (.nx [v30, v34]))))) := by
  unfold b_Groups_init_8f72; simp only [pure_bind, bind_assoc, mkL]
def m_Groups_init_8f72 : List D → R (List D) := apI1 fun a1 => runI (b_Groups_init_8f72 a1)
end FN
namespace FN
open DL PySem PySem.W
theorem for_fold {α β γ τ ι : Type} {u : D → Option γ} {xb : α → γ → R (Fl α α)} (f : ι → D) (P : ι → Prop) (enc : τ → α) (step : τ → ι → τ)
    (hs : ∀ s i, P i → ∃ c, u (f i) = some c ∧ (xb (enc s) c = .ok (.nx (enc (step s i))) ∨ xb (enc s) c = .ok (.ct (enc (step s i))))) :
    ∀ (is : List ι) (s : τ), (∀ i ∈ is, P i) → (forF u xb (is.map f) (enc s) : R (Fl α β)) = .ok (.nx (enc (is.foldl step s)))
  | [], s, _ => rfl
  | i :: is, s, h => by
    obtain ⟨c, hu, hx⟩ := hs s i (h i (.head _))
    have ih := for_fold (β := β) f P enc step hs is (step s i) fun j m => h j (.tail _ m)
    rw [List.map_cons, forF, hu, List.foldl_cons]
    rcases hx with hx | hx
    · show ((xb (enc s) c) >>= _) = _
      rw [hx]
      exact ih
    · show ((xb (enc s) c) >>= _) = _
      rw [hx]
      exact ih
theorem labs_tup {R : List (List Nat)} (h : Labs R) : nic 3 (.tup (R.map .str)) = true := by
  rw [nic_tup]
  exact nic_strs fun z m c k => (lab_tx (h z m)).2 c k
theorem eqT {A B : List (List Nat)} (hA : Labs A) (hB : Labs B) : eqD (.tup (A.map .str)) (.tup (B.map .str)) = some (.bl (decide (A = B))) := by
  rw [eq_nic (labs_tup hA) (labs_tup hB) (by omega) (by omega)]
  show some (D.bl (deqL (A.map .str) (B.map .str))) = _
  rw [deqL_strs]
theorem labs_drop {A : List (List Nat)} (n : Nat) (h : Labs A) : Labs (A.drop n) := fun z m => h z (List.mem_of_mem_drop m)
theorem labs_take {A : List (List Nat)} (n : Nat) (h : Labs A) : Labs (A.take n) := fun z m => h z (List.mem_of_mem_take m)
theorem labs_app {A B : List (List Nat)} (h : Labs A) (k : Labs B) : Labs (A ++ B) := fun z m => by
  rcases List.mem_append.mp m with m | m
  · exact h z m
  · exact k z m
theorem lenT {A : List (List Nat)} : lenD [.tup (A.map D.str)] = some (.int (A.length : Int)) := by
  show some (D.int ((A.map D.str).length : Int)) = _
  rw [List.length_map]
def endsB (h A : List (List Nat)) : Bool := decide (A.length ≤ h.length) && decide (h.drop (h.length - A.length) = A)
theorem ge_l {i j : Int} : geD (.int i) (.int j) = some (.bl (decide (j ≤ i))) := rfl
theorem gt_l {i j : Int} : gtD (.int i) (.int j) = some (.bl (decide (j < i))) := rfl
theorem cut_back {A : List (List Nat)} {n : Nat} (h : n ≤ A.length) : cutL (A.map D.str) (some ((A.length : Int) - (n : Int))) none = (A.drop (A.length - n)).map D.str := by
  rw [cut_lo (by omega), List.map_drop]
  congr 1
  omega
theorem ends_ok {h A : List (List Nat)} (hh : Labs h) (hA : Labs A) : m_ends_with_d715 [.tup (h.map .str), .tup (A.map .str)] = .ok (.bl (endsB h A)) := by
  unfold m_ends_with_d715 apR2
  simp only [e_ends_with_d715, andV, lenT, askR, pure_bind, ge_l, tru_bl, sub_ii, int_of, slice_t]
  by_cases c : A.length ≤ h.length
  · have c' : ((A.length : Int) ≤ (h.length : Int)) := by omega
    simp only [decide_eq_true c', if_true, cut_back c, eqT (labs_drop _ hh) hA, askR, pure_bind, endsB, decide_eq_true c, Bool.true_and]
    rfl
  · have c' : ¬ ((A.length : Int) ≤ (h.length : Int)) := by omega
    simp only [decide_eq_false c', Bool.false_eq_true, if_false, endsB, decide_eq_false c, Bool.false_and, pure_bind]
    rfl
theorem cut_neg {A : List (List Nat)} {n : Nat} (h : 1 ≤ n) : cutL (A.map D.str) (some (-(n : Int))) none = (A.drop (A.length - n)).map D.str := by
  unfold cutL
  have e1 : HT.sIx (A.map D.str).length (A.map D.str).length none = (A.map D.str).length := rfl
  have e2 : HT.sIx (A.map D.str).length 0 (some (-(n : Int))) = A.length - n := by
    show (if (-(n : Int)) < 0 then (-(n : Int) + ((A.map D.str).length : Int)).toNat else min (-(n : Int)).toNat (A.map D.str).length) = _
    rw [if_pos (by omega), List.length_map]
    omega
  rw [e1, e2, List.take_of_length_le (by rw [List.length_drop]; omega), List.map_drop]
theorem ends_neg {h A : List (List Nat)} : decide (h.drop (h.length - A.length) = A) = endsB h A := by
  unfold endsB
  by_cases c : A.length ≤ h.length
  · rw [decide_eq_true c, Bool.true_and]
  · rw [decide_eq_false c, Bool.false_and]
    exact decide_eq_false fun e => by
      have := congrArg List.length e
      rw [List.length_drop] at this
      omega
inductive Kd | pl | wi | ex
abbrev Row := Kd × List (List Nat)
def kdD : Kd → D
  | .pl => c_PLAIN
  | .wi => c_WILD
  | .ex => c_EXCEPTION
def rowT : Row → List Nat
  | (.pl, A) => joinN [46] A
  | (.wi, A) => 42 :: 46 :: joinN [46] A
  | (.ex, A) => 33 :: joinN [46] A
def RowOk (r : Row) : Prop := Labs r.2 ∧ 1 ≤ r.2.length ∧ r.2.length ≤ 3 ∧ (r.1 = .wi → r.2.length ≤ 2) ∧ (r.1 = .ex → 2 ≤ r.2.length)
def rowD (r : Row) : D := .tup [kdD r.1, .tup (r.2.map .str)]
theorem labs_join {A : List (List Nat)} (h : Labs A) (hl : A.length ≤ 30) : (joinN [46] A).length ≤ 1000 := by
  have : ∀ {I : List (List Nat)}, (∀ z ∈ I, z.length ≤ 20) → (joinN [46] I).length ≤ 21 * I.length := by
    intro I
    induction I with
    | nil => intro _; simp [joinN]
    | cons a I ih =>
      intro hz
      have h1 := hz a (.head _)
      have h2 := ih fun z m => hz z (.tail _ m)
      cases I with
      | nil => simp only [joinN, List.length_cons, List.length_nil]; omega
      | cons b I =>
        simp only [joinN, List.length_append, List.length_cons, List.length_nil] at h2 ⊢
        omega
  have := this fun z m => (isLab_iff.mp (h z m)).2.1
  omega
theorem split_labs {A : List (List Nat)} (h : Labs A) (h0 : 1 ≤ A.length) (hl : A.length ≤ 30) : splitD (.str (joinN [46] A)) (.str [46]) = some (A.map .str) :=
  split_ok (by omega) (by decide) h (fun e => by rw [e] at h0; simp at h0) (by have := labs_join h hl; omega)
theorem no_bad {A : List (List Nat)} (h : Labs A) : (lcF (fun d => some d) (fun (c58 : D) => (DL.notM (do let x62 ← (Mo.lift (m_is_label_344b [c58])); DL.ask (truD x62)))) (fun (c58 : D) => (pure c58)) (A.map .str) : R (List D)) = .ok [] := by
  have := lcR (u := fun d => some d) (xt := fun (c58 : D) => (DL.notM (do let x62 ← (Mo.lift (m_is_label_344b [c58])); DL.ask (truD x62)) : R Bool)) (xe := fun (c58 : D) => (pure c58)) id (fun _ => false) id (A.map .str) (fun d _ => rfl) (fun d m => by
    obtain ⟨z, hz, rfl⟩ := List.mem_map.mp m
    have e : m_is_label_344b [.str z] = .ok (.bl (labD (.str z))) := is_label_ok (T := "str") rfl
    show (DL.notM (do let x62 ← (Mo.lift (m_is_label_344b [.str z])); DL.ask (truD x62)) : R Bool) = _
    rw [lift_pR, e, labD_str, h z hz]
    rfl) (fun d _ q => by cases q)
  exact this.trans (by rw [List.filter_eq_nil_iff.mpr (by simp)]; rfl)
theorem head_lab {A : List (List Nat)} (h : Labs A) (h0 : 1 ≤ A.length) : ∃ c r, joinN [46] A = c :: r ∧ c ∈ CH := by
  cases A with
  | nil => simp at h0
  | cons a A =>
    obtain ⟨h1, _, h3⟩ := isLab_iff.mp (h a (.head _))
    cases a with
    | nil => simp at h1
    | cons c a =>
      cases A with
      | nil => exact ⟨c, a, rfl, h3 c (.head _)⟩
      | cons b A => exact ⟨c, a ++ [46] ++ joinN [46] (b :: A), by simp [joinN], h3 c (.head _)⟩
theorem parsed_ok {r : Row} (h : RowOk r) : m_parsed_row_b892 [.str (rowT r)] = .ok (rowD r) := by
  obtain ⟨k, A⟩ := r
  obtain ⟨hA, h1, h2, h3, h4⟩ := h
  dsimp only at hA h1 h2 h3 h4
  have sp := split_labs hA h1 (by omega)
  have sz4 : ∀ a b c d : D, szL [a, b, c, d] = some [a, b, c, d] := fun _ _ _ _ => sz_ok (by simp)
  have u4 : ∀ a b c d : D, unN 4 (.tup [a, b, c, d]) = some [a, b, c, d] := fun _ _ _ _ => rfl
  have isS : ∀ z, isiD "str" (.str z) = some (.bl true) := fun _ => rfl
  have nb := no_bad hA
  simp only [DL.notM] at nb
  obtain ⟨c, r, ej, hc⟩ := head_lab hA h1
  have c33 : c ≠ 33 := fun e => by rw [e] at hc; revert hc; decide
  have c42 : c ≠ 42 := fun e => by rw [e] at hc; revert hc; decide
  have stm : ∀ (a b : List Nat), strM (fun a b => .bl (PySem.Txt.startswith ⟨a.toArray⟩ ⟨b.toArray⟩)) (.str a) (.str b) = some (.bl (decide (b.length ≤ a.length) && decide (a.take b.length = b))) := fun a b => by rw [← starts_eq]; rfl
  have il : itD (.tup (A.map D.str)) = some (A.map .str) := rfl
  have el : truD (.lst []) = some false := rfl
  unfold m_parsed_row_b892 apR1
  simp only [e_parsed_row_b892, isS, askR, pure_bind, tru_bl, DL.notM, Bool.not_true, Bool.false_eq_true, if_false, sqp, sz4, u4, str_of, stm]
  cases k with
  | pl =>
    have s1 : (decide (([33] : List Nat).length ≤ (rowT (.pl, A)).length) && decide ((rowT (.pl, A)).take ([33] : List Nat).length = [33])) = false := by
      show (_ && decide ((joinN [46] A).take 1 = [33])) = false
      rw [ej]
      simp [c33]
    have s2 : (decide (([42, 46] : List Nat).length ≤ (rowT (.pl, A)).length) && decide ((rowT (.pl, A)).take ([42, 46] : List Nat).length = [42, 46])) = false := by
      show (_ && decide ((joinN [46] A).take 2 = [42, 46])) = false
      rw [ej]
      simp [c42]
    have g0 : List.getD [c_PLAIN, D.str (rowT (.pl, A)), .int 1, c_MOST_LABELS_OF_ROW] 0 D.non = c_PLAIN := rfl
    have g1 : List.getD [c_PLAIN, D.str (rowT (.pl, A)), .int 1, c_MOST_LABELS_OF_ROW] 1 D.non = D.str (joinN [46] A) := rfl
    have g2 : List.getD [c_PLAIN, D.str (rowT (.pl, A)), .int 1, c_MOST_LABELS_OF_ROW] 2 D.non = .int 1 := rfl
    have g3 : List.getD [c_PLAIN, D.str (rowT (.pl, A)), .int 1, c_MOST_LABELS_OF_ROW] 3 D.non = .int 3 := rfl
    have ch : (chainM leD leD (pure (.int 1)) (pure (.int (A.length : Int))) (pure (.int 3)) : R D) = .ok (.bl true) := by
      rw [chain_ii, decide_eq_true (by omega), decide_eq_true (by omega)]; rfl
    simp only [s1, s2, g0, g1, g2, g3, tru_bl, askR, pure_bind, Bool.false_eq_true, if_false, sqp, str_of, sp, tup_lst, lenT, ch, okpR, bOf_bl, DL.orM, Bool.not_true, il, nb, el, sz2]
    rfl
  | wi =>
    have s1 : (decide (([33] : List Nat).length ≤ (rowT (.wi, A)).length) && decide ((rowT (.wi, A)).take ([33] : List Nat).length = [33])) = false := by
      show (_ && decide ((42 :: 46 :: joinN [46] A).take 1 = [33])) = false
      simp
    have s2 : (decide (([42, 46] : List Nat).length ≤ (rowT (.wi, A)).length) && decide ((rowT (.wi, A)).take ([42, 46] : List Nat).length = [42, 46])) = true := by
      show (decide (2 ≤ (42 :: 46 :: joinN [46] A).length) && decide ((42 :: 46 :: joinN [46] A).take 2 = [42, 46])) = true
      simp
    have g2 : List.getD [c_PLAIN, D.str (rowT (.wi, A)), .int 1, c_MOST_LABELS_OF_ROW] 2 D.non = .int 1 := rfl
    have cu : cutL (rowT (.wi, A)) (some 2) none = joinN [46] A := by
      rw [cut_lo (by omega)]; rfl
    have sb : subD c_MOST_LABELS_OF_ROW (.int 1) = some (.int 2) := rfl
    have hh := h3 rfl
    have ch : (chainM leD leD (pure (.int 1)) (pure (.int (A.length : Int))) (pure (.int 2)) : R D) = .ok (.bl true) := by
      rw [chain_ii, decide_eq_true (by omega), decide_eq_true (by omega)]; rfl
    simp only [s1, s2, g2, int_of, slice_s, cu, sb, tru_bl, askR, pure_bind, Bool.false_eq_true, if_false, if_true, sqp, str_of, sp, tup_lst, lenT, ch, okpR, bOf_bl, DL.orM, Bool.not_true, il, nb, el, sz2]
    rfl
  | ex =>
    have s1 : (decide (([33] : List Nat).length ≤ (rowT (.ex, A)).length) && decide ((rowT (.ex, A)).take ([33] : List Nat).length = [33])) = true := by
      show (decide (1 ≤ (33 :: joinN [46] A).length) && decide ((33 :: joinN [46] A).take 1 = [33])) = true
      simp
    have g3 : List.getD [c_PLAIN, D.str (rowT (.ex, A)), .int 1, c_MOST_LABELS_OF_ROW] 3 D.non = .int 3 := rfl
    have cu : cutL (rowT (.ex, A)) (some 1) none = joinN [46] A := by
      rw [cut_lo (by omega)]; rfl
    have hh := h4 rfl
    have ch : (chainM leD leD (pure (.int 2)) (pure (.int (A.length : Int))) (pure (.int 3)) : R D) = .ok (.bl true) := by
      rw [chain_ii, decide_eq_true (by omega), decide_eq_true (by omega)]; rfl
    simp only [s1, g3, int_of, slice_s, cu, tru_bl, askR, pure_bind, Bool.false_eq_true, if_false, if_true, sqp, str_of, sp, tup_lst, lenT, ch, okpR, bOf_bl, DL.orM, Bool.not_true, il, nb, el, sz2]
    rfl
theorem un2_2 {a b : D} : un2 (.tup [a, b]) = some (a, b) := rfl
def stepE (h : List (List Nat)) (q : Nat × Nat) (r : Row) : Nat × Nat := if endsB h r.2 = true then (match r.1 with
  | .ex => (q.1, max q.2 r.2.length)
  | .pl => (max q.1 r.2.length, q.2)
  | .wi => if r.2.length < h.length then (max q.1 (r.2.length + 1), q.2) else q) else q
def foldE (rows : List Row) (h : List (List Nat)) : Nat × Nat := rows.foldl (stepE h) (1, 0)
def encE (q : Nat × Nat) : D × D := (.int (q.1 : Int), .int (q.2 : Int))
theorem max_ii {i j : Nat} : maxD [.int (i : Int), .int (j : Int)] = some (.int ((max i j : Nat) : Int)) := by
  show some (D.int (if (j : Int) > (i : Int) then (j : Int) else (i : Int))) = _
  by_cases c : (j : Int) > (i : Int)
  · rw [if_pos c, Nat.max_eq_right (by omega)]
  · rw [if_neg c, Nat.max_eq_left (by omega)]
theorem min_ii {i j : Nat} : minD [.int (i : Int), .int (j : Int)] = some (.int ((min i j : Nat) : Int)) := by
  show some (D.int (if (j : Int) < (i : Int) then (j : Int) else (i : Int))) = _
  by_cases c : (j : Int) < (i : Int)
  · rw [if_pos c, Nat.min_eq_right (by omega)]
  · rw [if_neg c, Nat.min_eq_left (by omega)]
def sizeE (q : Nat × Nat) : Nat := if 0 < q.2 then q.2 - 1 else q.1
theorem ending_ok {rows : List Row} {h : List (List Nat)} {pd : D} (hp : itD pd = some (rows.map rowD)) (hr : ∀ r ∈ rows, RowOk r) (hh : Labs h) :
    m_ending_size_5148 [pd, .tup (h.map .str)] = .ok (.int ((sizeE (foldE rows h) : Nat) : Int)) := by
  unfold m_ending_size_5148 apR2
  simp only [e_ending_size_5148, sz2, askR, pure_bind, un2_2, hp]
  rw [show ((D.int 1, D.int 0) : D × D) = encE (1, 0) from rfl, for_fold (β := Empty) rowD RowOk encE (stepE h) (fun q r hk => ⟨(kdD r.1, .tup (r.2.map .str)), rfl, ?_⟩) rows (1, 0) hr]
  · show runR false (do let v72 ← (iteM (DL.ask ((gtD (encE (foldE rows h)).2 (.int 0)).bind bOf)) (DL.ask (subD (encE (foldE rows h)).2 (.int 1))) (pure (encE (foldE rows h)).1)); pure (.rt v72)) = _
    generalize foldE rows h = q
    obtain ⟨l, e⟩ := q
    show runR false (do let v72 ← (iteM (DL.ask ((gtD (.int (e : Int)) (.int 0)).bind bOf)) (DL.ask (subD (.int (e : Int)) (.int 1))) (pure (.int (l : Int)))); pure (.rt v72)) = _
    by_cases c : 0 < e
    · have c' : (0 : Int) < (e : Int) := by omega
      have es : ((e : Int) - 1) = ((e - 1 : Nat) : Int) := by omega
      simp only [gt_l, decide_eq_true c', iteM, Option.bind_some, bOf_bl, askR, pure_bind, if_true, sub_ii, es, sizeE, if_pos c]
      rfl
    · have c' : ¬ (0 : Int) < (e : Int) := by omega
      simp only [gt_l, decide_eq_false c', iteM, Option.bind_some, bOf_bl, askR, pure_bind, Bool.false_eq_true, if_false, sizeE, if_neg c]
      rfl
  · obtain ⟨k, A⟩ := r
    obtain ⟨l, e⟩ := q
    have hA : Labs A := hk.1
    simp only [ends_ok hh hA, lift_pR, okpR, pure_bind, tru_bl, askR, DL.notM]
    show _ ∨ _
    cases hb : endsB h A with
    | false =>
      refine .inr ?_
      simp only [Bool.not_false, if_true, stepE, hb, Bool.false_eq_true, if_false]
      rfl
    | true =>
      refine .inl ?_
      simp only [Bool.not_true, Bool.false_eq_true, if_false, sqp, stepE, hb, if_true]
      cases k with
      | ex =>
        have e1 : (eqD (kdD .ex) c_EXCEPTION).bind bOf = some true := rfl
        simp only [e1, askR, pure_bind, if_true, lenT, encE, max_ii]
        rfl
      | pl =>
        have e1 : (eqD (kdD .pl) c_EXCEPTION).bind bOf = some false := rfl
        have e2 : (eqD (kdD .pl) c_PLAIN).bind bOf = some true := rfl
        simp only [e1, e2, askR, pure_bind, if_true, Bool.false_eq_true, if_false, lenT, encE, max_ii]
        rfl
      | wi =>
        have e1 : (eqD (kdD .wi) c_EXCEPTION).bind bOf = some false := rfl
        have e2 : (eqD (kdD .wi) c_PLAIN).bind bOf = some false := rfl
        simp only [e1, e2, askR, pure_bind, Bool.false_eq_true, if_false, lenT, encE, gt_l, Option.bind_some, bOf_bl]
        by_cases c : A.length < h.length
        · have c' : (A.length : Int) < (h.length : Int) := by omega
          have ea : ((A.length : Int) + 1) = ((A.length + 1 : Nat) : Int) := by omega
          simp only [decide_eq_true c', if_true, add_ii, ea, max_ii, askR, pure_bind, if_pos c]
          rfl
        · have c' : ¬ (A.length : Int) < (h.length : Int) := by omega
          simp only [decide_eq_false c', Bool.false_eq_true, if_false, if_neg c]
          rfl
def siteN (rows : List Row) (h : List (List Nat)) : List (List Nat) := h.drop (h.length - (sizeE (foldE rows h) + 1))
theorem site_by_ok {rows : List Row} {h : List (List Nat)} {pd : D} (hp : itD pd = some (rows.map rowD)) (hr : ∀ r ∈ rows, RowOk r) (hh : Labs h) : m_site_by_dd2e [pd, .tup (h.map .str)] = .ok (.tup ((siteN rows h).map .str)) := by
  have en := ending_ok hp hr hh
  have ea : ((sizeE (foldE rows h) : Nat) : Int) + 1 = ((sizeE (foldE rows h) + 1 : Nat) : Int) := by omega
  have cd := cut_back (A := h) (n := min h.length (sizeE (foldE rows h) + 1)) (by omega)
  have e2 : h.length - min h.length (sizeE (foldE rows h) + 1) = h.length - (sizeE (foldE rows h) + 1) := by omega
  rw [e2] at cd
  unfold m_site_by_dd2e apR2
  simp only [e_site_by_dd2e, lenT, askR, pure_bind, en, lift_pR, okpR, add_ii, ea, min_ii, sub_ii, int_of, slice_t, cd]
  rfl
theorem site_of_ok {rows : List Row} {h : List (List Nat)} {pd : D} (hp : itD pd = some (rows.map fun r => .str (rowT r))) (hr : ∀ r ∈ rows, RowOk r) (hh : Labs h) : m_site_of_0513 [pd, .tup (h.map .str)] = .ok (.tup ((siteN rows h).map .str)) := by
  have hw : (lcF (fun d => some d) (fun (c3 : D) => pure true) (fun (c3 : D) => (Mo.lift (m_parsed_row_b892 [c3]))) (rows.map fun r => .str (rowT r)) : R (List D)) = .ok (rows.map rowD) := by
    clear hp
    induction rows with
    | nil => rfl
    | cons r rows ih =>
      have e := parsed_ok (hr r (.head _))
      have ih' := ih fun x m => hr x (.tail _ m)
      rw [List.map_cons, lcF]
      show ((Mo.noex (Mo.lift (m_parsed_row_b892 [.str (rowT r)]) : R D)) >>= fun y => (lcF (fun d => some d) (fun (c3 : D) => pure true) (fun (c3 : D) => (Mo.lift (m_parsed_row_b892 [c3]))) (rows.map fun r => .str (rowT r)) : R (List D)) >>= fun r => pure (y :: r)) = _
      rw [lift_pR, e, ih']
      rfl
  unfold m_site_of_0513 apR2
  simp only [e_site_of_0513, hp, askR, pure_bind]
  rw [hw]
  simp only [okpR, pure_bind, site_by_ok (pd := .lst (rows.map rowD)) rfl hr hh, lift_pR]
  rfl
end FN
namespace FN
open DL PySem PySem.W
abbrev Hst := List (List Nat)
def hD (h : Hst) : D := .tup (h.map .str)
def grD (g : List Hst) : D := .tup (g.map hD)
def MemOk (m : Hst) : Prop := Labs m ∧ 1 ≤ m.length ∧ m.length ≤ 3
def GrOk (g : List Hst) : Prop := (∀ m ∈ g, MemOk m) ∧ 2 ≤ g.length ∧ g.length ≤ 4
abbrev Best := Option (Hst × Hst)
def bestLen : Best → Nat
  | none => 0
  | some q => q.1.length
def stepM (h g0 : Hst) (q : Best) (m : Hst) : Best := if endsB h m = true ∧ bestLen q < m.length then some (m, g0) else q
def stepG (h : Hst) (q : Best) (g : List Hst) : Best := g.foldl (stepM h (g.headD [])) q
def bestN (kin : List (List Hst)) (h : Hst) : Best := kin.foldl (stepG h) none
def movedN (kin : List (List Hst)) (h : Hst) : Hst := match bestN kin h with
  | none => h
  | some q => h.take (h.length - q.1.length) ++ q.2
def encB : Best → D
  | none => .non
  | some q => .tup [hD q.1, hD q.2]
def encL : Best → D × D
  | none => (.tup [], .tup [])
  | some q => (hD q.1, hD q.2)
def BestOk (h : Hst) (q : Best) : Prop := ∀ x, q = some x → x.1.length ≤ h.length ∧ MemOk x.2
theorem lenH {h : Hst} : lenD [hD h] = some (.int (h.length : Int)) := lenT
theorem grp_head {g : List Hst} (k : GrOk g) : ∃ g0 gs, g = g0 :: gs ∧ ixD (grD g) (.int 0) = some (hD g0) ∧ g.headD [] = g0 ∧ MemOk g0 := by
  cases g with
  | nil => have := k.2.1; simp at this
  | cons g0 gs => exact ⟨g0, gs, rfl, by
    show ((L2.ixN ((g0 :: gs).map hD).length 0).bind fun j => ((g0 :: gs).map hD)[j]?) = _
    rw [ixN_ok (by omega) (by simp)]
    rfl, rfl, k.1 g0 (.head _)⟩
theorem best_ok {kin : List (List Hst)} {h : Hst} (hk : ∀ g ∈ kin, GrOk g) : BestOk h (bestN kin h) := by
  have one : ∀ (g0 : Hst) (ms : List Hst) (q : Best), MemOk g0 → BestOk h q → BestOk h (ms.foldl (stepM h g0) q) := by
    intro g0 ms
    induction ms with
    | nil => intro q _ hq; exact hq
    | cons m ms ih =>
      intro q h0 hq
      refine ih _ h0 ?_
      unfold stepM
      by_cases c : endsB h m = true ∧ bestLen q < m.length
      · rw [if_pos c]
        intro x e
        cases e
        have := c.1
        unfold endsB at this
        simp only [Bool.and_eq_true, decide_eq_true_eq] at this
        exact ⟨this.1, h0⟩
      · rw [if_neg c]; exact hq
  have all : ∀ (ks : List (List Hst)) (q : Best), (∀ g ∈ ks, GrOk g) → BestOk h q → BestOk h (ks.foldl (stepG h) q) := by
    intro ks
    induction ks with
    | nil => intro q _ hq; exact hq
    | cons g ks ih =>
      intro q hg hq
      refine ih _ (fun x m => hg x (.tail _ m)) ?_
      obtain ⟨g0, gs, e, _, e2, h0⟩ := grp_head (hg g (.head _))
      unfold stepG
      rw [e2]
      exact one g0 g q h0 hq
  exact all kin none hk fun x e => by cases e
theorem member_ok {kin : List (List Hst)} {h : Hst} {gd : D} (hg : itD gd = some (kin.map grD)) (hk : ∀ g ∈ kin, GrOk g) (hh : Labs h) : m_member_and_head_c6a4 [gd, hD h] = .ok (encB (bestN kin h)) := by
  unfold m_member_and_head_c6a4 apR2
  simp only [e_member_and_head_c6a4, hg, askR, pure_bind]
  rw [show D.non = encB none from rfl, for_fold (β := Empty) grD GrOk encB (stepG h) (fun q g kg => ⟨grD g, rfl, .inl ?_⟩) kin none hk]
  · rfl
  · obtain ⟨g0, gs, e, ix, e2, h0⟩ := grp_head kg
    have it : itD (grD g) = some (g.map hD) := rfl
    simp only [it, askR, pure_bind]
    rw [for_fold (β := D) hD MemOk encB (stepM h g0) (fun q m km => ⟨hD m, rfl, .inl ?_⟩) g q kg.1]
    · show R.ok (Fl.nx (encB (g.foldl (stepM h g0) q))) = _
      unfold stepG
      rw [e2]
    · have en : m_ends_with_d715 [hD h, hD m] = .ok (.bl (endsB h m)) := ends_ok hh km.1
      have l1 := km.2.1
      simp only [en, lift_pR, okpR, pure_bind, tru_bl, askR, DL.andM, DL.orM]
      unfold stepM
      cases hb : endsB h m with
      | false =>
        simp only [Bool.false_eq_true, if_false, false_and]
        rfl
      | true =>
        cases q with
        | none =>
          have isn : (isD (encB none) .non).bind bOf = some true := rfl
          have lt : bestLen none < m.length := l1
          simp only [if_true, isn, askR, pure_bind, ix, sz2, lt, and_self]
          rfl
        | some x =>
          have isn : (isD (encB (some x)) .non).bind bOf = some false := rfl
          have i0 : ixD (encB (some x)) (.int 0) = some (hD x.1) := rfl
          simp only [if_true, isn, askR, pure_bind, Bool.false_eq_true, if_false, i0, lenH, gt_l, Option.bind_some, bOf_bl, bestLen, true_and]
          by_cases c : x.1.length < m.length
          · have c' : (x.1.length : Int) < (m.length : Int) := by omega
            simp only [decide_eq_true c', if_true, ix, sz2, askR, pure_bind, if_pos c]
            rfl
          · have c' : ¬ (x.1.length : Int) < (m.length : Int) := by omega
            simp only [decide_eq_false c', Bool.false_eq_true, if_false, if_neg c]
            rfl
theorem cut_take {A : Hst} {n : Nat} (h : n ≤ A.length) : cutL (A.map D.str) none (some ((A.length : Int) - (n : Int))) = (A.take (A.length - n)).map D.str := by
  rw [show ((A.length : Int) - (n : Int)) = ((A.length - n : Nat) : Int) by omega, cut_toD, List.map_take]
theorem moved_ok {kin : List (List Hst)} {h : Hst} {gd : D} (hg : itD gd = some (kin.map grD)) (hk : ∀ g ∈ kin, GrOk g) (hh : Labs h) (hl : h.length ≤ 1000) : m_moved_8ac7 [gd, hD h] = .ok (hD (movedN kin h)) := by
  have mo := member_ok hg hk hh
  have bo := best_ok (h := h) hk
  unfold m_moved_8ac7 apR2 movedN
  simp only [e_moved_8ac7, mo, lift_pR, okpR, pure_bind]
  cases hb : bestN kin h with
  | none => rfl
  | some x =>
    obtain ⟨b1, b2⟩ := bo x hb
    have isn : (isD (encB (some x)) .non).bind bOf = some false := rfl
    have u2 : un2 (encB (some x)) = some (hD x.1, hD x.2) := rfl
    have sl : sliceD (hD h) none (some ((h.length : Int) - (x.1.length : Int))) = some (hD (h.take (h.length - x.1.length))) := by
      show sliceD (.tup (h.map .str)) _ _ = _
      rw [slice_t, cut_take b1]; rfl
    have ad : addD (hD (h.take (h.length - x.1.length))) (hD x.2) = some (hD (h.take (h.length - x.1.length) ++ x.2)) := by
      show addD (.tup (_ : List D)) (.tup (_ : List D)) = _
      rw [add_tt (by have := b2.2.2; simp; omega), ← List.map_append]; rfl
    simp only [isn, askR, pure_bind, Bool.false_eq_true, if_false, sqp, u2, lenH, sub_ii, int_of, sl, ad]
    rfl
theorem moved_facts {kin : List (List Hst)} {h : Hst} (hk : ∀ g ∈ kin, GrOk g) (hh : Labs h) (h1 : 1 ≤ h.length) : Labs (movedN kin h) ∧ (movedN kin h).length ≤ h.length + 3 ∧ 1 ≤ (movedN kin h).length := by
  have bo := best_ok (h := h) hk
  unfold movedN
  cases hb : bestN kin h with
  | none => exact ⟨hh, by simp, h1⟩
  | some x =>
    obtain ⟨b1, b2, b3, b4⟩ := bo x hb
    refine ⟨labs_app (labs_take _ hh) b2, ?_, ?_⟩
    · show (h.take (h.length - x.1.length) ++ x.2).length ≤ _
      rw [List.length_append, List.length_take]; omega
    · show 1 ≤ (h.take (h.length - x.1.length) ++ x.2).length
      rw [List.length_append, List.length_take]; omega
theorem for_unit {γ β : Type} {u : D → Option γ} {xb : Unit → γ → R (Fl Unit Unit)} : ∀ (ds : List D), (∀ d ∈ ds, ∃ c, u d = some c ∧ xb () c = .ok (.nx ())) → (forF u xb ds () : R (Fl Unit β)) = .ok (.nx ())
  | [], _ => rfl
  | d :: ds, h => by
    obtain ⟨c, hu, hx⟩ := h d (.head _)
    have ih := for_unit (β := β) ds fun x m => h x (.tail _ m)
    rw [forF, hu]
    show ((xb () c) >>= _) = _
    rw [hx]
    exact ih
theorem nodup_before {α : Type} {T : List α} {i : Nat} {z : α} (hn : T.Nodup) (h : T[i]? = some z) : z ∉ T.take i := fun m => by
  rw [← List.take_append_drop i T] at hn
  have h2 : z ∈ T.drop i := List.mem_of_getElem? (i := 0) (by rw [List.getElem?_drop]; exact h)
  exact (List.nodup_append.mp hn).2.2 z m z h2 rfl
theorem row_tx {r : Row} (h : RowOk r) : Tx 1000 (rowT r) := by
  obtain ⟨k, A⟩ := r
  obtain ⟨hA, h1, h2, _, _⟩ := h
  dsimp only at hA h1 h2
  have jl : (joinN [46] A).length ≤ 100 := by
    have := (join_row2 (S := [46]) (row_of (by omega) hA) (by simp)).2
    have h3 : ∀ {I : List (List Nat)}, (∀ z ∈ I, z.length ≤ 20) → (joinN [46] I).length ≤ 21 * I.length := by
      intro I
      induction I with
      | nil => intro _; simp [joinN]
      | cons a I ih =>
        intro hz
        have h1 := hz a (.head _)
        have h2 := ih fun z m => hz z (.tail _ m)
        cases I with
        | nil => simp only [joinN, List.length_cons, List.length_nil]; omega
        | cons b I =>
          simp only [joinN, List.length_append, List.length_cons, List.length_nil] at h2 ⊢
          omega
    have := h3 fun z m => (isLab_iff.mp (hA z m)).2.1
    omega
  have jc : ∀ c ∈ joinN [46] A, c < 1114112 := join_tx (row_of (by omega) hA) (by omega)
  cases k with
  | pl => exact ⟨by show (joinN [46] A).length ≤ _; omega, jc⟩
  | wi => exact ⟨by show (42 :: 46 :: joinN [46] A).length ≤ _; simp only [List.length_cons]; omega, fun c m => by
      rcases List.mem_cons.mp (show c ∈ 42 :: 46 :: joinN [46] A from m) with rfl | m
      · omega
      · rcases List.mem_cons.mp m with rfl | m
        · omega
        · exact jc c m⟩
  | ex => exact ⟨by show (33 :: joinN [46] A).length ≤ _; simp only [List.length_cons]; omega, fun c m => by
      rcases List.mem_cons.mp (show c ∈ 33 :: joinN [46] A from m) with rfl | m
      · omega
      · exact jc c m⟩
def rowsD (rows : List Row) : List D := rows.map fun r => .str (rowT r)
def TabOk (rows : List Row) : Prop := (∀ r ∈ rows, RowOk r) ∧ (rows.map rowT).Nodup ∧ rows.length ≤ 8
theorem star0 {α : Type} {g : List D → R α} {ds : List D} (h : ds.length ≤ 1000000) : starD 0 g ds = g [.tup ds] := if_pos ⟨Nat.zero_le _, h⟩
theorem host_of_ok {A : Hst} (h : MemOk A) : m_host_of_5eec [.str (joinN [46] A)] = .ok (hD A) := by
  have sp := split_labs h.1 h.2.1 (by have := h.2.2; omega)
  have isS : ∀ z, isiD "str" (.str z) = some (.bl true) := fun _ => rfl
  have ih : m_is_host_45ba [.tup (A.map .str)] = .ok (.bl true) := by
    rw [is_host_row, row_of (by have := h.2.2; omega) h.1]
    cases A with
    | nil => have := h.2.1; simp at this
    | cons _ _ => rfl
  unfold m_host_of_5eec apR1
  simp only [e_host_of_5eec, isS, tru_bl, askR, pure_bind, DL.orM, DL.notM, Bool.not_true, Bool.false_eq_true, if_false, str_of, sp, tup_lst, ih, lift_pR, okpR, sqp]
  rfl
theorem host_text_ok {A : Hst} (h : MemOk A) : m_host_text_f5b6 [hD A] = .ok (.str (joinN [46] A)) := by
  have hr := row_of (A := A) (by have := h.2.2; omega) h.1
  have ih : m_is_host_45ba [hD A] = .ok (.bl true) := by
    show m_is_host_45ba [.tup (A.map .str)] = _
    rw [is_host_row, hr]
    cases A with
    | nil => have := h.2.1; simp at this
    | cons _ _ => rfl
  have j := (join_row2 (S := [46]) hr (by simp)).1
  have j' : joinD (.str [46]) (hD A) = some (.str (joinN [46] A)) := j
  unfold m_host_text_f5b6 apR1
  simp only [e_host_text_f5b6, ih, lift_pR, okpR, pure_bind, tru_bl, askR, DL.notM, Bool.not_true, Bool.false_eq_true, if_false, sqp, str_of, j']
  rfl
theorem in_hosts {m : Hst} {T : List Hst} (hm : Labs m) (hT : ∀ t ∈ T, Labs t) : (inD (hD m) (.lst (T.map hD))).bind bOf = some (decide (m ∈ T)) := by
  unfold inD
  rw [in_nic (n := 3) (m := 3) (show nic 3 (hD m) = true from labs_tup hm) (nicL_iff.mpr fun d k => by
    obtain ⟨t, ht, rfl⟩ := List.mem_map.mp k
    exact labs_tup (hT t ht)) (by omega) (by omega)]
  show some _ = some _
  congr 1
  induction T with
  | nil => rfl
  | cons t T ih =>
    have ih' := ih fun x k => hT x (.tail _ k)
    rw [List.map_cons, List.any_cons, ih']
    have : deq (hD t) (hD m) = decide (t = m) := by
      show deqL (t.map .str) (m.map .str) = _
      rw [deqL_strs]
    rw [this]
    by_cases c : t = m
    · subst c; simp
    · have c' : ¬ m = t := fun e => c e.symm
      simp [c, c']
theorem for_app {β ι : Type} {xb : List D → D → R (Fl (List D) (List D))} (f e : ι → D) (P : ι → Prop) (hs : ∀ (acc : List D) i, P i → acc.length < 1000 → xb acc (f i) = .ok (.nx (acc ++ [e i]))) :
    ∀ (is : List ι) (acc : List D), (∀ i ∈ is, P i) → acc.length + is.length ≤ 1000 → (forF (fun d => some d) xb (is.map f) acc : R (Fl (List D) β)) = .ok (.nx (acc ++ is.map e))
  | [], acc, _, _ => by rw [List.map_nil, List.map_nil, List.append_nil]; rfl
  | i :: is, acc, h, hl => by
    rw [List.length_cons] at hl
    have ih := for_app (β := β) f e P hs is (acc ++ [e i]) (fun j m => h j (.tail _ m)) (by rw [List.length_append, List.length_singleton]; omega)
    rw [List.map_cons, forF]
    show ((xb acc (f i)) >>= _) = _
    rw [hs acc i (h i (.head _)) (by omega)]
    show forF (fun d => some d) xb (is.map f) (acc ++ [e i]) = _
    rw [ih, List.append_assoc]
    rfl
theorem enum_hosts : ∀ (T : List Hst) (k : Nat) {d : D}, d ∈ ((T.map hD).mapIdx fun i d => D.tup [.int ((i + k : Nat) : Int), d]) → ∃ (i : Nat) (z : Hst), T[i]? = some z ∧ d = .tup [.int ((k + i : Nat) : Int), hD z]
  | [], _, d, h => by cases h
  | a :: T, k, d, h => by
    rw [List.map_cons, List.mapIdx_cons] at h
    rcases List.mem_cons.mp h with rfl | h
    · exact ⟨0, a, rfl, by rw [Nat.zero_add, Nat.add_zero]⟩
    · have e : (fun i d => D.tup [.int ((i + 1 + k : Nat) : Int), d]) = fun (i : Nat) (d : D) => D.tup [.int ((i + (k + 1) : Nat) : Int), d] := by
        funext i d
        rw [show i + 1 + k = i + (k + 1) by omega]
      rw [e] at h
      obtain ⟨i, z, e1, rfl⟩ := enum_hosts T (k + 1) h
      exact ⟨i + 1, z, e1, by rw [show k + 1 + i = k + (i + 1) by omega]⟩
def txD (h : Hst) : D := .str (joinN [46] h)
theorem checked_ok {g T : List Hst} (hg : GrOk g) (hT : ∀ t ∈ T, Labs t) (hn : (T ++ g).Nodup) : m_checked_group_64d1 [.lst (g.map txD), .lst (T.map hD)] = .ok (grD g) := by
  obtain ⟨gm, g2, g4⟩ := hg
  have is2 : isi2D "list" "tuple" (.lst (g.map txD)) = some (.bl true) := rfl
  have ll : lenD [.lst (g.map txD)] = some (.int (g.length : Int)) := by
    show some (D.int ((g.map txD).length : Int)) = _
    rw [List.length_map]
  have ch : (chainM leD leD (pure c_LEAST_OF_GROUP) (pure (.int (g.length : Int))) (pure c_MOST_OF_GROUP) : R D) = .ok (.bl true) := by
    show (chainM leD leD (pure (.int 2)) (pure (.int (g.length : Int))) (pure (.int 4)) : R D) = _
    rw [chain_ii, decide_eq_true (by omega), decide_eq_true (by omega)]; rfl
  have s0 : szL [] = some [] := sz_ok (by simp)
  have it : itD (.lst (g.map txD)) = some (g.map txD) := rfl
  have en : enumOf [.lst (g.map hD)] = some ((g.map hD).mapIdx fun i d => D.tup [.int ((i + 0 : Nat) : Int), d]) := rfl
  have tp : tupleD [.lst (g.map hD)] = some (grD g) := rfl
  unfold m_checked_group_64d1 apR2
  simp only [e_checked_group_64d1, is2, tru_bl, askR, pure_bind, DL.orM, DL.notM, Bool.not_true, Bool.false_eq_true, if_false, ll, ch, okpR, bOf_bl, sqp, s0, it]
  rw [for_app (β := Empty) txD hD MemOk (fun acc m km hl => ?_) g [] gm (by simp; omega), seqR_nx, List.nil_append]
  · simp only [en, askR, pure_bind]
    rw [for_unit (β := Empty) _ (fun d m => ?_), seqR_nx]
    · simp only [tp, askR, pure_bind]
      rfl
    · obtain ⟨i, z, hz, rfl⟩ := enum_hosts g 0 m
      refine ⟨(.int ((0 + i : Nat) : Int), hD z), rfl, ?_⟩
      rw [Nat.zero_add]
      have zm := List.mem_of_getElem? hz
      have n1 : z ∉ T := fun k => (List.nodup_append.mp hn).2.2 z k z zm rfl
      have n2 : z ∉ g.take i := nodup_before (List.nodup_append.mp hn).2.1 hz
      have h1 : (inD (hD z) (.lst (T.map hD))).bind bOf = some false := by rw [in_hosts (gm z zm).1 hT, decide_eq_false n1]
      have sl : sliceD (.lst (g.map hD)) none (some (i : Int)) = some (.lst ((g.take i).map hD)) := by
        show some (D.lst (cutL (g.map hD) none (some (i : Int)))) = _
        rw [cut_toD, List.map_take]
      have h2 : (inD (hD z) (.lst ((g.take i).map hD))).bind bOf = some false := by rw [in_hosts (gm z zm).1 (fun t k => (gm t (List.mem_of_mem_take k)).1), decide_eq_false n2]
      simp only [h1, askR, pure_bind, Bool.false_eq_true, if_false, int_of, sl, h2]
      rfl
  · have ho := host_of_ok km
    have ho' : m_host_of_5eec [txD m] = .ok (hD m) := ho
    have g3 : (gtD (.int (m.length : Int)) c_MOST_LABELS_OF_MEMBER).bind bOf = some false := by
      show (gtD (.int (m.length : Int)) (.int 3)).bind bOf = _
      rw [gt_l]
      show some (decide _) = _
      rw [decide_eq_false (by have := km.2.2; omega)]
    simp only [ho', lift_pR, okpR, pure_bind, lenH, g3, askR, Bool.false_eq_true, if_false, sqp, apd_ok (show acc.length < 1000000 by omega)]
def KinOk (kin : List (List Hst)) : Prop := (∀ g ∈ kin, GrOk g) ∧ kin.flatten.Nodup ∧ kin.length ≤ 4
def grT (g : List Hst) : D := .tup (g.map txD)
theorem imm_grD (g : List Hst) : flatD (grD g) = some (grD g) := by
  have h2 : ∀ h : Hst, immL (h.map D.str) = true := fun h => by
    induction h with
    | nil => rfl
    | cons a h ih => simpa [immL, imm] using ih
  have : immL (g.map hD) = true := by
    induction g with
    | nil => rfl
    | cons a g ih =>
      show (imm (hD a) && immL (g.map hD)) = true
      rw [ih, Bool.and_true]
      exact h2 a
  exact if_pos this
theorem texts_of {g : List Hst} (hg : ∀ m ∈ g, MemOk m) : (lcF (fun d => some d) (fun (c40 : D) => pure true) (fun (c40 : D) => (Mo.lift (m_host_text_f5b6 [c40]))) (g.map hD) : R (List D)) = .ok (g.map txD) := by
  induction g with
  | nil => rfl
  | cons m g ih =>
    have e := host_text_ok (hg m (.head _))
    have ih' := ih fun x k => hg x (.tail _ k)
    show ((Mo.noex (Mo.lift (m_host_text_f5b6 [hD m]) : R D)) >>= fun y => (lcF (fun d => some d) (fun (c40 : D) => pure true) (fun (c40 : D) => (Mo.lift (m_host_text_f5b6 [c40]))) (g.map hD) : R (List D)) >>= fun r => pure (y :: r)) = _
    rw [lift_pR, e, ih']
    rfl
theorem groups_init {kin : List (List Hst)} (h : KinOk kin) : m_Groups_init_8f72 [.tup (kin.map fun g => .lst (g.map txD))] = .ok [.tup (kin.map grD), .tup (kin.map grT)] := by
  obtain ⟨hg, hn, hl⟩ := h
  have s0 : szL [] = some [] := sz_ok (by simp)
  have it : itD (.tup (kin.map fun g => D.lst (g.map txD))) = some (kin.map fun g => .lst (g.map txD)) := rfl
  have loop : ∀ (ks done : List (List Hst)), (∀ g ∈ done ++ ks, GrOk g) → (done ++ ks).flatten.Nodup → (done ++ ks).length ≤ 4 → (forF (fun d => some d) (fun (q6 : List D × List D) (c7 : D) => (do let w9 ← Mo.noex (Mo.lift (m_checked_group_64d1 [c7, (.lst q6.2)])); let v8 ← (DL.ask (flatD w9)); let v16 ← DL.ask (apd q6.1 v8); let r22 ← DL.ask (listD [v8]); let v17 ← (DL.ask (szL r22)); let v18 ← DL.ask (extI q6.2 [(.lst v17)]); (pure (.nx (v16, v18))) : R (Fl (List D × List D) (List D × List D)))) (ks.map fun g => D.lst (g.map txD)) (done.map grD, done.flatten.map hD) : R (Fl (List D × List D) Empty)) = .ok (.nx ((done ++ ks).map grD, (done ++ ks).flatten.map hD)) := by
    intro ks
    induction ks with
    | nil => intro done _ _ _; rw [List.append_nil]; rfl
    | cons g ks ih =>
      intro done h1 h2 h3
      have gg := h1 g (List.mem_append_right _ (.head _))
      have e1 : done ++ g :: ks = (done ++ [g]) ++ ks := by simp
      have ih' := ih (done ++ [g]) (by rw [← e1]; exact h1) (by rw [← e1]; exact h2) (by rw [← e1]; exact h3)
      have hd : ∀ t ∈ done.flatten, Labs t := fun t m => by
        obtain ⟨x, hx, hm⟩ := List.mem_flatten.mp m
        exact ((h1 x (List.mem_append_left _ hx)).1 t hm).1
      have nd : (done.flatten ++ g).Nodup := by
        rw [e1, List.flatten_append, List.flatten_append] at h2
        have := (List.nodup_append.mp h2).1
        simpa using this
      have ck := checked_ok gg hd nd
      have fl : done.flatten.length ≤ 16 := by
        have : ∀ (xs : List (List Hst)), (∀ g ∈ xs, GrOk g) → xs.flatten.length ≤ 4 * xs.length := by
          intro xs
          induction xs with
          | nil => intro _; simp
          | cons x xs ihx =>
            intro hx
            have a := (hx x (.head _)).2.2
            have b := ihx fun y m => hx y (.tail _ m)
            rw [List.flatten_cons, List.length_append, List.length_cons]
            omega
        have := this done fun x m => h1 x (List.mem_append_left _ m)
        rw [List.length_append] at h3
        omega
      have dl : done.length ≤ 4 := by rw [List.length_append] at h3; omega
      have li : listD [grD g] = some (g.map hD) := rfl
      have g4 := gg.2.2
      have ex : extI (done.flatten.map hD) [.lst (g.map hD)] = some (done.flatten.map hD ++ g.map hD) := if_pos (by rw [List.length_map, List.length_map, sizeLine_eq]; omega)
      rw [List.map_cons, forF]
      show ((do let w9 ← Mo.noex (Mo.lift (m_checked_group_64d1 [.lst (g.map txD), .lst (done.flatten.map hD)])); let v8 ← (DL.ask (flatD w9)); let v16 ← DL.ask (apd (done.map grD) v8); let r22 ← DL.ask (listD [v8]); let v17 ← (DL.ask (szL r22)); let v18 ← DL.ask (extI (done.flatten.map hD) [(.lst v17)]); (pure (.nx (v16, v18))) : R (Fl (List D × List D) (List D × List D))) >>= _) = _
      rw [lift_pR, ck]
      have nx : (Mo.noex (R.ok (grD g)) : R D) = pure (grD g) := rfl
      simp only [nx, pure_bind, imm_grD, askR, apd_ok (show (done.map grD).length < 1000000 by rw [List.length_map]; omega), li, sz_ok (show (g.map hD).length ≤ 1000000 by rw [List.length_map]; omega), ex]
      rw [e1, ← ih']
      show forF _ _ _ _ = forF _ _ _ _
      congr 1
      simp
  have lp := loop kin [] (by simpa using hg) (by simpa using hn) (by simpa using hl)
  have ll : lenD [.lst (kin.map grD)] = some (.int (kin.length : Int)) := by
    show some (D.int ((kin.map grD).length : Int)) = _
    rw [List.length_map]
  have g4 : (gtD (.int (kin.length : Int)) c_MOST_GROUPS).bind bOf = some false := by
    show (gtD (.int (kin.length : Int)) (.int 4)).bind bOf = _
    rw [gt_l]
    show some (decide _) = _
    rw [decide_eq_false (by omega)]
  have il : itD (.lst (kin.map grD)) = some (kin.map grD) := rfl
  have tx : (lcF (fun d => some d) (fun (c37 : D) => pure true) (fun (c37 : D) => (do let r44 ← (DL.ask (itD c37)); let x45 ← (lcF (fun d => some d) (fun (c40 : D) => pure true) (fun (c40 : D) => (Mo.lift (m_host_text_f5b6 [c40]))) r44); DL.ask (tupleD [(.lst x45)]))) (kin.map grD) : R (List D)) = .ok (kin.map grT) := by
    clear lp loop hl hn it ll g4 il
    induction kin with
    | nil => rfl
    | cons g kin ih =>
      have e := texts_of (hg g (.head _)).1
      have ih' := ih fun x m => hg x (.tail _ m)
      have ig : itD (grD g) = some (g.map hD) := rfl
      rw [List.map_cons, lcF]
      show ((Mo.noex (do let r44 ← (DL.ask (itD (grD g))); let x45 ← (lcF (fun d => some d) (fun (c40 : D) => pure true) (fun (c40 : D) => (Mo.lift (m_host_text_f5b6 [c40]))) r44); DL.ask (tupleD [(.lst x45)]) : R D)) >>= fun y => (lcF (fun d => some d) (fun (c37 : D) => pure true) (fun (c37 : D) => (do let r44 ← (DL.ask (itD c37)); let x45 ← (lcF (fun d => some d) (fun (c40 : D) => pure true) (fun (c40 : D) => (Mo.lift (m_host_text_f5b6 [c40]))) r44); DL.ask (tupleD [(.lst x45)]))) (kin.map grD) : R (List D)) >>= fun r => pure (y :: r)) = _
      rw [ih']
      simp only [ig, askR, pure_bind, e, okpR, tup_lst]
      rfl
  unfold m_Groups_init_8f72 apI1
  simp only [e_Groups_init_8f72, s0, it, askR, pure_bind]
  have lp' := lp
  simp only [List.map_nil, List.flatten_nil, List.nil_append] at lp'
  rw [lp']
  have tl1 : tupleD [.lst (kin.map grD)] = some (.tup (kin.map grD)) := rfl
  simp only [seqR_nx, ll, g4, il, tl1, askR, pure_bind, Bool.false_eq_true, if_false, sqp]
  rw [tx]
  simp only [okpR, pure_bind, tup_lst, askR]
  rfl
def gpsD (kin : List (List Hst)) : D := .ins "Groups" ["hosts", "groups"] [.tup (kin.map grD), .tup (kin.map grT)]
end FN
namespace FN
open DL PySem PySem.W
theorem door40 {s w nm t pj sch : List Nat} {pd near host path : D} {i : Int} (hw : Wd w) (ht : Dr t pd) (hsch : sch = kHttp ∨ sch = kHttps) : m_door_fits_6b32 [.ins "Rule" RNs (ruF s w nm t pj pd near host path), .str sch, .int i] = .ok (.bl (fitB w sch i pd)) := by
  have f1 : fldD ["Page", "Rule"] "scheme" (.ins "Rule" RNs (ruF s w nm t pj pd near host path)) = some (.str w) := rfl
  have f2 : fldD ["Rule"] "ports" (.ins "Rule" RNs (ruF s w nm t pj pd near host path)) = some pd := rfl
  have hin := (in_any hw hsch).1
  unfold m_door_fits_6b32 apR3
  simp only [e_door_fits_6b32, f1, f2, askR, pure_bind, sz2, hin]
  unfold fitB
  cases hb : decide (w ∈ [[97, 110, 121], sch]) with
  | false => rfl
  | true =>
    simp only [Bool.not_true, Bool.false_eq_true, if_false, Bool.true_and]
    rcases ht with ⟨rfl, rfl⟩ | ⟨u, lo, hi, rfl, rfl, h1, h2, h3, _⟩
    · have isn : isD .non .non = some (.bl true) := rfl
      simp only [isn, Option.bind_some, bOf_bl, askR, pure_bind, if_true, def_port2 hsch, lift_pR, okpR, eq_i]
      rfl
    · have isn : isD (iPd lo hi) .non = some (.bl false) := rfl
      have x0 : ixD (iPd lo hi) (.int 0) = some (.int lo) := rfl
      have x1 : ixD (iPd lo hi) (.int 1) = some (.int hi) := rfl
      simp only [isn, Option.bind_some, bOf_bl, askR, pure_bind, Bool.false_eq_true, if_false, sqp, x0, x1, chain_ii, okpR]
      rfl
theorem labs_sh {A : Hst} (h : Labs A) : Sh A := fun z m => by have := (lab_tx (h z m)).1; omega
theorem path40 {J path : D} {x : List Nat} (k : PjD J x path) {B : Hst} (hB : Labs B) (hl : B.length ≤ 1000) : ∃ b, insOk ["HostPattern", "PathPattern"] "shape" path = some () ∧ (∃ sh, dispM [("HostPattern", m_Pattern_shape_d275), ("PathPattern", m_Pattern_shape_d275)] path [] = .ok sh ∧ m_row_fits_a0db [sh, hD B] = .ok (.bl b)) ∧ m__law_row_fits_3c3f [J, .lst (B.map .str)] = .ok (.bl b) := by
  cases k with
  | @mk J h t g p hl2 =>
    obtain ⟨a1, a2, a3, a4⟩ := pat_len p hl2
    exact ⟨rowN h t g B, rfl, ⟨_, rfl, row_fits43 a3 a4 (labs_sh hB) (by omega) (by omega) hl⟩, law_row43 p (labs_sh hB) (by omega) hl⟩
theorem near_fits {s w nm t pj : List Nat} {pd path : D} {N A : Hst} {rows : List Row} {td : D} (ht : itD td = some (rows.map fun r => .str (rowT r))) (hr : ∀ r ∈ rows, RowOk r) (hN : Labs N) (hA : Labs A) : m_host_fits_56fd [.ins "Rule" RNs (ruF s w nm t pj pd (hD N) .non path), td, hD A] = .ok (.bl (decide (siteN rows A = siteN rows N))) := by
  have g5 : fldD ["Page", "Rule"] "host" (.ins "Rule" RNs (ruF s w nm t pj pd (hD N) .non path)) = some .non := rfl
  have g6 : fldD ["Rule"] "near" (.ins "Rule" RNs (ruF s w nm t pj pd (hD N) .non path)) = some (hD N) := rfl
  have isn : isD .non .non = some (.bl true) := rfl
  have s1 : m_site_of_0513 [td, hD A] = .ok (.tup ((siteN rows A).map .str)) := site_of_ok ht hr hA
  have s2 : m_site_of_0513 [td, hD N] = .ok (.tup ((siteN rows N).map .str)) := site_of_ok ht hr hN
  have eq := eqT (A := siteN rows A) (B := siteN rows N) (labs_drop _ hA) (labs_drop _ hN)
  unfold m_host_fits_56fd apR3
  simp only [e_host_fits_56fd, g5, g6, askR, pure_bind, isn, Option.bind_some, bOf_bl, if_true, s1, s2, lift_pR, okpR, eq]
  rfl
theorem pat_fits {s w nm t pj : List Nat} {pd path td : D} {I h t2 : List (List Nat)} {g : Bool} (p : PatI 1 4 3 2 I.reverse h t2 g) (hl : I.length ≤ 10) {A : Hst} (hA : Labs A) (lA : A.length ≤ 1000) : m_host_fits_56fd [.ins "Rule" RNs (ruF s w nm t pj pd .non (.ins "HostPattern" PNs (ptF (joinN [46] I) c_HOST h t2 g)) path), td, hD A] = .ok (.bl (rowN h t2 g A.reverse)) := by
  have g5 : fldD ["Page", "Rule"] "host" (.ins "Rule" RNs (ruF s w nm t pj pd .non (.ins "HostPattern" PNs (ptF (joinN [46] I) c_HOST h t2 g)) path)) = some (.ins "HostPattern" PNs (ptF (joinN [46] I) c_HOST h t2 g)) := rfl
  obtain ⟨a1, a2, a3, a4⟩ := pat_len p (by rw [List.length_reverse]; exact hl)
  have isn : isD (.ins "HostPattern" PNs (ptF (joinN [46] I) c_HOST h t2 g)) .non = some (.bl false) := rfl
  have o2 : insOk ["HostPattern", "PathPattern"] "shape" (.ins "HostPattern" PNs (ptF (joinN [46] I) c_HOST h t2 g)) = some () := rfl
  have d2 : dispM [("HostPattern", m_Pattern_shape_d275), ("PathPattern", m_Pattern_shape_d275)] (.ins "HostPattern" PNs (ptF (joinN [46] I) c_HOST h t2 g)) [] = .ok (.tup [.tup (h.map .str), .tup (t2.map .str), .bl g]) := rfl
  have shA := labs_sh hA
  have rf := row_fits43 (g := g) a3 a4 (R := A.reverse) (fun z m => shA z (List.mem_reverse.mp m)) (by omega) (by omega) (by rw [List.length_reverse]; exact lA)
  have rv : revD (hD A) = some (.tup (A.reverse.map .str)) := by
    show some (D.tup (A.map D.str).reverse) = _
    rw [List.map_reverse]
  unfold m_host_fits_56fd apR3
  simp only [e_host_fits_56fd, g5, askR, pure_bind, isn, Option.bind_some, bOf_bl, Bool.false_eq_true, if_false, sqp, o2, d2, lift_pR, okpR, rv, rf]
  rfl
theorem rule_fits_ok {s w nm t pj sch : List Nat} {pd near host path td : D} {A A0 B : Hst} {i : Int} {b c : Bool} (hw : Wd w) (ht : Dr t pd) (hg : Pg sch A0 i B) (o1 : insOk ["HostPattern", "PathPattern"] "shape" path = some ()) {sh : D} (d1 : dispM [("HostPattern", m_Pattern_shape_d275), ("PathPattern", m_Pattern_shape_d275)] path [] = .ok sh) (f1 : m_row_fits_a0db [sh, hD B] = .ok (.bl b)) (h1 : m_host_fits_56fd [.ins "Rule" RNs (ruF s w nm t pj pd near host path), td, hD A] = .ok (.bl c)) :
    m_rule_fits_7439 [.ins "Rule" RNs (ruF s w nm t pj pd near host path), td, hD A, pgD sch A0 i B] = .ok (.bl (fitB w sch i pd && (b && c))) := by
  have g1 : fldD ["Page", "Rule"] "scheme" (pgD sch A0 i B) = some (.str sch) := rfl
  have g2 : fldD ["Page"] "port" (pgD sch A0 i B) = some (.int i) := rfl
  have g3 : fldD ["Page", "Rule"] "path" (pgD sch A0 i B) = some (hD B) := rfl
  have g4 : fldD ["Page", "Rule"] "path" (.ins "Rule" RNs (ruF s w nm t pj pd near host path)) = some path := rfl
  have door := door40 (s := s) (nm := nm) (pj := pj) (near := near) (host := host) (path := path) (i := i) hw ht hg.sw
  unfold m_rule_fits_7439 apR4
  simp only [e_rule_fits_7439, g1, g2, g3, g4, askR, pure_bind, door, lift_pR, okpR, tru_bl, DL.notM, DL.orM, o1, d1, f1, h1]
  cases fitB w sch i pd <;> cases b <;> rfl
end FN
namespace DL
open PySem PySem.Spec PyProof.Rows L2 StX
def bagY3 : M D := fun s => if s.w = true then .ok (.int s.y) s else .stuck
def bagZ : M D := fun s => if s.w = true then .ok (.int s.z) s else .stuck
def bagHd : M D := fun s => match s.w, s.l with
  | true, i :: _ => .ok (.int i) s
  | _, _ => .stuck
def bagNe : M Bool := fun s => if s.w = true ∧ s.l.length ≤ 1000 then .ok (!s.l.isEmpty) s else .stuck
def bagSetZ (i : Int) : M Unit := fun s => if s.w = true then .ok () { s with z := i } else .stuck
def bagSetHd (i : Int) : M Unit := fun s => match s.w, s.l with
  | true, _ :: r => .ok () { s with l := i :: r }
  | _, _ => .stuck
def bagPop : M Unit := fun s => match s.w, s.l with
  | true, _ :: r => .ok () { s with l := r }
  | _, _ => .stuck
def bagDrop : M Unit := fun s => if s.w = true ∧ s.l.length ≤ 1000 then .ok () { s with l := s.l.dropWhile fun i => i == 0 } else .stuck
theorem ixN0 (n : Nat) : ixN (n + 1) 0 = some 0 := by unfold ixN; simp
theorem atI0 (t : Int) (l : List Int) : atI (List.map V.int (t :: l)) 0 = some (V.int t) := by
  unfold atI
  rw [List.length_map, List.length_cons, ixN0]
  rfl
theorem bag_two {bag : List Addr} {H : Hp} {s : S} {b : Addr} {r : List Addr} (h : BagAt bag H s) (hw : s.w = true) (e : bag = b :: r) : ∃ c r', bag = b :: c :: r' ∧ b ≠ c ∧ H b = some (.lst [.ref c, .int s.y, .int s.z]) ∧ H c = some (.lst (s.l.map V.int)) := by
  subst e
  cases r with
  | nil => exact absurd h.1 (by rw [hw]; simp)
  | cons c r => exact ⟨c, r, rfl, h.2.1, h.2.2.1, h.2.2.2⟩
section
variable {X : Cx} {fx : Fx} {G : List Sl} {α β : Type} {kk : Nat} {e : Expr} {rest : List Stmt} {ex : α → List Sl} {exb : β → List Sl} {pos pos2 p2 p3 np apos : Pos} {n : Str} {j j3 : Nat} [DL.TC]
theorem de_bagY3 (i : Nat) (hG : G[i]? = some .bg := by rfl) (hN : X.N[i]? = some n := by rfl) (hv : Vis X.env.scope n := by first | exact Or.inl rfl | exact Or.inr (Or.inl rfl) | exact Or.inr (Or.inr rfl)) (hd : (n == ("__debug__" : Str)) = false := by decide) (hcd : (n == ("__classdict__" : Str)) = false := by decide)
    (hs : PlainIx (.Constant (.int 1) j p2) := by exact fun _ _ => rfl) : PE X (.Subscript (.Name n np) (.Constant (.int 1) j p2) pos) (tE X.K X.mg fx G bagY3) :=
  peI (pe_ix ix_list (pe_var hN hv hd hcd) pe_int hs) fun σ H Q ⟨Hf, s, h⟩ => by
    obtain ⟨b, r, eb, ev⟩ := h.1.sl i _ hG
    have w : (bagY3 s).wp _ _ := h.2
    unfold bagY3 at w
    by_cases hw : s.w = true
    · rw [if_pos hw] at w
      obtain ⟨c, r', e1, ne, hb, hc⟩ := bag_two h.1.bag hw eb
      exact ⟨.ref b, ev, b, _, 1, .int s.y, rfl, rfl, .inl (.inl hb), rfl, w _ Hf H (.refl h.1.top) h.1.bag (is_int _)⟩
    · rw [if_neg hw] at w
      exact w.elim
theorem de_bagZ (i : Nat) (hG : G[i]? = some .bg := by rfl) (hN : X.N[i]? = some n := by rfl) (hv : Vis X.env.scope n := by first | exact Or.inl rfl | exact Or.inr (Or.inl rfl) | exact Or.inr (Or.inr rfl)) (hd : (n == ("__debug__" : Str)) = false := by decide) (hcd : (n == ("__classdict__" : Str)) = false := by decide)
    (hs : PlainIx (.Constant (.int 2) j p2) := by exact fun _ _ => rfl) : PE X (.Subscript (.Name n np) (.Constant (.int 2) j p2) pos) (tE X.K X.mg fx G bagZ) :=
  peI (pe_ix ix_list (pe_var hN hv hd hcd) pe_int hs) fun σ H Q ⟨Hf, s, h⟩ => by
    obtain ⟨b, r, eb, ev⟩ := h.1.sl i _ hG
    have w : (bagZ s).wp _ _ := h.2
    unfold bagZ at w
    by_cases hw : s.w = true
    · rw [if_pos hw] at w
      obtain ⟨c, r', e1, ne, hb, hc⟩ := bag_two h.1.bag hw eb
      exact ⟨.ref b, ev, b, _, 2, .int s.z, rfl, rfl, .inl (.inl hb), rfl, w _ Hf H (.refl h.1.top) h.1.bag (is_int _)⟩
    · rw [if_neg hw] at w
      exact w.elim
theorem de_bagHd (i : Nat) (hG : G[i]? = some .bg := by rfl) (hN : X.N[i]? = some n := by rfl) (hv : Vis X.env.scope n := by first | exact Or.inl rfl | exact Or.inr (Or.inl rfl) | exact Or.inr (Or.inr rfl)) (hd : (n == ("__debug__" : Str)) = false := by decide) (hcd : (n == ("__classdict__" : Str)) = false := by decide)
    (hs : PlainIx (.Constant (.int 0) j p2) := by exact fun _ _ => rfl) (hs3 : PlainIx (.Constant (.int 0) j3 p3) := by exact fun _ _ => rfl) : PE X (.Subscript (.Subscript (.Name n np) (.Constant (.int 0) j p2) pos2) (.Constant (.int 0) j3 p3) pos) (tE X.K X.mg fx G bagHd) :=
  peI (pe_ix ix_list (pe_ix ix_list (pe_var hN hv hd hcd) pe_int hs) pe_int hs3) fun σ H Q ⟨Hf, s, h⟩ => by
    obtain ⟨b, r, eb, ev⟩ := h.1.sl i _ hG
    have w : (bagHd s).wp _ _ := h.2
    unfold bagHd at w
    split at w
    · rename_i t l hw hl
      obtain ⟨c, r', e1, ne, hb, hc⟩ := bag_two h.1.bag hw eb
      rw [hl] at hc
      exact ⟨.ref b, ev, b, _, 0, .ref c, rfl, rfl, .inl (.inl hb), rfl, c, _, 0, .int t, rfl, rfl, .inl (.inl hc), atI0 t l, w _ Hf H (.refl h.1.top) h.1.bag (is_int _)⟩
    · exact w.elim
theorem ints_py : ∀ l : List Int, toPyL (l.map D.int) = some (l.map PyData.int) ∧ PyData.canLayAll0 (l.map PyData.int) = true ∧ PyData.depthAll (l.map PyData.int) ≤ 1
  | [] => ⟨rfl, by simp [PyData.canLayAll0], by simp [PyData.depthAll]⟩
  | i :: l => by
    obtain ⟨a, b, c⟩ := ints_py l
    refine ⟨?_, ?_, ?_⟩
    · rw [List.map_cons, List.map_cons, toPyL, a]
      simp [toPy]
    · simp only [List.map_cons, PyData.canLayAll0, PyData.canLay0, b, Bool.and_self]
    · have z : (PyData.int i).depth = 0 := rfl
      simp only [List.map_cons, PyData.depthAll]
      omega
theorem ne_ints (l : List Int) : neD (.lst (l.map .int)) (.lst []) = some (.bl (!l.isEmpty)) := by
  obtain ⟨a, b, c⟩ := ints_py l
  have s1 : SeqAt.shaped (.list (l.map PyData.int)) = true := by
    unfold SeqAt.shaped
    refine Bool.and_eq_true_iff.mpr ⟨by simpa only [PyData.canLay0] using b, decide_eq_true ?_⟩
    simp only [PyData.depth]
    omega
  have s2 : SeqAt.shaped (.list []) = true := by
    unfold SeqAt.shaped
    simp [PyData.canLay0, PyData.canLayAll0, PyData.depth, PyData.depthAll]
  have t1 : toPy (.lst (l.map .int)) = some (.list (l.map PyData.int)) := by rw [toPy, a]; rfl
  have t2 : toPy (.lst []) = some (.list []) := rfl
  have e : eqP (.lst (l.map .int)) (.lst []) = match toPy (.lst (l.map .int)), toPy (.lst []) with
    | some x, some y => if SeqAt.shaped x && SeqAt.shaped y then some (PyData.eqv x y) else none
    | _, _ => none := rfl
  unfold neD
  rw [e, t1, t2]
  simp only [s1, s2, Bool.and_self, if_true, Option.map_some]
  cases l <;> simp [PyData.eqv, PyData.eqvAll]
theorem is_ints {K : PySem.W.Frag} {mg : Str → Option Value} {H : Hp} : ∀ l : List Int, IsL K mg H (l.map .int) (l.map V.int)
  | [] => rfl
  | i :: l => ⟨_, _, rfl, is_int i, is_ints l⟩
theorem dt_bagNe (C : Cok X fx kk) (i : Nat) (hG : G[i]? = some .bg := by rfl) (hN : X.N[i]? = some n := by rfl) (hv : Vis X.env.scope n := by first | exact Or.inl rfl | exact Or.inr (Or.inl rfl) | exact Or.inr (Or.inr rfl)) (hd : (n == ("__debug__" : Str)) = false := by decide) (hcd : (n == ("__classdict__" : Str)) = false := by decide)
    (hs : PlainIx (.Constant (.int 0) j p2) := by exact fun _ _ => rfl) : PT X (.Compare (.Subscript (.Name n np) (.Constant (.int 0) j p2) pos2) [.NotEq] [.List [] p3] pos) (tT X.K X.mg fx G bagNe) :=
  ptI (pt_cmpR (od_ne C.rm.units) (pe_ix ix_list (pe_var hN hv hd hcd) pe_int hs) (pe_lst pa_nil) (by rfl)) fun σ H Q ⟨Hf, s, h⟩ => by
    obtain ⟨b, r, eb, ev⟩ := h.1.sl i _ hG
    have w : (bagNe s).wp _ _ := h.2
    unfold bagNe at w
    by_cases hw : s.w = true ∧ s.l.length ≤ 1000
    · rw [if_pos hw] at w
      obtain ⟨c, r', e1, ne, hb, hc⟩ := bag_two h.1.bag hw.1 eb
      refine ⟨.ref b, ev, b, _, 0, .ref c, rfl, rfl, .inl (.inl hb), rfl, (by show 0 ≤ sizeLine; exact Nat.zero_le _), fun p hp => ?_⟩
      have hcp : c ≠ p := fun z => by rw [z, hp] at hc; cases hc
      have sn : Ste ([] : List Addr) Hf H Hf (upd H p (.lst [])) := Ste.new' h.1.top hp
      have hfc : Hf c = none := (h.1.bagf c (by rw [e1]; simp)).1
      have sf : Sub Hf (upd (upd Hf c (.lst (s.l.map V.int))) p (.lst [])) := fun a o q => by
        rw [upd_ne (ne_of_none q (h.1.top.none hp)), upd_ne (ne_of_none q hfc)]; exact q
      have sH : Sub (upd (upd Hf c (.lst (s.l.map V.int))) p (.lst [])) (upd H p (.lst [])) := fun a o q => by
        by_cases z : a = p
        · rw [z, upd_same] at q ⊢; exact q
        · rw [upd_ne z] at q ⊢
          by_cases y : a = c
          · rw [y, upd_same] at q; rw [y]; cases q; exact hc
          · rw [upd_ne y] at q; exact h.1.top a o q
      have tH : TbF (upd (upd Hf c (.lst (s.l.map V.int))) p (.lst [])) (upd H p (.lst [])) := ((h.1.tb.frz hc nofun).new hp).frz upd_same nofun
      refine ⟨upd (upd Hf c (.lst (s.l.map V.int))) p (.lst []), .lst (s.l.map .int), .lst [], _, ⟨sH, tH⟩, ⟨by rw [List.length_map, sizeLine_eq]; omega, c, s.l.map V.int, rfl, (upd_ne hcp).trans upd_same, is_ints s.l⟩, ⟨Nat.zero_le _, p, [], rfl, upd_same, rfl⟩, ne_ints s.l, fun u Hf' H' st iu => ?_⟩
      refine ⟨!s.l.isEmpty, iu, ?_⟩
      have st2 : Ste ([] : List Addr) Hf H Hf H' := ⟨.refl _, fun a o q => st.top a o (st.sub a o (sf a o q)), fun a o q hn k => st.keep a o (sn.keep a o q hn k) (by simp) k, fun a q => st.dom a (sn.dom a q), fun a o q => .inl q, fun t => st.tab (sn.tab t)⟩
      exact w _ Hf H' st2.wide (st2.bag h.1.bag) rfl
    · rw [if_neg hw] at w
      exact w.elim
theorem dss_bagSetZ {x : M D} {k : M (Fl α β)} (i : Nat) (he : PE X e (tE X.K X.mg fx G x)) (hr : PSs X rest (tS X.K X.mg fx G ex exb k)) (hG : G[i]? = some .bg := by rfl) (hN : X.N[i]? = some n := by rfl) (hv : Vis X.env.scope n := by first | exact Or.inl rfl | exact Or.inr (Or.inl rfl) | exact Or.inr (Or.inr rfl)) (hd : (n == ("__debug__" : Str)) = false := by decide) (hcd : (n == ("__classdict__" : Str)) = false := by decide)
    (ha : ∀ v, assign (.Subscript (.Name n np) (.Constant (.int 2) j p2) apos) X.env v = (do
      let ov ← holding [v] (eval (.Name n np) X.env)
      let iv ← holding [v, ov] (eval (.Constant (.int 2) j p2) X.env)
      standAt apos
      holding [v, ov, iv] (setItem ov iv v)
      release [v, ov, iv] []) := by intro _; rfl)
    (hs : swapsWithSole [.Subscript (.Name n np) (.Constant (.int 2) j p2) apos] e pos.line X.env = pure false := by rfl) (hw : swappedStores [.Subscript (.Name n np) (.Constant (.int 2) j p2) apos] e X.env = pure none := by rfl)
    (h1 : (assignEach [.Subscript (.Name n np) (.Constant (.int 2) j p2) apos] X.env).map (·.2) = [assign (.Subscript (.Name n np) (.Constant (.int 2) j p2) apos) X.env] := by rfl) (hg : GxOk fx G := by first | exact True.intro | repeat' (first | exact True.intro | exact Or.inl rfl | exact Or.inr rfl | refine And.intro ?_ ?_)) :
    PSs X (.Assign [.Subscript (.Name n np) (.Constant (.int 2) j p2) apos] e pos :: rest) (tS X.K X.mg fx G ex exb (do let d ← x; let i ← ask (intOf d); bagSetZ i; k)) :=
  pssI (pss_cons (ps_asg he (pg_sub (pe_var hN hv hd hcd) pe_int set_list ha) hs hw h1) hr) fun De σ H ⟨Hf, s, h⟩ =>
    ((h.bind hg).mono fun v H1 ⟨d, Hf1, s1, sb, r, h1⟩ => by
      obtain ⟨b, rr, eb, ev⟩ := h1.1.sl i _ hG
      have w := Mo.wp_lift (Mo.wp_bind h1.2)
      cases d with
      | int t =>
        cases r
        have w2 : (bagSetZ t s1).wp _ _ := Mo.wp_bind w
        unfold bagSetZ at w2
        by_cases hw : s1.w = true
        · rw [if_pos hw] at w2
          obtain ⟨c, r', e1, ne, hb, hc⟩ := bag_two h1.1.bag hw eb
          refine ⟨.ref b, ev, b, _, 2, 2, rfl, rfl, hb, rfl, Hf1, _, h1.1.bagUpd (s' := { s1 with z := t }) (by rw [e1]; simp) (.lst hb) ?_, w2⟩
          rw [e1]
          exact ⟨hw, ne, upd_same, (upd_ne (Ne.symm ne)).trans hc⟩
        · rw [if_neg hw] at w2
          exact w2.elim
      | _ => exact w.elim).to
theorem dss_bagSetHd {x : M D} {k : M (Fl α β)} (i : Nat) (he : PE X e (tE X.K X.mg fx G x)) (hr : PSs X rest (tS X.K X.mg fx G ex exb k)) (hG : G[i]? = some .bg := by rfl) (hN : X.N[i]? = some n := by rfl) (hv : Vis X.env.scope n := by first | exact Or.inl rfl | exact Or.inr (Or.inl rfl) | exact Or.inr (Or.inr rfl)) (hd : (n == ("__debug__" : Str)) = false := by decide) (hcd : (n == ("__classdict__" : Str)) = false := by decide)
    (hs2 : PlainIx (.Constant (.int 0) j p2) := by exact fun _ _ => rfl)
    (ha : ∀ v, assign (.Subscript (.Subscript (.Name n np) (.Constant (.int 0) j p2) pos2) (.Constant (.int 0) j3 p3) apos) X.env v = (do
      let ov ← holding [v] (eval (.Subscript (.Name n np) (.Constant (.int 0) j p2) pos2) X.env)
      let iv ← holding [v, ov] (eval (.Constant (.int 0) j3 p3) X.env)
      standAt apos
      holding [v, ov, iv] (setItem ov iv v)
      release [v, ov, iv] []) := by intro _; rfl)
    (hs : swapsWithSole [.Subscript (.Subscript (.Name n np) (.Constant (.int 0) j p2) pos2) (.Constant (.int 0) j3 p3) apos] e pos.line X.env = pure false := by rfl) (hw : swappedStores [.Subscript (.Subscript (.Name n np) (.Constant (.int 0) j p2) pos2) (.Constant (.int 0) j3 p3) apos] e X.env = pure none := by rfl)
    (h1 : (assignEach [.Subscript (.Subscript (.Name n np) (.Constant (.int 0) j p2) pos2) (.Constant (.int 0) j3 p3) apos] X.env).map (·.2) = [assign (.Subscript (.Subscript (.Name n np) (.Constant (.int 0) j p2) pos2) (.Constant (.int 0) j3 p3) apos) X.env] := by rfl) (hg : GxOk fx G := by first | exact True.intro | repeat' (first | exact True.intro | exact Or.inl rfl | exact Or.inr rfl | refine And.intro ?_ ?_)) :
    PSs X (.Assign [.Subscript (.Subscript (.Name n np) (.Constant (.int 0) j p2) pos2) (.Constant (.int 0) j3 p3) apos] e pos :: rest) (tS X.K X.mg fx G ex exb (do let d ← x; let i ← ask (intOf d); bagSetHd i; k)) :=
  pssI (pss_cons (ps_asg he (pg_sub (pe_ix ix_list (pe_var hN hv hd hcd) pe_int hs2) pe_int set_list ha) hs hw h1) hr) fun De σ H ⟨Hf, s, h⟩ =>
    ((h.bind hg).mono fun v H1 ⟨d, Hf1, s1, sb, r, h1⟩ => by
      obtain ⟨b, rr, eb, ev⟩ := h1.1.sl i _ hG
      have w := Mo.wp_lift (Mo.wp_bind h1.2)
      cases d with
      | int t =>
        cases r
        have w2 : (bagSetHd t s1).wp _ _ := Mo.wp_bind w
        unfold bagSetHd at w2
        split at w2
        · rename_i u l hw hl
          obtain ⟨c, r', e1, ne, hb, hc⟩ := bag_two h1.1.bag hw eb
          rw [hl] at hc
          refine ⟨.ref b, ev, b, _, 0, .ref c, rfl, rfl, .inl (.inl hb), rfl, c, _, 0, 0, rfl, rfl, hc, (by rw [List.length_map, List.length_cons, ixN0]), Hf1, _, h1.1.bagUpd (s' := { s1 with l := t :: l }) (by rw [e1]; simp) (.lst hc) ?_, w2⟩
          rw [e1]
          exact ⟨hw, ne, (upd_ne ne).trans hb, upd_same⟩
        · exact w2.elim
      | _ => exact w.elim).to
theorem dss_bagPop {k : M (Fl α β)} {cpos : Pos} (i : Nat) (hr : PSs X rest (tS X.K X.mg fx G ex exb k)) (hG : G[i]? = some .bg := by rfl) (hN : X.N[i]? = some n := by rfl) (hv : Vis X.env.scope n := by first | exact Or.inl rfl | exact Or.inr (Or.inl rfl) | exact Or.inr (Or.inr rfl)) (hd : (n == ("__debug__" : Str)) = false := by decide) (hcd : (n == ("__classdict__" : Str)) = false := by decide)
    (hs : PlainIx (.Constant (.int 0) j p2) := by exact fun _ _ => rfl)
    (hst : starEach [(.Constant (.int 0) j3 p3 : Expr)] X.env = [(false, eval (.Constant (.int 0) j3 p3) X.env)] := by rfl) (hbase : attributeBase (.Subscript (.Name n np) (.Constant (.int 0) j p2) pos2) "pop" X.env (eval (.Subscript (.Name n np) (.Constant (.int 0) j p2) pos2) X.env) = eval (.Subscript (.Name n np) (.Constant (.int 0) j p2) pos2) X.env := by rfl)
    (hfew : ((backTo cpos (starEach [(.Constant (.int 0) j3 p3 : Expr)] X.env)).all (fun x => !x.1) && (backToKw cpos (keywordEach [] X.env)).all (fun x => x.1.isSome) && decide ([(.Constant (.int 0) j3 p3 : Expr)].length + ([] : List Keyword).length + (if ([] : List Keyword).isEmpty then 0 else 1) < 30)) = true := by rfl)
    (hline : (apos.endLine == cpos.line) = true := by rfl) (hplain : (backTo cpos (starEach [] X.env)).any (·.1) = false := by rfl)
    (hsw : swapsWith (.Call (.Attribute (.Subscript (.Name n np) (.Constant (.int 0) j p2) pos2) "pop" apos) [.Constant (.int 0) j3 p3] [] cpos) none pos.line X.env = pure false := by rfl) :
    PSs X (.Expr (.Call (.Attribute (.Subscript (.Name n np) (.Constant (.int 0) j p2) pos2) "pop" apos) [.Constant (.int 0) j3 p3] [] cpos) pos :: rest) (tS X.K X.mg fx G ex exb (do bagPop; k)) :=
  pssI (pss_cons (ps_expr (pe_bm PySem.F.plainAttrs_list PySem.F.slot_list_pop PySem.F.type_list_pop mt_popAt (pe_ix ix_list (pe_var hN hv hd hcd) pe_int hs) (pa_cons pe_int pa_nil hst) hbase hfew hline hst hplain) hsw) hr) fun De σ H ⟨Hf, s, h⟩ => by
    obtain ⟨b, r, eb, ev⟩ := h.1.sl i _ hG
    have w : (bagPop s).wp _ _ := Mo.wp_bind h.2
    unfold bagPop at w
    split at w
    · rename_i t l hw hl
      obtain ⟨c, r', e1, ne, hb, hc⟩ := bag_two h.1.bag hw eb
      rw [hl] at hc
      refine ⟨.ref b, ev, b, _, 0, .ref c, rfl, rfl, .inl (.inl hb), rfl, .inl ⟨rfl, _, .inl (.inl hc)⟩, ?_⟩
      refine ⟨c, _, 0, 0, .int t, rfl, rfl, hc, by decide, by decide, by simp [seqIndex?], rfl, Hf, _, h.1.bagUpd (s' := { s with l := l }) (by rw [e1]; simp) (.lst hc) ?_, w⟩
      rw [e1]
      exact ⟨hw, ne, (upd_ne ne).trans hb, upd_same⟩
    · exact w.elim
theorem dss_bagWhile {k : M (Fl α β)} {c : Expr} {body : List Stmt} (C : Cok X fx kk) (hc : PT X c (tT X.K X.mg fx G (DL.andM bagNe (do let x ← bagHd; let y ← pure (.int 0); DL.ask ((eqD x y).bind bOf)))))
    (hb : PSs X body (tS X.K X.mg fx G (fun (_ : Unit) => G) (fun (_ : Unit) => G) (do bagPop; pure (.nx ())))) (hr : PSs X rest (tS X.K X.mg fx G ex exb k)) (hst : X.stack = X.env :: X.outer := by rfl) :
    PSs X (.While c body [] pos :: rest) (tS X.K X.mg fx G ex exb (do bagDrop; k)) :=
  pssI (pss_cons (ps_while (C.hp hst) hc hb) hr) fun De σ H ⟨Hf, s, h⟩ => by
    have w : (bagDrop s).wp _ _ := Mo.wp_bind h.2
    unfold bagDrop at w
    by_cases hw : s.w = true ∧ s.l.length ≤ 1000
    · rw [if_pos hw] at w
      have w' : Mo.wp k { s with l := s.l.dropWhile fun i => i == 0 } (FP X.K X.mg fx Hf ex exb De) (EXS X.K X.mg fx) := w
      refine ⟨fun m σ' H' => ∃ Hf' l, Sub Hf Hf' ∧ StS X.K X.mg fx Hf' H' σ' G { s with l := l } ∧ l.length = m ∧ l.length ≤ 1000 ∧ (l.dropWhile fun i => i == 0) = s.l.dropWhile fun i => i == 0, ⟨s.l.length, Hf, s.l, .refl _, h.1, rfl, hw.2, rfl⟩, ?_⟩
      rintro m σ' H' ⟨Hf', l, sb, st, hl, h1000, he⟩
      -- the loop ends
      have fin : ∀ Hf2 H2, Ste fx.bag Hf' H' Hf2 H2 → BagAt fx.bag H2 { s with l := l } → (l.dropWhile fun i => i == 0) = l → tS X.K X.mg fx G ex exb k De σ' H2 := fun Hf2 H2 e2 bg2 hd2 => by
        rw [← he, hd2] at w'
        exact ⟨Hf2, _, st.step e2 bg2, Mo.wp_mono w' (fun f s2 h2 => h2.up (sb.trans e2.sub)) fun e s' k => k⟩
      refine ⟨Hf', { s with l := l }, st, ?_⟩
      cases l with
      | nil =>
        have ev : (DL.andM bagNe (do let x ← bagHd; DL.ask ((eqD x (.int 0)).bind bOf)) : M Bool) { s with l := [] } = .ok false { s with l := [] } := by
          unfold DL.andM
          rw [M.bind_ap]
          have : bagNe { s with l := [] } = .ok false { s with l := [] } := by unfold bagNe; rw [if_pos ⟨hw.1, by simp⟩]; rfl
          rw [this]
          rfl
        show ((DL.andM bagNe (do let x ← bagHd; DL.ask ((eqD x (.int 0)).bind bOf)) : M Bool) { s with l := [] }).wp _ _
        rw [ev]
        intro b Hf2 H2 e2 bg2 hb2
        subst hb2
        exact fin Hf2 H2 e2 bg2 rfl
      | cons a r =>
        have ev : (DL.andM bagNe (do let x ← bagHd; DL.ask ((eqD x (.int 0)).bind bOf)) : M Bool) { s with l := a :: r } = .ok (decide (a = 0)) { s with l := a :: r } := by
          unfold DL.andM
          rw [M.bind_ap]
          have e1 : bagNe { s with l := a :: r } = .ok true { s with l := a :: r } := by unfold bagNe; rw [if_pos ⟨hw.1, h1000⟩]; rfl
          rw [e1]
          show (((do let x ← bagHd; DL.ask ((eqD x (.int 0)).bind bOf)) : M Bool) { s with l := a :: r }) = _
          rw [M.bind_ap]
          have e2 : bagHd { s with l := a :: r } = .ok (.int a) { s with l := a :: r } := by
            unfold bagHd
            simp only [hw.1]
          rw [e2]
          rfl
        show ((DL.andM bagNe (do let x ← bagHd; DL.ask ((eqD x (.int 0)).bind bOf)) : M Bool) { s with l := a :: r }).wp _ _
        rw [ev]
        intro b Hf2 H2 e2 bg2 hb2
        by_cases c : a = 0
        · rw [decide_eq_true c] at hb2
          subst hb2
          rw [if_pos rfl]
          refine ⟨fun σ'' H'' => ∃ Hf'', Sub Hf Hf'' ∧ StS X.K X.mg fx Hf'' H'' σ'' G { s with l := r }, fun σ'' H'' ⟨Hf'', sb2, st2⟩ => ⟨r.length, by rw [← hl]; exact Nat.lt_succ_self _, Hf'', r, sb2, st2, rfl, by simp only [List.length_cons] at h1000; omega, by rw [← he, List.dropWhile_cons]; simp [c]⟩, Hf2, { s with l := a :: r }, st.step e2 bg2, ?_⟩
          have ev2 : (do bagPop; pure (.nx ()) : M (Fl Unit Unit)) { s with l := a :: r } = .ok (.nx ()) { s with l := r } := by
            rw [M.bind_ap]
            have : bagPop { s with l := a :: r } = .ok () { s with l := r } := by unfold bagPop; simp only [hw.1]
            rw [this]
            rfl
          show ((do bagPop; pure (.nx ()) : M (Fl Unit Unit)) { s with l := a :: r }).wp _ _
          rw [ev2]
          exact fun Hf3 H3 σ3 sb3 st3 => ⟨Hf3, (sb.trans e2.sub).trans sb3, st3⟩
        · rw [decide_eq_false c] at hb2
          subst hb2
          rw [if_neg Bool.false_ne_true]
          exact fin Hf2 H2 e2 bg2 (by rw [List.dropWhile_cons]; simp [c])
    · rw [if_neg hw] at w
      exact w.elim
end
def scrOf : D → Option (List Int)
  | .scr is => some is
  | _ => none
def intsOf : List D → Option (List Int)
  | [] => some []
  | .int i :: r => (intsOf r).map (i :: ·)
  | _ => none
theorem intsOf_eq : ∀ {cs : List D} {l : List Int}, intsOf cs = some l → cs = l.map .int
  | [], l, h => by cases h; rfl
  | .int i :: r, l, h => by
    unfold intsOf at h
    cases e : intsOf r with
    | none => rw [e] at h; cases h
    | some l' => rw [e] at h; cases h; rw [intsOf_eq e]; rfl
  | .non :: r, l, h => by cases h
  | .bl _ :: r, l, h => by cases h
  | .str _ :: r, l, h => by cases h
  | .tup _ :: r, l, h => by cases h
  | .lst _ :: r, l, h => by cases h
  | .dic _ _ :: r, l, h => by cases h
  | .ins _ _ _ :: r, l, h => by cases h
  | .scr _ :: r, l, h => by cases h
  | .xc _ _ _ _ :: r, l, h => by cases h
theorem intsOf_map : ∀ l : List Int, intsOf (l.map .int) = some l
  | [] => rfl
  | i :: l => by rw [List.map_cons, intsOf, intsOf_map l]; rfl
def withBagW {α β : Type} (d : D) (body : M (Fl α β)) : R (Fl α β) := match d with
  | .lst [.lst cs, .int y, .int z] => match intsOf cs with
    | some l => match body ⟨0, y, z, l, true⟩ with
      | .ok f _ => .ok f
      | .ex e _ => .ex e
      | .stuck => .stuck
    | none => .stuck
  | _ => .stuck
abbrev Fx.baggedL (fx : Fx) (L : List Addr) : Fx := { fx with bag := L }
section
variable {K : PySem.W.Frag} {mg : Str → Option Value} {fx : Fx} [DL.TC]
theorem Ste.unbagL {L : List Addr} {Hf H Hf' H' : Hp} (e : Ste L Hf H Hf' H') (hb : ∀ b ∈ L, H b = none) : Ste [] Hf H Hf' H' :=
  ⟨e.sub, e.top, fun a o q _ kk => e.keep a o q (fun m => by rw [hb a m] at q; cases q) kk, e.dom, e.fresh, e.tab⟩
theorem StS.unbagL {L : List Addr} {Hf H : Hp} {σ : L2.St} {G : List Sl} {s s0 : S} (hfx : fx.bag = []) (hme : fx.me = []) (hb : ∀ b ∈ L, fx.H0 b = none) (st : StS K mg (fx.baggedL L) Hf H σ G s) (hG : G.all noBg = true) : StS K mg fx Hf H σ G s0 := by
  have st0 : Ste L fx.Hf0 fx.H0 Hf H := by
    have z := st.ste
    have e : (fx.baggedL L).me = [] := hme
    rw [e] at z
    exact z
  refine ⟨by rw [hfx, hme]; exact Ste.unbagL st0 hb, by rw [hfx]; trivial, by rw [hfx, hme]; intro b hb; (cases hb), st.tb, st.len, fun i x e => ?_, st.dis⟩
  have so := st.sl i x e
  cases x with
  | un => trivial
  | im d => exact so
  | bg =>
    have := List.all_eq_true.mp hG _ (List.mem_of_getElem? e)
    cases this
  | ow ds =>
    obtain ⟨p, vs, e1, h, hf, h0, nb, l, hz⟩ := so
    exact ⟨p, vs, e1, h, hf, h0, by rw [hfx]; simp, l, hz⟩
  | od ks ds =>
    obtain ⟨p, vs, e1, h, hf, h0, nb, l, l', hz⟩ := so
    exact ⟨p, vs, e1, h, hf, h0, by rw [hfx]; simp, l, l', hz⟩
  | ob ks ds =>
    obtain ⟨p, C, dx, vs, e1, h, hf, h0, nb, l⟩ := so
    exact ⟨p, C, dx, vs, e1, h, hf, h0, by rw [hfx]; simp, l⟩
theorem ints_is {H : Hp} : ∀ {l : List Int} {vs : List V}, IsL K mg H (l.map .int) vs → vs = l.map V.int
  | [], vs, h => h
  | i :: l, vs, h => by
    obtain ⟨v, r, rfl, e, h'⟩ := h
    rw [ints_is h']
    cases e
    rfl
theorem scr_small {Hf : Hp} {is : List Int} {v : V} (h : Is K mg Hf (.scr is) v) : ∃ Hs, Sub Hs Hf ∧ Is K mg Hs (.scr is) v ∧ (∀ a l, Hs a ≠ some (.lst l)) ∧ ∀ a o, Hf a = some o → (∃ l, o = .lst l) ∨ Hs a = some o := by
  classical
  have hs : Sub (fun x => if (∃ l, Hf x = some (.lst l)) then none else Hf x) Hf := fun x u e => by
    dsimp only at e
    by_cases c : ∃ l, Hf x = some (.lst l)
    · rw [if_pos c] at e; cases e
    · rw [if_neg c] at e; exact e
  have ho : ∀ a o, Hf a = some o → (∃ l, o = .lst l) ∨ (fun x => if (∃ l, Hf x = some (.lst l)) then none else Hf x) a = some o := fun a o e => by
    by_cases c : ∃ l, Hf a = some (.lst l)
    · obtain ⟨l, z⟩ := c
      rw [z] at e
      exact .inl ⟨l, (Option.some.inj e).symm⟩
    · exact .inr ((if_neg c).trans e)
  refine ⟨_, hs, ?_, fun a l e => ?_, ho⟩
  · rw [Is] at h ⊢
    obtain ⟨z, a, rfl, q⟩ := h
    refine ⟨z, a, rfl, ?_⟩
    rcases q with ⟨o, q⟩ | q
    · rcases ho a _ q with ⟨l, z⟩ | z
      · cases z
      · exact .inl ⟨o, z⟩
    · exact .inr q
  · have e : (if (∃ l, Hf a = some (HO.lst l)) then none else Hf a) = some (HO.lst l) := e
    by_cases c : ∃ l, Hf a = some (.lst l)
    · rw [if_pos c] at e; cases e
    · rw [if_neg c] at e; exact c ⟨l, e⟩
end
section
variable {X : Cx} {fx : Fx} {G : List Sl} {α β : Type} {kk j : Nat} {rest : List Stmt} {ex : α → List Sl} {exb : β → List Sl} {pos : Pos} {n : Str} {pos' : Pos} [DL.TC]
theorem Cok.baggedL (C : Cok X fx kk) (L : List Addr) : Cok X (fx.baggedL L) kk := ⟨C.calm, C.hp, C.tk, C.rm, C.nd, C.gd⟩
theorem StS.setBg2 {i : Nat} {b c : Addr} {Hf H : Hp} {σ : L2.St} {y z : Int} {l : List Int} {s : S} (hfx : fx.bag = []) (hme : fx.me = []) (st : StS X.K X.mg fx Hf H σ G s) (no : ∀ x ∈ [b, c], ∀ (j : Nat) (q : Addr), σ[j]? = some (some (.ref q)) → (∀ u, G[j]? = some u → isOw u = true → q ≠ x)) (ne : b ≠ c) (hb : H b = some (.lst [.ref c, .int y, .int z])) (hc : H c = some (.lst (l.map V.int))) (hf : ∀ x ∈ [b, c], Hf x = none) (hG : G.all noBg = true) :
    StS X.K X.mg (fx.baggedL [b, c]) Hf H (σ.set i (some (.ref b))) (G.set i .bg) ⟨0, y, z, l, true⟩ := by
  refine ⟨⟨st.ste.sub, st.ste.top, fun a o q _ kk => st.ste.keep a o q (by rw [hfx, hme]; simp) kk, st.ste.dom, st.ste.fresh, st.ste.tab⟩, ⟨rfl, ne, hb, hc⟩, fun x hx => ?_, st.tb, by simpa using st.len, fun j u e => ?_, fun j k u w p hjk ex ey ox oy e1 e2 => ?_⟩
  · have hm : (fx.baggedL [b, c]).me = [] := hme
    rw [hm] at hx ⊢
    have hx' : x ∈ [b, c] := hx
    refine ⟨hf x hx', ?_, fun z => nomatch z⟩
    simp only [List.mem_cons, List.not_mem_nil, or_false] at hx'
    rcases hx' with rfl | rfl
    · rw [hb]; simp
    · rw [hc]; simp
  · have nb : ∀ p, σ[j]? = some (some (.ref p)) → ∀ v, G[j]? = some v → isOw v = true → p ∉ [b, c] := fun p e1 v ev ov m => no p m j p e1 v ev ov rfl
    by_cases q : i = j
    · subst q
      have hi : i < G.length := by
        have := (List.getElem?_eq_some_iff.mp e).1
        simpa using this
      rw [List.getElem?_set_self hi] at e
      cases e
      exact ⟨b, [c], rfl, List.getElem?_set_self (by rw [st.len]; exact hi)⟩
    · rw [List.getElem?_set_ne q] at e
      rw [List.getElem?_set_ne q]
      have so := st.sl j u e
      cases u with
      | un => trivial
      | im d => exact so
      | bg =>
        have := List.all_eq_true.mp hG _ (List.mem_of_getElem? e)
        cases this
      | ow ds =>
        obtain ⟨p, vs, e1, h, hf', h0', _, l, hz⟩ := so
        exact ⟨p, vs, e1, h, hf', h0', nb p e1 _ e rfl, l, hz⟩
      | od ks ds =>
        obtain ⟨p, vs, e1, h, hf', h0', _, l, l', hz⟩ := so
        exact ⟨p, vs, e1, h, hf', h0', nb p e1 _ e rfl, l, l', hz⟩
      | ob ks ds =>
        obtain ⟨p, C, dx, vs, e1, h, hf', h0', _, l⟩ := so
        exact ⟨p, C, dx, vs, e1, h, hf', h0', nb p e1 _ e rfl, l⟩
  · have nj : i ≠ j := by
      rintro rfl
      have hi : i < G.length := by
        have := (List.getElem?_eq_some_iff.mp ex).1
        simpa using this
      rw [List.getElem?_set_self hi] at ex
      cases ex; cases ox
    have nk : i ≠ k := by
      rintro rfl
      have hi : i < G.length := by
        have := (List.getElem?_eq_some_iff.mp ey).1
        simpa using this
      rw [List.getElem?_set_self hi] at ey
      cases ey; cases oy
    rw [List.getElem?_set_ne nj] at ex e1
    rw [List.getElem?_set_ne nk] at ey e2
    exact st.dis j k u w p hjk ex ey ox oy e1 e2
theorem dss_bagW {a0 : D} {g : List D → R D} {k : M (Fl α β)} {f : Addr} {fd : FuncData} {ps : List Str} {nm sn : Str} {p sp cpos : Pos} (C : Cok X fx kk) (i : Nat) (si : Nat) (F : FnG X.prog X.w X.K X.mg X.base j f fd ps (spR X.K X.mg false 1 g)) (hm : X.mg nm = some (.ref f)) (hk : PySem.W.keepIn X.K (.ref f) = true) (hb : Binds X.K fd ps [])
    (hr : ∀ L, Cok X (fx.baggedL L) kk → PSs X rest (tS X.K X.mg (fx.baggedL L) (G.set i .bg) ex exb k)) (hex : ∀ a, (ex a).all noBg = true) (hexb : ∀ a, (exb a).all noBg = true) (hfx : fx.bag = [] := by rfl) (hme : fx.me = [] := by rfl) (hgx : fx.gx = none := by rfl) (hnr : fx.nr = false := by rfl) (hG : G.all noBg = true := by rfl)
    (hS : G[si]? = some (.im a0) := by rfl) (hNS : X.N[si]? = some sn := by rfl) (hvS : Vis X.env.scope sn := by first | exact Or.inl rfl | exact Or.inr (Or.inl rfl) | exact Or.inr (Or.inr rfl)) (hdS : (sn == ("__debug__" : Str)) = false := by decide) (hcS : (sn == ("__classdict__" : Str)) = false := by decide)
    (hj : j ≤ kk := by decide) (hg : Gl X nm := by rfl) (hdb : (nm == ("__debug__" : Str)) = false := by decide) (he : starEach [(.Name sn sp : Expr)] X.env = (false, eval (.Name sn sp) X.env) :: starEach [] X.env := by rfl) (hpl : (backTo cpos (starEach [] X.env)).any (·.1) = false := by rfl)
    (hi : X.N[i]? = some n := by rfl) (hx : Loc X.env.scope n := by first | exact Or.inl rfl | exact Or.inr rfl)
    (hs : swapsWith (.Call (.Name nm p) [.Name sn sp] [] cpos) (some (.Name n pos')) pos.line X.env = pure false := by rfl) (hf : X.fn n = true ∨ X.env.scope.names.lookup n = some .local := by first | exact .inl rfl | exact .inr rfl) :
    PSs X (.Assign [.Name n pos'] (.Call (.Name nm p) [.Name sn sp] [] cpos) pos :: rest) (tS X.K X.mg fx G ex exb (do let is ← ask (scrOf a0); let d ← Mo.noex (g [.scr is]); withBagW d k)) :=
  pssI (pss_cons (ps_set C.nd hi hx (pe_callG (E := WE fx.W) F C.gd (C.rm.mono hj) hg hm hk hb .nil (fun σ => passAt C.tk σ) (pa_cons (pe_var hNS hvS hdS hcS) pa_nil he) hdb he hpl) hs hf) (pss_ex fun L => hr L (C.baggedL L))) fun De σ H ⟨Hf, s, h⟩ => by
    obtain ⟨st, w⟩ := h
    obtain ⟨v, ev, iv⟩ := st.sl si _ hS
    cases a0 with
    | scr is =>
      have w1 : (R.nx (g [.scr is])).wp s (fun d s1 => R.wp (withBagW d k) s1 (FP X.K X.mg fx Hf ex exb De) (EXS X.K X.mg fx)) (EXS X.K X.mg fx) := Mo.wp_bind (show Mo.wp (Mo.noex (g [.scr is]) >>= fun d => withBagW d k) s (FP X.K X.mg fx Hf ex exb De) (EXS X.K X.mg fx) from w)
      obtain ⟨Hs, ss, is', hno, hall⟩ := scr_small iv
      refine ⟨v, ev, ?_⟩
      show spR X.K X.mg false 1 g [v] H _ _
      refine ⟨rfl, Hs, [.scr is], .of ss st.topT, .cons is' .nil, ?_⟩
      cases hgd : g [.scr is] with
      | ok d =>
        rw [hgd] at w1
        have w2 : R.wp (withBagW d k) s (FP X.K X.mg fx Hf ex exb De) (EXS X.K X.mg fx) := w1
        intro v' Hf' H' e2 i2
        have i3 : Is X.K X.mg Hf' d v' := i2
        unfold withBagW at w2
        split at w2
        · rename_i cs y z
          split at w2
          · rename_i l hl
            have := intsOf_eq hl
            subst this
            rw [Is] at i3
            obtain ⟨_, b, vs, rfl, hb', l1⟩ := i3
            obtain ⟨vc, r1, rfl, ic, v2, r2, rfl, rfl, v3, r3, rfl, rfl, rfl⟩ := l1
            rw [Is] at ic
            obtain ⟨_, c, ws, rfl, hc', l2⟩ := ic
            have := ints_is l2
            subst this
            have fr : ∀ a l, Hf' a = some (.lst l) → H a = none := fun a l q => by
              rcases e2.fresh a _ q with h1 | h1
              · exact absurd h1 (hno a l)
              · exact h1
            have hb0 := fr b _ hb'
            have hc0 := fr c _ hc'
            have ne : b ≠ c := fun z => by
              rw [z, hc'] at hb'
              cases l with
              | nil => cases hb'
              | cons t l => cases hb'
            have nb0 := st.new0 hb0
            have nc0 := st.new0 hc0
            have h00 : ∀ x ∈ [b, c], fx.H0 x = none := fun x hx => by
              simp only [List.mem_cons, List.not_mem_nil, or_false] at hx
              rcases hx with rfl | rfl
              · exact nb0.1
              · exact nc0.1
            have hff : ∀ x ∈ [b, c], Hf x = none := fun x hx => by
              simp only [List.mem_cons, List.not_mem_nil, or_false] at hx
              rcases hx with rfl | rfl
              · exact st.top.none hb0
              · exact st.top.none hc0
            have e3 : Ste [] Hf H Hf H' := ⟨.refl _, fun a o q => (hall a o q).elim (fun ⟨l, z⟩ => e2.keep a o (st.top a o q) (by simp) (by rw [z]; exact nofun)) fun z => e2.top a o (e2.sub a o z), e2.keep, e2.dom, fun a o q => .inl q, e2.tab⟩
            have st1 : StS X.K X.mg fx Hf H' σ G s := st.step e3.wide (e3.bag st.bag)
            refine ⟨[b, c], Hf, ⟨0, y, z, l, true⟩, StS.setBg2 hfx hme st1 (fun x hx => ?_) ne (e2.top _ _ hb') (e2.top _ _ hc') hff hG, ?_⟩
            · simp only [List.mem_cons, List.not_mem_nil, or_false] at hx
              rcases hx with rfl | rfl
              · exact st.owNe hb0
              · exact st.owNe hc0
            show (k _).wp _ _
            cases q : k ⟨0, y, z, l, true⟩ with
            | ok f s2 =>
              rw [q] at w2
              have w3 : FP X.K X.mg fx Hf ex exb De f s := w2
              show FP X.K X.mg (fx.baggedL [b, c]) Hf ex exb De f s2
              cases f with
              | nx a => exact fun Hf' H' σ' sb st => w3 Hf' H' σ' sb (StS.unbagL hfx hme h00 st (hex a))
              | rt d => exact fun v Hf' H' st bg' r => w3 v Hf' H' (by rw [hfx, hme]; exact Ste.unbagL (by have e : (fx.baggedL [b, c]).me = [] := hme; rw [e] at st; exact st) h00) (by rw [hfx]; trivial) r
              | bk b => exact fun Hf' H' σ' sb st => w3 Hf' H' σ' sb (StS.unbagL hfx hme h00 st (hexb b))
              | ct b => exact fun Hf' H' σ' sb st => w3 Hf' H' σ' sb (StS.unbagL hfx hme h00 st (hexb b))
            | ex e2 s2 =>
              rw [q] at w2
              have w3 : EXS X.K X.mg fx e2 s := w2
              show EXS X.K X.mg (fx.baggedL [b, c]) e2 s2
              intro cls dd σ' Hf' H' xs xi
              refine w3 cls dd σ' Hf' H' ?_ xi
              unfold XSt at xs ⊢
              have hgx' : (fx.baggedL [b, c]).gx = none := hgx
              rw [hgx'] at xs
              rw [hgx]
              exact ⟨by rw [hfx, hme]; exact Ste.unbagL (by have z := xs.1; have e : (fx.baggedL [b, c]).me = [] := hme; rw [e] at z; exact z) h00, by rw [hfx]; trivial⟩
            | stuck => rw [q] at w2; exact w2.elim
          · exact w2.elim
        · exact w2.elim
      | ex e => rw [hgd] at w1; exact w1.elim
      | stuck => rw [hgd] at w1; exact w1.elim
    | _ => exact w.elim
end
end DL
namespace FN
open DL
def k__law_bag_d7b5_0 (q3 : D) (c4 : D) : R (Fl (D) (D)) := (do let v11 ← (do let x23 ← (do let r22 ← (do let x20 ← (do let x18 ← (do let x16 ← (do let x12 ← (pure q3); let y13 ← (pure (.int 6364136223846793005)); DL.ask (mulD x12 y13)); let y17 ← (do let x14 ← (pure c4); let y15 ← (pure (.int 48271)); DL.ask (mulD x14 y15)); DL.ask (addD x16 y17)); let y19 ← (pure (.int 7919)); DL.ask (addD x18 y19)); let r21 ← pure []; pure (x20 :: r21)); DL.ask (intD r22)); let y24 ← (pure (.int 2305843009213693951)); DL.ask (modD x23 y24)); (pure (.nx v11)))
def k__law_bag_d7b5_1 (a0 : D) (q26 : D) : R (Fl (Unit) (Empty)) := (do let v46 ← (mkL (do let r45 ← (do let x43 ← (mkL (do let r38 ← (do let r27 ← (pure a0); DL.ask (itD r27)); lcF (fun d => some d) (fun (c29 : D) => (do let x33 ← (do let r32 ← (do let x30 ← (pure c29); let r31 ← pure []; pure (x30 :: r31)); DL.ask (absD r32)); let y34 ← (do let x ← (pure (.int 10)); let y ← (pure (.int 18)); DL.ask (powC x y)); DL.ask ((geD x33 y34).bind bOf))) (fun (c29 : D) => (do let r37 ← (do let x35 ← (pure c29); let r36 ← pure []; pure (x35 :: r36)); DL.ask (absD r37))) r38)); let r44 ← (do let x41 ← (pure q26); let r42 ← (do let x39 ← (pure (.int 0)); let r40 ← pure []; pure (x39 :: r40)); pure (x41 :: r42)); pure (x43 :: r44)); DL.ask (szL r45))); pure (.rt v46))
def k__law_bag_d7b5_2 (a0 : D) (v1 : D) : R (Fl (Unit) (Empty)) := (do let r47 ← (do let r2 ← (pure a0); DL.ask (itD r2)); seqF (forF (fun d => some d) (fun (q3 : D) (c4 : D) => (do let t25 ← (do let x8 ← (do let r7 ← (do let x5 ← (pure c4); let r6 ← pure []; pure (x5 :: r6)); DL.ask (absD r7)); let y9 ← (do let x ← (pure (.int 10)); let y ← (pure (.int 18)); DL.ask (powC x y)); DL.ask ((ltD x8 y9).bind bOf)); seqF (if t25 = true then (k__law_bag_d7b5_0 q3 c4) else (pure (.nx q3))) fun (q10 : D) => (pure (.nx q10)))) r47 v1) fun (q26 : D) => (k__law_bag_d7b5_1 a0 q26))
def b__law_bag_d7b5 (a0 : D) : R (Fl Unit Empty) := (do let v1 ← (pure (.int 1299709)); (k__law_bag_d7b5_2 a0 v1))
theorem e__law_bag_d7b5 (a0 : D) : b__law_bag_d7b5 a0 = (do let r47 ← (DL.ask (itD a0)); seqF (forF (fun d => some d) (fun (q3 : D) (c4 : D) => (do let x8 ← (DL.ask (absD [c4])); let y9 ← (DL.ask (powC (.int 10) (.int 18))); let t25 ← (DL.ask ((ltD x8 y9).bind bOf)); seqF (if t25 = true then (do let x16 ← (DL.ask (mulD q3 (.int 6364136223846793005))); let y17 ← (DL.ask (mulD c4 (.int 48271))); let x18 ← (DL.ask (addD x16 y17)); let x20 ← (DL.ask (addD x18 (.int 7919))); let x23 ← (DL.ask (intD [x20])); let v11 ← (DL.ask (modD x23 (.int 2305843009213693951))); (pure (.nx v11))) else (pure (.nx q3))) fun (q10 : D) => (pure (.nx q10)))) r47 (.int 1299709)) fun (q26 : D) => (do let r38 ← (DL.ask (itD a0)); let x43 ← (lcF (fun d => some d) (fun (c29 : D) => (do let x33 ← (DL.ask (absD [c29])); let y34 ← (DL.ask (powC (.int 10) (.int 18))); DL.ask ((geD x33 y34).bind bOf))) (fun (c29 : D) => (DL.ask (absD [c29]))) r38); let v46 ← (DL.ask (szL [(.lst x43), q26, (.int 0)])); pure (.rt (.lst v46)))) := by
  unfold b__law_bag_d7b5; simp only [k__law_bag_d7b5_0, k__law_bag_d7b5_1, k__law_bag_d7b5_2, pure_bind, bind_assoc, mkL]
def m__law_bag_d7b5 : List D → R D := apR1 fun a0 => (runR false (b__law_bag_d7b5 a0))
def k__law_take_bb49_0 (v19 : D) (a1 : D) : M (Fl (Unit) (Empty)) := (do let v31 ← (do let x41 ← (do let r40 ← (do let x38 ← (do let x36 ← (do let x34 ← (pure v19); let y35 ← (do let x32 ← (pure (.int 32452867)); let y33 ← bagZ; DL.ask (mulD x32 y33)); DL.ask (addD x34 y35)); let y37 ← (pure (.int 2)); DL.ask (powC x36 y37)); let r39 ← pure []; pure (x38 :: r39)); DL.ask (intD r40)); let y42 ← (pure (.int 2305843009213693951)); DL.ask (modD x41 y42)); (do let v50 ← (do let x48 ← (do let r47 ← (do let x45 ← (do let x43 ← (pure v31); let y44 ← (pure (.int 4096)); DL.ask (fdivD x43 y44)); let r46 ← pure []; pure (x45 :: r46)); DL.ask (intD r47)); let y49 ← (pure a1); DL.ask (modD x48 y49)); pure (.rt v50)))
def k__law_take_bb49_1 (a1 : D) : M (Fl (Unit) (Empty)) := (do let v19 ← (do let x29 ← (do let r28 ← (do let x26 ← (do let x24 ← (do let x22 ← bagY3; let y23 ← (do let x20 ← (pure (.int 15485863)); let y21 ← bagZ; DL.ask (mulD x20 y21)); DL.ask (addD x22 y23)); let y25 ← (pure (.int 3)); DL.ask (powC x24 y25)); let r27 ← pure []; pure (x26 :: r27)); DL.ask (intD r28)); let y30 ← (pure (.int 2305843009213693921)); DL.ask (modD x29 y30)); (k__law_take_bb49_0 v19 a1))
def k__law_take_bb49_2 (a1 : D) : M (Fl (Unit) (Empty)) := (do let t51 ← bagNe; seqF (if t51 = true then (do let v4 ← (do let x8 ← (do let r7 ← (do let x5 ← bagHd; let r6 ← pure []; pure (x5 :: r6)); DL.ask (intD r7)); let y9 ← (pure a1); DL.ask (modD x8 y9)); (do let v10 ← (do let x11 ← bagHd; let y12 ← (pure a1); DL.ask (fdivD x11 y12)); let i13 ← DL.ask (intOf v10); bagSetHd i13; (do let v14 ← (pure v4); pure (.rt v14)))) else (pure (.nx ()))) fun (q3 : Unit) => (do let v15 ← (do let x16 ← bagZ; let y17 ← (pure (.int 1)); DL.ask (addD x16 y17)); let i18 ← DL.ask (intOf v15); bagSetZ i18; (k__law_take_bb49_1 a1)))
def b__law_take_bb49 (a1 : D) : M (Fl Unit Empty) := (do bagDrop; (k__law_take_bb49_2 a1))
theorem e__law_take_bb49 (a1 : D) : b__law_take_bb49 a1 = (do bagDrop; let t51 ← bagNe; seqF (if t51 = true then (do let x5 ← bagHd; let x8 ← (DL.ask (intD [x5])); let v4 ← (DL.ask (modD x8 a1)); let x11 ← bagHd; let v10 ← (DL.ask (fdivD x11 a1)); let i13 ← DL.ask (intOf v10); bagSetHd i13; (pure (.rt v4))) else (pure (.nx ()))) fun (q3 : Unit) => (do let x16 ← bagZ; let v15 ← (DL.ask (addD x16 (.int 1))); let i18 ← DL.ask (intOf v15); bagSetZ i18; let x22 ← bagY3; let y21 ← bagZ; let y23 ← (DL.ask (mulD (.int 15485863) y21)); let x24 ← (DL.ask (addD x22 y23)); let x26 ← (DL.ask (powC x24 (.int 3))); let x29 ← (DL.ask (intD [x26])); let v19 ← (DL.ask (modD x29 (.int 2305843009213693921))); let y33 ← bagZ; let y35 ← (DL.ask (mulD (.int 32452867) y33)); let x36 ← (DL.ask (addD v19 y35)); let x38 ← (DL.ask (powC x36 (.int 2))); let x41 ← (DL.ask (intD [x38])); let v31 ← (DL.ask (modD x41 (.int 2305843009213693951))); let x45 ← (DL.ask (fdivD v31 (.int 4096))); let x48 ← (DL.ask (intD [x45])); let v50 ← (DL.ask (modD x48 a1)); pure (.rt v50))) := by
  unfold b__law_take_bb49; simp only [k__law_take_bb49_0, k__law_take_bb49_1, k__law_take_bb49_2, pure_bind, bind_assoc, mkL]
def m__law_take_bb49 : List D → M D := apM1 fun a1 => (runM false (b__law_take_bb49 a1))
theorem n__law_take_bb49 : ∀ ds s, m__law_take_bb49 ds s ≠ .stuck → ds.length = 1 := apM1_len _
def k__law_ends_f9cd_0 (a0 : D) (a1 : D) : R (Fl (Unit) (Empty)) := (do let v24 ← (andV (do let x7 ← (do let r3 ← (do let x1 ← (pure a0); let r2 ← pure []; pure (x1 :: r2)); DL.ask (lenD r3)); let y8 ← (do let r6 ← (do let x4 ← (pure a1); let r5 ← pure []; pure (x4 :: r5)); DL.ask (lenD r6)); DL.ask (geD x7 y8)) (do let x22 ← (do let x19 ← (pure a0); let l20 ← (do let x17 ← (do let x15 ← (do let r11 ← (do let x9 ← (pure a0); let r10 ← pure []; pure (x9 :: r10)); DL.ask (lenD r11)); let y16 ← (do let r14 ← (do let x12 ← (pure a1); let r13 ← pure []; pure (x12 :: r13)); DL.ask (lenD r14)); DL.ask (subD x15 y16)); let i18 ← DL.ask (intOf x17); pure (some i18)); let u21 ← (pure none); DL.ask (sliceD x19 l20 u21)); let y23 ← (pure a1); DL.ask (eqD x22 y23))); pure (.rt v24))
def b__law_ends_f9cd (a0 a1 : D) : R (Fl Unit Empty) := (k__law_ends_f9cd_0 a0 a1)
theorem e__law_ends_f9cd (a0 a1 : D) : b__law_ends_f9cd a0 a1 = (do let v24 ← (andV (do let x7 ← (DL.ask (lenD [a0])); let y8 ← (DL.ask (lenD [a1])); DL.ask (geD x7 y8)) (do let x15 ← (DL.ask (lenD [a0])); let y16 ← (DL.ask (lenD [a1])); let x17 ← (DL.ask (subD x15 y16)); let i18 ← DL.ask (intOf x17); let x22 ← (DL.ask (sliceD a0 (some i18) none)); DL.ask (eqD x22 a1))); pure (.rt v24)) := by
  unfold b__law_ends_f9cd; simp only [k__law_ends_f9cd_0, pure_bind, bind_assoc, mkL]
def m__law_ends_f9cd : List D → R D := apR2 fun a0 a1 => (runR false (b__law_ends_f9cd a0 a1))
theorem n__law_ends_f9cd : ∀ ds : List D, m__law_ends_f9cd ds ≠ .stuck → ds.length = 2 := apR2_len _
def b__law_of_8ba0 (a1 : D) : M (Fl Unit Empty) := (do let v9 ← (do let x7 ← (pure a1); let y8 ← (do let r6 ← (do let x4 ← (do let r3 ← (do let x1 ← (pure a1); let r2 ← pure []; pure (x1 :: r2)); DL.ask (lenD r3)); let r5 ← pure []; pure (x4 :: r5)); m__law_take_bb49 r6); DL.ask (ixD x7 y8)); pure (.rt v9))
theorem e__law_of_8ba0 (a1 : D) : b__law_of_8ba0 a1 = (do let x4 ← (DL.ask (lenD [a1])); let y8 ← (m__law_take_bb49 [x4]); let v9 ← (DL.ask (ixD a1 y8)); pure (.rt v9)) := by
  unfold b__law_of_8ba0; simp only [pure_bind, bind_assoc, mkL]
def m__law_of_8ba0 : List D → M D := apM1 fun a1 => (runM false (b__law_of_8ba0 a1))
theorem n__law_of_8ba0 : ∀ ds s, m__law_of_8ba0 ds s ≠ .stuck → ds.length = 1 := apM1_len _
def k__law_label_b886_0 (a1 : D) (v1 : D) : M (Fl (Unit) (Empty)) := (do let v20 ← (do let x18 ← (pure (.str [])); let _ ← DL.ask (strOf x18); let y19 ← (mkL (do let r17 ← (do let r9 ← (do let x7 ← (do let x5 ← (pure (.int 1)); let y6 ← (do let r4 ← (do let x2 ← (pure a1); let r3 ← pure []; pure (x2 :: r3)); m__law_take_bb49 r4); DL.ask (addD x5 y6)); let r8 ← pure []; pure (x7 :: r8)); DL.ask (rng1 r9)); lcF (fun d => some d) (fun (c11 : D) => pure true) (fun (c11 : D) => (do let x15 ← (pure v1); let y16 ← (do let r14 ← (do let x12 ← (pure (.int 36)); let r13 ← pure []; pure (x12 :: r13)); m__law_take_bb49 r14); DL.ask (ixD x15 y16))) r17)); DL.ask (joinD x18 y19)); pure (.rt v20))
def b__law_label_b886 (a1 : D) : M (Fl Unit Empty) := (do let v1 ← (pure (.str [48, 49, 50, 51, 52, 53, 54, 55, 56, 57, 97, 98, 99, 100, 101, 102, 103, 104, 105, 106, 107, 108, 109, 110, 111, 112, 113, 114, 115, 116, 117, 118, 119, 120, 121, 122])); (k__law_label_b886_0 a1 v1))
theorem e__law_label_b886 (a1 : D) : b__law_label_b886 a1 = (do let _ ← DL.ask (strOf (.str [])); let y6 ← (m__law_take_bb49 [a1]); let x7 ← (DL.ask (addD (.int 1) y6)); let r17 ← (DL.ask (rng1 [x7])); let y19 ← (lcF (fun d => some d) (fun (c11 : D) => pure true) (fun (c11 : D) => (do let y16 ← (m__law_take_bb49 [(.int 36)]); DL.ask (ixD (.str [48, 49, 50, 51, 52, 53, 54, 55, 56, 57, 97, 98, 99, 100, 101, 102, 103, 104, 105, 106, 107, 108, 109, 110, 111, 112, 113, 114, 115, 116, 117, 118, 119, 120, 121, 122]) y16))) r17); let v20 ← (DL.ask (joinD (.str []) (.lst y19))); pure (.rt v20)) := by
  unfold b__law_label_b886; simp only [k__law_label_b886_0, pure_bind, bind_assoc, mkL]
def m__law_label_b886 : List D → M D := apM1 fun a1 => (runM false (b__law_label_b886 a1))
theorem n__law_label_b886 : ∀ ds s, m__law_label_b886 ds s ≠ .stuck → ds.length = 1 := apM1_len _
def k__law_host_9bb9_0 (a1 : D) (q11 : List D) : M (Fl (List D) (List D)) := (do let v13 ← (iteM (do let x18 ← (do let r17 ← (do let x15 ← (pure (.int 6)); let r16 ← pure []; pure (x15 :: r16)); m__law_take_bb49 r17); let y19 ← (pure (.int 5)); DL.ask ((eqD x18 y19).bind bOf)) (do let r22 ← (do let x20 ← (pure (.int 3)); let r21 ← pure []; pure (x20 :: r21)); m__law_label_b886 r22) (do let r25 ← (do let x23 ← (pure a1); let r24 ← pure []; pure (x23 :: r24)); m__law_of_8ba0 r25)); let v14 ← DL.ask (apd q11 v13); (pure (.nx v14)))
def k__law_host_9bb9_1 (a2 : D) (a1 : D) (v1 : List D) : M (Fl (Unit) (Empty)) := (do let r31 ← (do let r10 ← (do let x8 ← (do let x6 ← (pure (.int 1)); let y7 ← (do let r5 ← (do let x3 ← (pure a2); let r4 ← pure []; pure (x3 :: r4)); m__law_take_bb49 r5); DL.ask (addD x6 y7)); let r9 ← pure []; pure (x8 :: r9)); DL.ask (rng1 r10)); seqF (forF (fun d => some d) (fun (q11 : List D) (c12 : D) => (k__law_host_9bb9_0 a1 q11)) r31 v1) fun (q26 : List D) => (do let v30 ← (do let r29 ← (do let x27 ← (pure (.lst q26)); let r28 ← pure []; pure (x27 :: r28)); DL.ask (tupleD r29)); pure (.rt v30)))
def b__law_host_9bb9 (a1 a2 : D) : M (Fl Unit Empty) := (do let v1 ← (do let r2 ← pure []; DL.ask (szL r2)); (k__law_host_9bb9_1 a2 a1 v1))
theorem e__law_host_9bb9 (a1 a2 : D) : b__law_host_9bb9 a1 a2 = (do let v1 ← (DL.ask (szL [])); let y7 ← (m__law_take_bb49 [a2]); let x8 ← (DL.ask (addD (.int 1) y7)); let r31 ← (DL.ask (rng1 [x8])); seqF (forF (fun d => some d) (fun (q11 : List D) (c12 : D) => (do let v13 ← (iteM (do let x18 ← (m__law_take_bb49 [(.int 6)]); DL.ask ((eqD x18 (.int 5)).bind bOf)) (m__law_label_b886 [(.int 3)]) (m__law_of_8ba0 [a1])); let v14 ← DL.ask (apd q11 v13); (pure (.nx v14)))) r31 v1) fun (q26 : List D) => (do let v30 ← (DL.ask (tupleD [(.lst q26)])); pure (.rt v30))) := by
  unfold b__law_host_9bb9; simp only [k__law_host_9bb9_0, k__law_host_9bb9_1, pure_bind, bind_assoc, mkL]
def m__law_host_9bb9 : List D → M D := apM2 fun a1 a2 => (runM false (b__law_host_9bb9 a1 a2))
theorem n__law_host_9bb9 : ∀ ds s, m__law_host_9bb9 ds s ≠ .stuck → ds.length = 2 := apM2_len _
def k__law_pool_b280_0 (v1 : D) : M (Fl (Unit) (Empty)) := (do let v21 ← (mkL (do let r20 ← (do let r14 ← (do let x12 ← (do let x10 ← (pure (.int 2)); let y11 ← (do let r9 ← (do let x7 ← (pure (.int 2)); let r8 ← pure []; pure (x7 :: r8)); m__law_take_bb49 r9); DL.ask (addD x10 y11)); let r13 ← pure []; pure (x12 :: r13)); DL.ask (rng1 r14)); lcF (fun d => some d) (fun (c16 : D) => pure true) (fun (c16 : D) => (do let r19 ← (do let x17 ← (pure v1); let r18 ← pure []; pure (x17 :: r18)); m__law_label_b886 r19)) r20)); pure (.rt v21))
def b__law_pool_b280 (a1 : D) : M (Fl Unit Empty) := (do let v1 ← (iteM (do let x5 ← (do let r4 ← (do let x2 ← (pure (.int 8)); let r3 ← pure []; pure (x2 :: r3)); m__law_take_bb49 r4); let y6 ← (pure (.int 7)); DL.ask ((eqD x5 y6).bind bOf)) (pure a1) (pure (.int 2))); (k__law_pool_b280_0 v1))
theorem e__law_pool_b280 (a1 : D) : b__law_pool_b280 a1 = (do let v1 ← (iteM (do let x5 ← (m__law_take_bb49 [(.int 8)]); DL.ask ((eqD x5 (.int 7)).bind bOf)) (pure a1) (pure (.int 2))); let y11 ← (m__law_take_bb49 [(.int 2)]); let x12 ← (DL.ask (addD (.int 2) y11)); let r20 ← (DL.ask (rng1 [x12])); let v21 ← (lcF (fun d => some d) (fun (c16 : D) => pure true) (fun (c16 : D) => (m__law_label_b886 [v1])) r20); pure (.rt (.lst v21))) := by
  unfold b__law_pool_b280; simp only [k__law_pool_b280_0, pure_bind, bind_assoc, mkL]
def m__law_pool_b280 : List D → M D := apM1 fun a1 => (runM false (b__law_pool_b280 a1))
theorem n__law_pool_b280 : ∀ ds s, m__law_pool_b280 ds s ≠ .stuck → ds.length = 1 := apM1_len _
end FN
namespace DL
def InvW (s : S) : Prop := s.w = true ∧ s.l.length ≤ 1000 ∧ 0 ≤ s.y ∧ s.y < 2305843009213693951 ∧ 0 ≤ s.z
def Bk {α : Type} (K : Nat) (x : M α) (Q : α → Prop) : Prop := ∀ s, InvW s → s.z + K ≤ 100000000000 → ∃ a s', x s = .ok a s' ∧ InvW s' ∧ s'.z ≤ s.z + K ∧ Q a
section
variable {α β γ : Type} {Q : β → Prop} {P : α → Prop} {K K1 : Nat}
theorem bk_pure {a : β} (h : Q a) : Bk K (pure a : M β) Q := fun s i _ => ⟨a, s, rfl, i, by omega, h⟩
theorem bk_mono {x : M α} {P' : α → Prop} (h : Bk K1 x P) (w : ∀ a, P a → P' a) (hk : K1 ≤ K := by omega) : Bk K x P' := fun s i b => by
  obtain ⟨a, s', e, i', z, q⟩ := h s i (by omega)
  exact ⟨a, s', e, i', by omega, w a q⟩
theorem bk_then {x : M α} {f : α → M β} (h : Bk K1 x P) (w : ∀ a, P a → Bk (K - K1) (f a) Q) (hk : K1 ≤ K := by omega) : Bk K (x >>= f) Q := fun s i b => by
  obtain ⟨a, s', e, i', z, q⟩ := h s i (by omega)
  obtain ⟨b, s2, e2, i2, z2, q2⟩ := w a q s' i' (by omega)
  refine ⟨b, s2, ?_, i2, by omega, q2⟩
  show (x s).bd f = _
  rw [e]; exact e2
theorem bk_ask {o : Option α} {a : α} (e : o = some a) (h : P a) : Bk K (ask o : M α) P := by subst e; exact bk_pure h
theorem bk_noex {x : M α} (h : Bk K x P) : Bk K (Mo.noex x) P := fun s i b => by
  obtain ⟨a, s', e, i', z, q⟩ := h s i b
  refine ⟨a, s', ?_, i', z, q⟩
  show (x s).nx = _
  rw [e]; rfl
theorem bk_runM {nr : Bool} {x : M (Fl Unit Empty)} {Q : D → Prop} (h : Bk K x (FlQ nr Q)) : Bk K (runM nr x) Q := fun s i b => by
  obtain ⟨a, s', e, i', z, q⟩ := h s i b
  unfold runM
  rw [e]
  cases a with
  | nx a =>
    obtain ⟨q1, q2⟩ := q
    subst q1
    exact ⟨.non, s', rfl, i', z, q2⟩
  | rt d => exact ⟨d, s', rfl, i', z, q⟩
  | bk b => exact b.elim
  | ct b => exact b.elim
theorem bk_seqP {x : M (Fl α β)} {k : α → M (Fl γ β)} {Q : Fl γ β → Prop} (P : α → Prop) (h : Bk K1 x (SeqQ P Q)) (w : ∀ a, P a → Bk (K - K1) (k a) Q) (hk : K1 ≤ K := by omega) : Bk K (seqF x k) Q := bk_then h (fun f q => by
  cases f with
  | nx a => exact w a q
  | rt d => exact bk_pure q
  | bk b => exact bk_pure q
  | ct b => exact bk_pure q) hk
theorem bk_for {u : D → Option γ} {xb : α → γ → M (Fl α α)} {Q : Fl α β → Prop} (c : Nat) (I : Nat → α → Prop) (ds : List D) (a0 : α) (h0 : I 0 a0) (hs : ∀ i d a, ds[i]? = some d → I i a → ∃ c', u d = some c' ∧ Bk c (xb a c') (TurnQ (I (i + 1)) Q)) (he : ∀ a, I ds.length a → Q (.nx a)) {n : Nat} (hl : ds.length ≤ n) (hk : c * n ≤ K := by omega) : Bk K (forF u xb ds a0) Q := by
  have hk' : c * ds.length ≤ K := Nat.le_trans (Nat.mul_le_mul_left c hl) hk
  clear hk hl
  induction ds generalizing I a0 K with
  | nil => exact bk_pure (he _ h0)
  | cons d ds ih =>
    unfold forF
    obtain ⟨c', e, h⟩ := hs 0 d a0 rfl h0
    rw [e]
    rw [List.length_cons, Nat.mul_add, Nat.mul_one] at hk'
    have ih' := fun (a : α) (q : I 1 a) => ih (fun i => I (i + 1)) a q (fun i d' a' e' q' => hs (i + 1) d' a' (by simpa using e') q') (fun a q => he a (by simpa using q)) (K := K - c) (by omega)
    show Bk K (xb a0 c' >>= _) Q
    refine bk_then h (fun f q => ?_) (by omega)
    cases f with
    | nx a => exact ih' a q
    | ct a => exact ih' a q
    | bk a => exact bk_pure q
    | rt d => exact bk_pure q
theorem bk_forU {u : D → Option γ} {xb : Unit → γ → M (Fl Unit Unit)} {Q : Fl Unit β → Prop} (c : Nat) (ds : List D) (hs : ∀ d ∈ ds, ∃ c', u d = some c' ∧ Bk c (xb () c') (TurnQ (fun _ => True) Q)) (he : Q (.nx ())) {n : Nat} (hl : ds.length ≤ n) (hk : c * n ≤ K := by omega) : Bk K (forF u xb ds ()) Q :=
  bk_for c (fun _ _ => True) ds () trivial (fun i d _ e _ => hs d (List.mem_of_getElem? e)) (fun _ _ => he) hl hk
theorem bk_lc {u : D → Option γ} {xe : γ → M D} {P : D → D → Prop} (c : Nat) : ∀ (ds : List D) {K : Nat}, (∀ d ∈ ds, ∃ c', u d = some c' ∧ Bk c (xe c') (P d)) → ∀ {n : Nat}, ds.length ≤ n → c * n ≤ K → Bk K (lcF u (fun _ => pure true) xe ds) fun rs => All2 P ds rs
  | [], K, _, _, _, _ => bk_pure .nil
  | d :: ds, K, h, n, hl, hk => by
    have hk' : c * ds.length + c ≤ K := by
      have := Nat.le_trans (Nat.mul_le_mul_left c hl) hk
      rwa [List.length_cons, Nat.mul_add, Nat.mul_one] at this
    unfold lcF
    obtain ⟨c', e, hx⟩ := h d (.head _)
    rw [e]
    show Bk K (Mo.noex (xe c') >>= _) _
    exact bk_then (bk_noex hx) (fun y py => bk_then (bk_lc c ds (K := K - c) (fun x m => h x (.tail _ m)) (Nat.le_refl _) (by omega)) (fun r pr => bk_pure (.cons py pr)) (Nat.le_refl _)) (by omega)
theorem bk_iteM {t : M Bool} {x y : M α} (ht : Bk K1 t fun _ => True) (hx : Bk (K - K1) x P) (hy : Bk (K - K1) y P) (hk : K1 ≤ K := by omega) : Bk K (iteM t x y) P := bk_then ht (fun b _ => by
  cases b
  · exact hy
  · exact hx) hk
end
theorem drop_len (l : List Int) : (l.dropWhile fun i => i == 0).length ≤ l.length := (List.dropWhile_sublist _).length_le
theorem okr_bagW {α β : Type} {y : Int} {l : List Int} {k : M (Fl α β)} {Q : Fl α β → Prop} {K : Nat} (hl : l.length ≤ 1000) (h0 : 0 ≤ y) (h1 : y < 2305843009213693951) (h : Bk K k Q) (hk : K ≤ 100000000000 := by omega) : OkR (withBagW (.lst [.lst (l.map .int), .int y, .int 0]) k) Q := by
  obtain ⟨a, s', e, _, _, q⟩ := h ⟨0, y, 0, l, true⟩ ⟨rfl, hl, h0, h1, Int.le_refl 0⟩ (by show (0:Int) + _ ≤ _; omega)
  refine ⟨a, ?_, q⟩
  unfold withBagW
  simp only [intsOf_map, e]
end DL
namespace FN
open DL
def MW {α : Type} (x : M α) (s : S) (Q : α → S → Prop) : Prop := ∃ a s', x s = .ok a s' ∧ Q a s'
theorem mw_bind {α β : Type} {x : M α} {f : α → M β} {s : S} {Q : β → S → Prop} (h : MW x s fun a s' => MW (f a) s' Q) : MW (x >>= f) s Q := by
  obtain ⟨a, s', e, b, s2, e2, q⟩ := h
  refine ⟨b, s2, ?_, q⟩
  show (x s).bd f = _
  rw [e]; exact e2
theorem mw_ask {α : Type} {o : Option α} {a : α} {s : S} {Q : α → S → Prop} (e : o = some a) (h : Q a s) : MW (ask o) s Q := by subst e; exact ⟨a, s, rfl, h⟩
theorem mw_pure {α : Type} {a : α} {s : S} {Q : α → S → Prop} (h : Q a s) : MW (pure a) s Q := ⟨a, s, rfl, h⟩
theorem pow_ii {i : Int} {j : Nat} (h0 : j ≤ 100) (h : i.natAbs < 2 ^ 64) : powC (.int i) (.int j) = some (.int (i ^ j)) := by
  show (if 0 ≤ (j : Int) ∧ (j : Int) ≤ 100 ∧ i.natAbs < 2 ^ 64 then some (D.int (i ^ (j : Int).toNat)) else none) = _
  rw [if_pos ⟨by omega, by omega, h⟩, Int.toNat_natCast]
theorem take_okW {n : Int} (h0 : 0 < n) (h1 : n < 4294967296) : Bk 1 (m__law_take_bb49 [.int n]) fun d => ∃ i, d = .int i ∧ 0 ≤ i ∧ i < n := by
  refine bk_runM ?_
  rw [e__law_take_bb49]
  intro s i b
  have key : MW (do bagDrop; let t51 ← bagNe; seqF (if t51 = true then (do let x5 ← bagHd; let x8 ← (DL.ask (intD [x5])); let v4 ← (DL.ask (modD x8 (.int n))); let x11 ← bagHd; let v10 ← (DL.ask (fdivD x11 (.int n))); let i13 ← DL.ask (intOf v10); bagSetHd i13; (pure (.rt v4))) else (pure (.nx ()))) fun (q3 : Unit) => (do let x16 ← bagZ; let v15 ← (DL.ask (addD x16 (.int 1))); let i18 ← DL.ask (intOf v15); bagSetZ i18; let x22 ← bagY3; let y21 ← bagZ; let y23 ← (DL.ask (mulD (.int 15485863) y21)); let x24 ← (DL.ask (addD x22 y23)); let x26 ← (DL.ask (powC x24 (.int 3))); let x29 ← (DL.ask (intD [x26])); let v19 ← (DL.ask (modD x29 (.int 2305843009213693921))); let y33 ← bagZ; let y35 ← (DL.ask (mulD (.int 32452867) y33)); let x36 ← (DL.ask (addD v19 y35)); let x38 ← (DL.ask (powC x36 (.int 2))); let x41 ← (DL.ask (intD [x38])); let v31 ← (DL.ask (modD x41 (.int 2305843009213693951))); let x45 ← (DL.ask (fdivD v31 (.int 4096))); let x48 ← (DL.ask (intD [x45])); let v50 ← (DL.ask (modD x48 (.int n))); pure (.rt v50)) : M (Fl Unit Empty)) s (fun a s' => InvW s' ∧ s'.z ≤ s.z + (1 : Nat) ∧ FlQ false (fun d => ∃ i, d = .int i ∧ 0 ≤ i ∧ i < n) a) := by
    have hm : ∀ j : Int, FlQ false (fun d => ∃ i, d = .int i ∧ 0 ≤ i ∧ i < n) (.rt (.int (j % n))) := fun j => ⟨_, rfl, Int.emod_nonneg _ (by omega), Int.emod_lt_of_pos _ h0⟩
    obtain ⟨iw, il, iy, iy2, iz⟩ := i
    refine mw_bind ⟨(), { s with l := s.l.dropWhile fun i => i == 0 }, by unfold bagDrop; rw [if_pos ⟨iw, il⟩], ?_⟩
    have il2 := Nat.le_trans (drop_len s.l) il
    generalize s.l.dropWhile (fun i => i == 0) = l at il2
    refine mw_bind ⟨!l.isEmpty, { s with l := l }, by unfold bagNe; rw [if_pos ⟨iw, il2⟩], ?_⟩
    cases l with
    | cons t l =>
      refine mw_bind ⟨.rt (.int (t % n)), { s with l := (t / n) :: l }, ?_, mw_pure ⟨⟨iw, by simpa using il2, iy, iy2, iz⟩, by show s.z ≤ _; omega, hm t⟩⟩
      show (do let x5 ← bagHd; let x8 ← (DL.ask (intD [x5])); let v4 ← (DL.ask (modD x8 (.int n))); let x11 ← bagHd; let v10 ← (DL.ask (fdivD x11 (.int n))); let i13 ← DL.ask (intOf v10); bagSetHd i13; (pure (.rt v4)) : M (Fl Unit Empty)) _ = _
      have hh : bagHd { s with l := t :: l } = .ok (.int t) { s with l := t :: l } := by unfold bagHd; simp only [iw]
      have hs : bagSetHd (t / n) { s with l := t :: l } = .ok () { s with l := (t / n) :: l } := by unfold bagSetHd; simp only [iw]
      rw [M.bind_ap, hh]
      show (do let x8 ← (DL.ask (intD [D.int t])); let v4 ← (DL.ask (modD x8 (.int n))); let x11 ← bagHd; let v10 ← (DL.ask (fdivD x11 (.int n))); let i13 ← DL.ask (intOf v10); bagSetHd i13; (pure (.rt v4)) : M (Fl Unit Empty)) _ = _
      simp only [int_int, askM, pure_bind, mod_ii h0]
      rw [M.bind_ap, hh]
      show (do let v10 ← (DL.ask (fdivD (D.int t) (.int n))); let i13 ← DL.ask (intOf v10); bagSetHd i13; (pure (.rt (.int (t % n)))) : M (Fl Unit Empty)) _ = _
      simp only [fdiv_ii h0 (by omega : n.natAbs < 2 ^ 64), int_of, askM, pure_bind]
      rw [M.bind_ap, hs]
      rfl
    | nil =>
      refine mw_bind ⟨.nx (), { s with l := [] }, rfl, ?_⟩
      show MW (do let x16 ← bagZ; _) _ _
      refine mw_bind ⟨.int s.z, { s with l := [] }, by unfold bagZ; rw [if_pos iw], ?_⟩
      refine mw_bind (mw_ask add_ii (mw_bind (mw_ask (int_of) (mw_bind ⟨(), { s with l := [], z := s.z + 1 }, by unfold bagSetZ; rw [if_pos iw], ?_⟩))))
      refine mw_bind ⟨.int s.y, { s with l := [], z := s.z + 1 }, by unfold bagY3; rw [if_pos iw], ?_⟩
      refine mw_bind ⟨.int (s.z + 1), { s with l := [], z := s.z + 1 }, by unfold bagZ; rw [if_pos iw], ?_⟩
      refine mw_bind (mw_ask (mul_ii (by omega) (by omega)) (mw_bind (mw_ask add_ii (mw_bind (mw_ask (pow_ii (j := 3) (by omega) (by omega)) (mw_bind (mw_ask int_int (mw_bind (mw_ask (mod_ii (by omega)) ?_)))))))))
      refine mw_bind ⟨.int (s.z + 1), { s with l := [], z := s.z + 1 }, by unfold bagZ; rw [if_pos iw], ?_⟩
      have g0 := Int.emod_nonneg ((s.y + 15485863 * (s.z + 1)) ^ 3) (by omega : (2305843009213693921 : Int) ≠ 0)
      have g1 := Int.emod_lt_of_pos ((s.y + 15485863 * (s.z + 1)) ^ 3) (by omega : (0 : Int) < 2305843009213693921)
      generalize (s.y + 15485863 * (s.z + 1)) ^ 3 % 2305843009213693921 = g at g0 g1
      refine mw_bind (mw_ask (mul_ii (by omega) (by omega)) (mw_bind (mw_ask add_ii (mw_bind (mw_ask (pow_ii (j := 2) (by omega) (by omega)) (mw_bind (mw_ask int_int (mw_bind (mw_ask (mod_ii (by omega)) ?_)))))))))
      refine mw_bind (mw_ask (fdiv_ii (by omega) (by omega)) (mw_bind (mw_ask int_int (mw_bind (mw_ask (mod_ii h0) (mw_pure ⟨⟨iw, by simp, iy, iy2, by show 0 ≤ s.z + 1; omega⟩, by show s.z + 1 ≤ _; omega, hm _⟩))))))
  obtain ⟨a, s', e, q⟩ := key
  exact ⟨a, s', e, q⟩
theorem of_okW {ds : List D} (h0 : ds ≠ []) (h1 : ds.length ≤ 1000000) : Bk 1 (m__law_of_8ba0 [.lst ds]) fun d => d ∈ ds := by
  refine bk_runM ?_
  rw [e__law_of_8ba0]
  have hp : 0 < ds.length := List.length_pos_iff.mpr h0
  simp only [len_lst, askM, pure_bind]
  refine bk_then (take_okW (n := ds.length) (by omega) (by omega)) ?_
  rintro d ⟨i, rfl, h2, h3⟩
  simp only [ix_lst h2 h3, askM, pure_bind]
  exact bk_pure (List.getElem_mem _)
theorem ints_of : ∀ L : List D, (∀ z ∈ L, ∃ i : Int, z = .int i) → ∃ l : List Int, L = l.map .int ∧ l.length = L.length
  | [], _ => ⟨[], rfl, rfl⟩
  | d :: L, h => by
    obtain ⟨i, rfl⟩ := h d (.head _)
    obtain ⟨l, e, hl⟩ := ints_of L fun z m => h z (.tail _ m)
    exact ⟨i :: l, by rw [e]; rfl, by simp [hl]⟩
def intP : D → Bool
  | .int i => decide ((1000000000000000000 : Int) ≤ if i < 0 then -i else i)
  | _ => false
def intA : D → D
  | .int i => .int (if i < 0 then -i else i)
  | d => d
theorem bag_okW (ns : List Int) (hn : ns.length ≤ 63) : OkR (m__law_bag_d7b5 [.scr ns]) fun d => ∃ (l : List Int) (y : Int), d = .lst [.lst (l.map .int), .int y, .int 0] ∧ l.length ≤ 1000 ∧ 0 ≤ y ∧ y < 2305843009213693951 := by
  have e3 : powC (.int 10) (.int 18) = some (.int 1000000000000000000) := rfl
  have il : itD (.scr ns) = some (ns.map .int) := rfl
  refine okr_runR ?_
  simp only [e__law_bag_d7b5, il, askR, pure_bind]
  refine okr_seqP (fun q => ∃ y : Int, q = .int y ∧ 0 ≤ y ∧ y < 2305843009213693951) (okr_for (fun _ (q : D) => ∃ y : Int, q = .int y ∧ 0 ≤ y ∧ y < 2305843009213693951) _ _ ⟨_, rfl, by omega, by omega⟩ (fun k d q hd hq => ⟨d, rfl, ?_⟩) (fun q hq => by obtain ⟨y, h⟩ := hq; exact ⟨y, h⟩)) ?_
  · obtain ⟨y, rfl, y0, y1⟩ := hq
    rw [List.getElem?_map] at hd
    cases e : ns[k]? with
    | none => rw [e] at hd; cases hd
    | some c =>
      rw [e] at hd
      cases hd
      simp only [abs_i, e3, askR, pure_bind, lt_ii, Option.bind_some, bOf_bl]
      refine okr_seqP (fun q => ∃ y : Int, q = .int y ∧ 0 ≤ y ∧ y < 2305843009213693951) ?_ (fun q hq => okr_p hq)
      by_cases c1 : (if c < 0 then -c else c) < 1000000000000000000
      · have c2 : c.natAbs < 2 ^ 64 := by split at c1 <;> omega
        simp only [decide_eq_true c1, if_true, mul_ii (i := y) (j := 6364136223846793005) (by omega) (by omega), mul_ii (i := c) (j := 48271) c2 (by omega), askR, pure_bind, add_ii, int_int, mod_ii (j := 2305843009213693951) (by omega)]
        exact okr_p ⟨_, rfl, Int.emod_nonneg _ (by omega), Int.emod_lt_of_pos _ (by omega)⟩
      · simp only [decide_eq_false c1, Bool.false_eq_true, if_false]
        exact okr_p ⟨y, rfl, y0, y1⟩
  rintro q ⟨y, rfl, y0, y1⟩
  have lc := lcR (u := fun d => some d) (xt := fun (c29 : D) => (do let x33 ← (DL.ask (absD [c29])); let y34 ← (DL.ask (powC (.int 10) (.int 18))); DL.ask ((geD x33 y34).bind bOf))) (xe := fun (c29 : D) => (DL.ask (absD [c29]))) (c := fun d => d) (p := intP) (f := intA) (ns.map .int) (fun _ _ => rfl) (fun d m => by
    obtain ⟨i, _, rfl⟩ := List.mem_map.mp m
    rfl) (fun d m _ => by
    obtain ⟨i, _, rfl⟩ := List.mem_map.mp m
    rfl)
  rw [lc]
  obtain ⟨l, el, hl⟩ := ints_of (((ns.map .int).filter intP).map intA) fun z m => by
    obtain ⟨d, hd, rfl⟩ := List.mem_map.mp m
    obtain ⟨i, _, rfl⟩ := List.mem_map.mp (List.mem_filter.mp hd).1
    exact ⟨_, rfl⟩
  have hl2 : l.length ≤ 63 := by
    rw [hl, List.length_map]
    exact Nat.le_trans (List.length_filter_le _ _) (by rw [List.length_map]; exact hn)
  rw [el, okpR]
  simp only [pure_bind]
  rw [sz_ok (by simp)]
  simp only [askR, pure_bind]
  exact okr_p ⟨l, y, rfl, by omega, y0, y1⟩
theorem all2_chrs : ∀ {ds rs : List D}, All2 (fun _ r => ∃ c ∈ CH, r = D.str [c]) ds rs → ∃ z : List Nat, rs = chrs z ∧ z.length = ds.length ∧ ∀ c ∈ z, c ∈ CH
  | _, _, .nil => ⟨[], rfl, rfl, by simp⟩
  | _, _, .cons ⟨c, hc, e⟩ t => by
    obtain ⟨z, rfl, hl, hz⟩ := all2_chrs t
    subst e
    exact ⟨c :: z, rfl, by simp [hl], fun x m => by
      rcases List.mem_cons.mp m with rfl | m
      · exact hc
      · exact hz x m⟩
theorem label_okW {m : Int} (m1 : 1 ≤ m) (m2 : m ≤ 20) : Bk 21 (m__law_label_b886 [.int m]) fun d => ∃ z, d = .str z ∧ isLab m.toNat z = true := by
  refine bk_runM ?_
  simp only [e__law_label_b886, str_of, askM, pure_bind]
  refine bk_then (take_okW (n := m) (by omega) (by omega)) ?_
  rintro d ⟨k, rfl, k0, k1⟩
  simp only [add_ii, askM, pure_bind]
  rw [rng1_ok (by omega) (by omega)]
  simp only [askM, pure_bind]
  refine bk_then (K1 := 20) (bk_lc (P := fun _ r => ∃ c ∈ CH, r = D.str [c]) 1 _ (fun d _ => ⟨d, rfl, ?_⟩) (n := 20) (by rw [range_len]; omega) (by omega)) ?_
  · refine bk_then (take_okW (n := 36) (by omega) (by omega)) ?_
    rintro d ⟨i, rfl, i0, i1⟩
    obtain ⟨c, hc, e⟩ := ix_str (z := CH) i0 (by rw [ch36]; exact i1)
    exact bk_ask e ⟨c, hc, rfl⟩
  intro rs hrs
  obtain ⟨z, rfl, hl, hz⟩ := all2_chrs hrs
  rw [range_len] at hl
  rw [join_chrs (by omega)]
  simp only [askM, pure_bind]
  exact bk_pure ⟨z, rfl, isLab_iff.mpr ⟨by omega, by omega, hz⟩⟩
theorem of_labW {zs : List (List Nat)} (h : Lab8 zs) : Bk 1 (m__law_of_8ba0 [.lst (zs.map .str)]) fun d => ∃ z, d = .str z ∧ isLab 20 z = true :=
  bk_mono (of_okW (by simpa using h.1) (by rw [List.length_map]; have := h.2.1; omega)) fun d hd => by
    obtain ⟨z, hz, rfl⟩ := List.mem_map.mp hd
    exact ⟨z, rfl, h.2.2 z hz⟩
theorem labs_nil : Labs [] := fun z m => by cases m
theorem host_okW {zs : List (List Nat)} (h : Lab8 zs) {m : Int} (m1 : 1 ≤ m) (m2 : m ≤ 10) : Bk 300 (m__law_host_9bb9 [.lst (zs.map .str), .int m]) fun d => ∃ A : Hst, d = hD A ∧ Labs A ∧ 1 ≤ A.length ∧ (A.length : Int) ≤ m := by
  have s0 : szL [] = some [] := sz_ok (by simp)
  refine bk_runM ?_
  simp only [e__law_host_9bb9, s0, askM, pure_bind]
  refine bk_then (take_okW (n := m) (by omega) (by omega)) ?_
  rintro d ⟨k, rfl, k0, k1⟩
  simp only [add_ii, askM, pure_bind]
  rw [rng1_ok (by omega) (by omega)]
  simp only [askM, pure_bind]
  refine bk_seqP (K1 := 220) (fun q => ∃ A : Hst, q = A.map .str ∧ Labs A ∧ A.length = (1 + k).toNat) (bk_for (n := 10) 22 (fun i q => ∃ A : Hst, q = A.map .str ∧ Labs A ∧ A.length = i) _ _ ⟨[], rfl, labs_nil, rfl⟩ (fun i d q hd hq => ⟨d, rfl, ?_⟩) (fun q hq => by rw [range_len] at hq; exact hq) (by rw [range_len]; omega) (by omega)) ?_
  · obtain ⟨A, rfl, hA, hl⟩ := hq
    have hi := (range_get hd).1
    refine bk_then (K1 := 22) (P := fun d => ∃ z, d = .str z ∧ isLab 20 z = true) ?_ ?_
    · refine bk_iteM (K1 := 1) (bk_then (take_okW (n := 6) (by omega) (by omega)) fun d hd => by
        obtain ⟨j, rfl, _, _⟩ := hd
        exact bk_ask (by rfl) trivial) (bk_mono (label_okW (m := 3) (by omega) (by omega)) fun d hd => ?_) (bk_mono (of_labW h) fun d hd => hd)
      obtain ⟨z, rfl, hz⟩ := hd
      exact ⟨z, rfl, isLab_up hz (by decide)⟩
    rintro d ⟨z, rfl, hz⟩
    rw [apd_ok (by rw [List.length_map]; omega)]
    simp only [askM, pure_bind]
    refine bk_pure ⟨A ++ [z], by simp, fun y m => ?_, by simp [hl]⟩
    rcases List.mem_append.mp m with m | m
    · exact hA y m
    · rw [List.mem_singleton.mp m]; exact hz
  rintro q ⟨A, rfl, hA, hl⟩
  simp only [tup_lst, askM, pure_bind]
  exact bk_pure ⟨A, rfl, hA, by omega, by omega⟩
theorem law_ends_okW {h A : List (List Nat)} (hh : Labs h) (hA : Labs A) : m__law_ends_f9cd [hD h, hD A] = .ok (.bl (endsB h A)) := by
  have e := ends_ok hh hA
  rw [← e]
  unfold m__law_ends_f9cd m_ends_with_d715 apR2
  simp only [hD, e__law_ends_f9cd, e_ends_with_d715]
end FN
namespace FN
open DL PySem PySem.W
theorem pool_okX : Bk 70 (m__law_pool_b280 [.int 20]) fun d => ∃ zs : List (List Nat), d = .lst (zs.map .str) ∧ Lab8 zs := by
  refine bk_runM ?_
  simp only [e__law_pool_b280]
  refine bk_then (K1 := 1) (P := fun d => ∃ m : Int, d = .int m ∧ 1 ≤ m ∧ m ≤ 20) ?_ ?_
  · refine bk_iteM (K1 := 1) (bk_then (take_okW (n := 8) (by omega) (by omega)) fun d hd => by
      obtain ⟨j, rfl, _, _⟩ := hd
      exact bk_ask (by rfl) trivial) (bk_pure ⟨20, rfl, by omega, by omega⟩) (bk_pure ⟨2, rfl, by omega, by omega⟩)
  rintro d ⟨m, rfl, m1, m2⟩
  refine bk_then (take_okW (n := 2) (by omega) (by omega)) ?_
  rintro d ⟨k, rfl, k0, k1⟩
  simp only [add_ii, askM, pure_bind]
  rw [rng1_ok (by omega) (by omega)]
  simp only [askM, pure_bind]
  refine bk_then (K1 := 63) (bk_lc (P := fun _ r => ∃ z, r = .str z ∧ isLab 20 z = true) 21 _ (fun d _ => ⟨d, rfl, bk_mono (label_okW m1 m2) fun d hd => ?_⟩) (n := 3) (by rw [range_len]; omega) (by omega)) ?_
  · obtain ⟨z, rfl, hz⟩ := hd
    exact ⟨z, rfl, isLab_up hz (by omega)⟩
  intro rs hrs
  obtain ⟨zs, rfl, hl, hz⟩ := all2_P hrs
  rw [range_len] at hl
  exact bk_pure ⟨zs, rfl, fun e => by rw [e] at hl; simp at hl; omega, by omega, hz⟩
theorem ix_hd {x : D} {xs : List D} : ixD (.tup (x :: xs)) (.int 0) = some x := by
  show ((L2.ixN (x :: xs).length 0).bind fun j => (x :: xs)[j]?) = _
  rw [ixN_ok (by omega) (by simp)]
  rfl
theorem lstrip_ok {z : List Nat} (h : z.length ≤ 1000000) : lstripD (.str z) (.str [33]) = some (.str (z.drop (z.takeWhile fun c => c == 33).length)) := by
  have e : (Txt.lstripChars ⟨z.toArray⟩ ⟨([33] : List Nat).toArray⟩).cps.toList = z.drop (z.takeWhile fun c => c == 33).length := by
    unfold Txt.lstripChars
    rw [PyProof.Rows.stripBy_eq, StrLaws.strSub_toList]
    have e1 : ((⟨([33] : List Nat).toArray⟩ : Str).cps.contains) = fun c => c == 33 := by
      funext c
      show ([33] : List Nat).toArray.contains c = _
      simp
      by_cases q : c = 33 <;> simp [q]
    rw [e1]
    show (z.drop (z.takeWhile fun c => c == 33).length).take (z.length - (z.takeWhile fun c => c == 33).length) = _
    rw [List.take_of_length_le (by rw [List.length_drop]; exact Nat.le_refl _)]
  show (if (Txt.lstripChars ⟨z.toArray⟩ ⟨([33] : List Nat).toArray⟩).cps.toList.length ≤ sizeLine then some (D.str (Txt.lstripChars ⟨z.toArray⟩ ⟨([33] : List Nat).toArray⟩).cps.toList) else none) = _
  rw [e, if_pos (by rw [List.length_drop, sizeLine_eq]; omega)]
def labT (r : Row) : List (List Nat) := match r.1 with
  | .wi => [42] :: r.2
  | _ => r.2
theorem law_split {r : Row} (h : RowOk r) : ∃ t, lstripD (.str (rowT r)) (.str [33]) = some (.str t) ∧ splitD (.str t) (.str [46]) = some ((labT r).map .str) := by
  obtain ⟨k, A⟩ := r
  have tx := row_tx h
  obtain ⟨hA, h1, h2, h3, h4⟩ := h
  dsimp only at hA h1 h2 h3 h4
  have ne : A ≠ [] := fun e => by rw [e] at h1; simp at h1
  obtain ⟨c, r, ej, hc⟩ := head_lab hA h1
  have c33 : (c == 33) = false := by
    have : c ≠ 33 := fun e => by rw [e] at hc; revert hc; decide
    simpa using this
  have ls := lstrip_ok (z := rowT (k, A)) (by have := tx.1; omega)
  cases k with
  | pl =>
    have e : rowT (.pl, A) = c :: r := ej
    refine ⟨joinN [46] A, ?_, split_labs hA h1 (by omega)⟩
    rw [ls, e, List.takeWhile_cons, c33, ← ej]
    rfl
  | wi =>
    refine ⟨rowT (.wi, A), ?_, ?_⟩
    · rw [ls]
      show some (D.str ((42 :: 46 :: joinN [46] A).drop ((42 :: 46 :: joinN [46] A).takeWhile fun c => c == 33).length)) = _
      rw [List.takeWhile_cons]
      rfl
    · have e : rowT (.wi, A) = joinN [46] ([42] :: A) := by
        cases A with
        | nil => exact absurd rfl ne
        | cons a A => rfl
      have hl := tx.1
      rw [e] at hl ⊢
      show (if 46 < 256 ∧ (joinN [46] ([42] :: A)).length ≤ 1000000 then some ((TL.spl [46] 0 [] (joinN [46] ([42] :: A))).map D.str) else none) = _
      rw [if_pos ⟨by omega, by omega⟩, joinN_eq, TL.spl_join (by simp) fun p m => by
        rcases List.mem_cons.mp m with rfl | m
        · decide
        · exact ch_free (by decide) (hA p m)]
      rfl
  | ex =>
    refine ⟨joinN [46] A, ?_, split_labs hA h1 (by omega)⟩
    rw [ls]
    show some (D.str ((33 :: joinN [46] A).drop ((33 :: joinN [46] A).takeWhile fun c => c == 33).length)) = _
    rw [ej, List.takeWhile_cons, List.takeWhile_cons, c33]
    rfl
def HkH (h : Hst) : Prop := Labs h ∧ 1 ≤ h.length ∧ h.length ≤ 20
theorem host_true {h : Hst} (k : HkH h) : m_is_host_45ba [hD h] = .ok (.bl true) := by
  show m_is_host_45ba [.tup (h.map .str)] = _
  rw [is_host_row, row_of k.2.2 k.1]
  cases h with
  | nil => have := k.2.1; simp at this
  | cons _ _ => rfl
end FN
namespace FN
open DL PySem PySem.W
end FN
namespace DL
open PySem L2
end DL
namespace DL
open PySem PySem.Spec PyProof.Rows L2 PySem.SeqAt PySem.MeetsSeq PySem.MeetsSeq2 PySem.MeetsSeq3 PySem.SeqRoads2
section
variable {prog : Program} {w : World} {A : Around} {R : Result → Shared → Prop}
inductive Eqs (prog : Program) (w : World) (A : Around) (J : Shared → Prop) : List (Value × Value) → List Bool → Prop where
  | nil : Eqs prog w A J [] []
  | cons {y x : Value} {r : Bool} {l : List (Value × Value)} {rs : List Bool} (h : ∀ (t : Shared) (E : Value → Shared → Prop) (Q : Bool → Shared → Prop), J t → (∀ t', J t' → Q r t') → wpAny (model prog w) A.in1 (eqBool y x) Q E t)
    (tl : Eqs prog w A J l rs) : Eqs prog w A J ((y, x) :: l) (r :: rs)
theorem Eqs.get {J : Shared → Prop} : ∀ {l : List (Value × Value)} {rs : List Bool} {i : Nat} {y x : Value}, Eqs prog w A J l rs → l[i]? = some (y, x) →
    ∃ r, rs[i]? = some r ∧ ∀ (t : Shared) (E : Value → Shared → Prop) (Q : Bool → Shared → Prop), J t → (∀ t', J t' → Q r t') → wpAny (model prog w) A.in1 (eqBool y x) Q E t
  | _, _, _, _, _, .nil, e => by simp at e
  | _, _, 0, _, _, .cons h _, e => by
    simp at e
    obtain ⟨rfl, rfl⟩ := e
    exact ⟨_, rfl, h⟩
  | _, _, i + 1, _, _, .cons _ tl, e => by
    obtain ⟨r, h1, h2⟩ := tl.get (i := i) (by simpa using e)
    exact ⟨r, by simpa using h1, h2⟩
end
def kdD : D → Nat
  | .non => 0
  | .bl _ => 1
  | .int _ => 2
  | .str _ => 3
  | _ => 4
end DL
namespace DL
open PySem PySem.Spec PyProof.Rows L2
end DL
namespace DL
open PySem PySem.Spec PyProof.Rows L2 StX
section
variable {K : PySem.W.Frag} {mg : Str → Option Value} [DL.TC]
def KwRun {α : Type} (D : Addr) : List (Str × Value) → Sem α → Sem α → Prop
  | [], t, r => t = r
  | q :: l, t, r => ∃ (β γ : Type) (k1 : Option Value → Sem β) (k2 : β → Sem γ) (k3 : γ → Sem α) (a : β), t = ((nsGet D q.1 >>= k1) >>= k2) >>= k3 ∧ k1 (some q.2) = pure a ∧ KwRun D l (k2 a >>= k3) r
theorem KwRun.run {α : Type} {M : Model} {A : Around} {D : Addr} {Q : α → Shared → Prop} {E : Value → Shared → Prop} {s : Shared} (X : K.In s.heap) : ∀ {l : List (Str × Value)} {t r : Sem α}, (∀ q ∈ l, PySem.W.nsIn K D q.1 = some (some q.2)) → KwRun D l t r → wpAny M A r Q E s → wpAny M A t Q E s
  | [], _, _, _, e, h => by rw [show _ = _ from e]; exact h
  | q :: l, t, r, hl, e, h => by
    obtain ⟨β, γ, k1, k2, k3, a, rfl, e2, e3⟩ := e
    have flat : ((nsGet D q.1 >>= k1) >>= k2) >>= k3 = nsGet D q.1 >>= fun o => k1 o >>= fun b => k2 b >>= k3 := by simp only [bind_assoc]
    rw [flat]
    refine wpAny_bind ((PySem.W.looks_nsIn X (hl q (.head _))).at ?_)
    rw [e2, pure_bind]
    exact KwRun.run X (fun q hq => hl q (.tail _ hq)) e3 h
end
end DL
namespace DL
open PySem PySem.Spec PyProof.Rows L2
section
variable {K : PySem.W.Frag} [DL.TC]
theorem xc_of {C : Addr} {b : PySem.OwnX.XB} (h : xcB K C b = true) : ∃ (b : PySem.OwnX.XB) (nm q : Str) (N : Addr) (bs bm : List Value) (sn : List Str) (sub : List Value) (ab : Bool) (col : Option Bool) (dd : Option Addr) (k0 k1 k2 k3 k5 : Option Value),
    K.lookup C = some (excClassObj nm q C N bs bm true sn sub ab col dd k0 k1 k2 k3 k5 b.nw) ∧ PySem.OwnX.overB b bm = true := by
  unfold xcB at h
  split at h
  · rename_i dd cd sl ho
    split at h
    · rename_i C' bm k0 k1 k2 k3 n k5 hm hs
      simp only [Bool.and_eq_true, Bool.not_eq_true', beq_iff_eq] at h
      obtain ⟨⟨rfl, rfl⟩, hd, hh, hb⟩ := h
      obtain ⟨a1, a2, a3, a4, a5, a6, a7, a8, a9, a10, a11⟩ := cd
      simp only at hm hd hh
      subst hm hd hh
      have es : sl = #[k0, k1, k2, k3, some (.builtin b.nw), k5] := by
        have := congrArg List.toArray hs
        simpa using this
      subst es
      exact ⟨b, _, _, _, _, bm, _, _, _, _, dd, k0, k1, k2, k3, k5, ho, hb⟩
    · cases h
  · cases h
end
theorem walk_gE [DL.TC] {l : PySem.W.OpenLaw} {n k : Nat} {q : Program} {loose : List Str} {XP : (Str → Option Value) → Heap → Prop} {YP : World → Heap → Prop} {d : DefRec} {x : Str} {g : List D → R D}
    (hT : TC.T = []) (hn : l.most = some n) (hn2 : n ≤ sizeLine) (hdf : d.params.defaults = []) (hr : Room k callerA)
    (F : ∀ (w : World) (mg : Str → Option Value) (fa : Addr) (h : Heap), YP w h → h.Ns mainGlobals mg → mg d.name = some (.ref fa) →
      ∃ (K : PySem.W.Frag) (fd : FuncData), K.In h ∧ (∀ (s : Shared) (u : Value), BindsTo s fd ⟨[u], []⟩ [(x, u)]) ∧ ∀ base : Heap, K.In base → base.Ns mainGlobals mg → FnG l.prog w K mg base k fa fd [x] (spR K mg false 1 g))
    (hg : ∀ ns : List Int, ns.length ≤ n → g [.scr ns] = .ok (.bl true)) :
    PySem.W.WalkO q loose XP YP l.row.toRowW d [] (fun f vs => PySem.call f vs) := by
  refine Att.attach_call hn hdf fun w s0 s1 mg mb fa o pm cd doc a vs ns G Y ho hd hcd hmg hobj hints hlen hgn => ?_
  obtain ⟨K, fd, KX, hb, hF⟩ := F w mg fa _ Y G.T.g hmg
  exact law_callG hT KX G.T.g G.T.b G.T.builtins G.T.nolimit hgn hobj hints (Nat.le_trans hlen hn2) hr hF hb (hg ns hlen)
end DL
namespace DL
open PySem PySem.Spec PyProof.Rows L2
structure FL (K : PySem.W.Frag) (as : List Addr) (vs : List FnV) : Prop where
  v : as.map (fnV K) = vs
  c : as.all (fcB K) = true
section
variable {K : PySem.W.Frag} {h : Heap} {mg : Str → Option Value} [DL.TC]
theorem ng_ok (X : K.In h) (G : h.Ns mainGlobals mg) {x : Str} (c : ngB K x = true) : mg x = some (.ref (gA K x)) := PySem.W.mg_of X G (of_decide_eq_true c)
theorem nn_ok (X : K.In h) (G : h.Ns mainGlobals mg) {x : Str} (c : nnB K x = true) : mg x = none := PySem.W.mg_none_of X G (of_decide_eq_true c)
theorem all_of {α : Type} {p : α → Bool} {l : List α} (h : l.all p = true) {a : α} (m : a ∈ l) : p a = true := List.all_eq_true.mp h a m
theorem fc_ok {a : Addr} {x qual : Str} {pa : Arguments} {bo : FuncBody} {sc : Scope} {g b : Addr} {cl : List Str} (e : fnV K a = some (x, qual, pa, bo, sc, g, cl, b)) (c : fcB K a = true) : codB K a qual = true ∧ PySem.W.keepIn K (.ref a) = true := by
  unfold fnV at e
  unfold fcB at c
  unfold codB
  cases q : K.lookup a with
  | none => rw [q] at c; cases c
  | some o =>
    obtain ⟨oc, od, dt, osl⟩ := o
    rw [q] at c e
    cases dt with
    | func fd =>
      have e2 : (some (fd.name, fd.qualname, fd.params, fd.body, fd.scope, fd.globals, fd.closure.map (·.1), fd.builtins) : FnV) = some (x, qual, pa, bo, sc, g, cl, b) := e
      simp only [Option.some.injEq, Prod.mk.injEq] at e2
      have c2 := He.ba c
      rw [e2.2.1] at c2
      exact c2
    | _ => cases c
theorem FL.hd {a : Addr} {as : List Addr} {v : FnV} {vs : List FnV} (F : FL K (a :: as) (v :: vs)) : (fnV K a = v ∧ fcB K a = true) ∧ FL K as vs := by
  obtain ⟨v, c⟩ := F
  rw [List.map_cons] at v
  rw [List.all_cons] at c
  obtain ⟨c1, c2⟩ := He.ba c
  exact ⟨⟨(List.cons.inj v).1, c1⟩, (List.cons.inj v).2, c2⟩
theorem FL.fn {a : Addr} {as : List Addr} {x q : Str} {st : Stmt} {vs : List FnV} (F : FL K (a :: as) (fnT x q st [] :: vs)) : ∃ f, Fun K x q st a f ∧ FL K as vs := by
  obtain ⟨⟨v, c⟩, r⟩ := F.hd
  obtain ⟨cc, k⟩ := fc_ok v c
  obtain ⟨oc, od, kV, dc, pm, an, cd, ct, sl, l, q⟩ := fun_of (pa := defArgs st) (bo := defBody st) (sc := defScope st) v cc
  exact ⟨_, fun_mk l q k, r⟩
theorem FL.fs {a : Addr} {as : List Addr} {x q : Str} {st : Stmt} {vs : List FnV} (F : FL K (a :: as) (fnT x q st [] :: vs)) : ∃ (kV dc pm : Value) (an : Option Addr) (cd ct : Value), Fun K x q st a (PySem.W.fnOf x q (defArgs st) (defBody st) (defScope st) .none kV dc pm an cd ct) ∧ FL K as vs := by
  obtain ⟨⟨v, c⟩, r⟩ := F.hd
  obtain ⟨cc, k⟩ := fc_ok v c
  obtain ⟨oc, od, kV, dc, pm, an, cd, ct, sl, l, q⟩ := fun_of (pa := defArgs st) (bo := defBody st) (sc := defScope st) v cc
  exact ⟨_, _, _, _, _, _, fun_mk l q k, r⟩
theorem cl_ok (X : K.In h) (G : h.Ns mainGlobals mg) {c : Str} (e : clB K c = true) : ClsN K mg c (gA K c) := by
  unfold clB at e
  obtain ⟨e1, e⟩ := He.ba e
  obtain ⟨e2, e⟩ := He.ba e
  obtain ⟨e3, e⟩ := He.ba e
  obtain ⟨e4, e⟩ := He.ba e
  obtain ⟨e5, e⟩ := He.ba e
  obtain ⟨e6, e⟩ := He.ba e
  obtain ⟨e7, e⟩ := He.ba e
  obtain ⟨e8, e9⟩ := He.ba e
  exact ⟨ng_ok X G e1, ⟨e2, e3, e4, of_decide_eq_true e5⟩, of_decide_eq_true e6, of_decide_eq_true e7, of_decide_eq_true e8, of_decide_eq_true e9⟩
theorem na_ok {c : Str} {fs : List Str} (e : naB K c fs = true) : ∀ f ∈ fs, NoAttr K (gA K c) f := fun f hf => of_decide_eq_true (p := PySem.W.findIn K (.ref (gA K c)) f = some none) (all_of e hf)
theorem mt_ok {c m : Str} {a : Addr} (e : mtB K c m a = true) : PySem.W.findIn K (.ref (gA K c)) m = some (some (.ref a)) ∧ PySem.W.isFn K (.ref a) = true := ⟨of_decide_eq_true (He.ba e).1, (He.ba e).2⟩
theorem mk_ok {c : Str} (e : mkB K c = true) : Mk K (gA K c) (mA K c "__init__") := ⟨(He.ba (He.ba e).2).1, (mt_ok (He.ba e).1).1, (mt_ok (He.ba e).1).2, (He.ba (He.ba e).2).2⟩
theorem me_ok {c m : Str} {a : Addr} {x q : Str} {st : Stmt} {f : FuncData} (F : Fun K x q st a f) (e : mtB K c m a = true) : Meth K (gA K c) m a := ⟨(mt_ok e).1, (mt_ok e).2, F.kp⟩
theorem eqC_ok (X : K.In h) (G : h.Ns mainGlobals mg) {c : Str} {a : Addr} {cs all : List Str} (hc : all.all (clB K) = true) (hs : ∀ d ∈ cs, d ∈ all) (e : eqB K c a cs = true) : PySem.W.findIn K (.ref (gA K c)) "__eq__" = some (some (.ref a)) ∧ PySem.W.isFn K (.ref a) = true ∧ (∀ T ∈ baseTys, PySem.W.notFirst K (gA K c) (.type T) = true) ∧
    (∀ c' ∈ cs, ∀ C', mg c' = some (.ref C') → PySem.W.notFirst K (gA K c) (.ref C') = true) ∧ PySem.W.findIn K (.ref (gA K c)) "__ne__" = some (some (.builtin "object.__ne__")) := by
  obtain ⟨e1, e⟩ := He.ba e
  obtain ⟨e2, e⟩ := He.ba e
  obtain ⟨e3, e4⟩ := He.ba e
  refine ⟨(mt_ok e1).1, (mt_ok e1).2, fun T hT => all_of e2 hT, fun d hd C' hC => ?_, of_decide_eq_true e4⟩
  have := (cl_ok X G (all_of hc (hs d hd))).mg
  rw [hC] at this
  cases this
  exact all_of e3 hd
theorem isC_ok (X : K.In h) (G : h.Ns mainGlobals mg) {c : Str} {all : List Str} {L : List (Str × Bool)} {B : List (String × Bool)} (hc : all.all (clB K) = true) (hs : ∀ q ∈ L, q.1 ∈ all) (e : isB K c L B = true) : IsT K mg (.ref (gA K c)) L B := by
  obtain ⟨e1, e⟩ := He.ba e
  obtain ⟨e2, e⟩ := He.ba e
  obtain ⟨e3, e⟩ := He.ba e
  obtain ⟨e4, e5⟩ := He.ba e
  exact ⟨fun q hq => ⟨_, cl_ok X G (all_of hc (hs q hq)), kit_subO e1 (of_decide_eq_true e2) (of_decide_eq_true e3) (of_decide_eq_true (all_of e4 hq))⟩, fun q hq => kit_subO e1 (of_decide_eq_true e2) (of_decide_eq_true e3) (of_decide_eq_true (all_of e5 hq))⟩
theorem FL.own (X : K.In h) (G : h.Ns mainGlobals mg) {x f q : Str} {b : PySem.OwnX.XB} {p1 p2 q1 q2 q3 q4 : Pos} {as : List Addr} {vs : List FnV} (F : FL K (mA K x "__init__" :: as) (some ("__init__", q, PySem.OwnX.iA f p1 p2, .stmts (PySem.OwnX.iB f q1 q2 q3 q4), PySem.OwnX.iS f, mainGlobals, [], builtinsNs) :: vs)) (e : xB K x f b = true)
    (fs : (f == ("self" : Str)) = false) (fb : (f == ("__debug__" : Str)) = false) (bd : ∀ (doc pm : Value) (an : Option Addr) (cdv ct u v : Value) (p1 p2 q1 q2 q3 q4 : Pos), bindArgs (PySem.W.fnOf "__init__" q (PySem.OwnX.iA f p1 p2) (PySem.OwnX.iB f q1 q2 q3 q4) (PySem.OwnX.iS f) .none .none doc pm an cdv ct) ⟨[u, v], []⟩ = pure [(("self" : Str), u), (f, v)]) :
    PySem.OwnX.OwnTxt K mg x f q (gA K x) (mA K x "__init__") ∧ FL K as vs := by
  obtain ⟨⟨v, c⟩, r⟩ := F.hd
  obtain ⟨cc, k⟩ := fc_ok v c
  unfold xB at e
  obtain ⟨e1, e⟩ := He.ba e
  obtain ⟨e2, e⟩ := He.ba e
  obtain ⟨e3, e⟩ := He.ba e
  obtain ⟨e4, e⟩ := He.ba e
  obtain ⟨e5, e⟩ := He.ba e
  obtain ⟨e6, e⟩ := He.ba e
  obtain ⟨e7, e⟩ := He.ba e
  obtain ⟨e8, e⟩ := He.ba e
  obtain ⟨e9, e⟩ := He.ba e
  obtain ⟨e10, e⟩ := He.ba e
  obtain ⟨e11, e⟩ := He.ba e
  obtain ⟨e12, e⟩ := He.ba e
  obtain ⟨e13, e⟩ := He.ba e
  obtain ⟨e14, e15⟩ := He.ba e
  obtain ⟨oc, od, dc, pm, an, cd, ct, sl, l, q⟩ := funN_of v cc e15
  exact ⟨{ fs := fs, fb := fb, bind := bd, gC := ng_ok X G e1, cls := xc_of e2, sa := of_decide_eq_true e3, ga := of_decide_eq_true e4, gg := of_decide_eq_true e5, noN := of_decide_eq_true e6, iC := of_decide_eq_true e7, tC := of_decide_eq_true e8, kC := e9, exC := of_decide_eq_true e10, tyC := of_decide_eq_true e11, hdC := e12, te := exm_self (of_decide_eq_true e10) e13 (of_decide_eq_true e11) (of_decide_eq_true e14), fn := ⟨oc, od, dc, pm, an, cd, ct, sl, _, _, _, _, _, _, l, q⟩ }, r⟩
theorem gs_ok (X : K.In h) (G : h.Ns mainGlobals mg) {c s : Str} {l : List Nat} (e : gsB K c s = true) (hs : s = ⟨l.toArray⟩) (hl : l.length ≤ 1000) : GlobIs K mg c (.str l) := by
  obtain ⟨t, e⟩ := strB_ok e
  exact globS (PySem.W.mg_of X G e) hs hl
theorem gi_ok (X : K.In h) (G : h.Ns mainGlobals mg) {c : Str} {i : Int} (e : giB K c i = true) : GlobIs K mg c (.int i) := by
  obtain ⟨t, e⟩ := intB_ok e
  exact globI (PySem.W.mg_of X G e)
end
end DL
namespace DL
open PySem L2
end DL
namespace FN
open DL PySem PySem.W
theorem lc_mapG {α : Type} {xe : D → M D} (g f : α → D) : ∀ (as : List α), (∀ a ∈ as, xe (g a) = pure (f a)) → lcF (fun d => some d) (fun _ => (pure true : M Bool)) xe (as.map g) = pure (as.map f)
  | [], _ => rfl
  | a :: as, h => by
    rw [List.map_cons]
    unfold lcF
    simp only [askM, pure_bind, noex_M, if_true, h a (.head _), lc_mapG g f as (fun x m => h x (.tail _ m))]
    rfl
theorem ix_map {α : Type} {f : α → D} {as : List α} {k : Nat} (h : k < as.length) : ixD (.lst (as.map f)) (.int ((0 : Int) + (k : Int))) = some (f as[k]) := by
  rw [ix_lst (by omega) (by rw [List.length_map]; omega)]
  have e : ((0 : Int) + (k : Int)).toNat = k := by omega
  simp [e]
end FN
namespace FN
open DL PySem PySem.W
end FN
namespace DL
open PySem PySem.Spec PyProof.Rows L2
end DL
namespace DL
open PySem PySem.Spec PyProof.Rows L2
end DL
namespace DL
open PySem PySem.Spec PyProof.Rows L2
end DL
namespace DL
open PySem PySem.Spec PyProof.Rows L2
end DL
namespace DL
open PySem PySem.Spec PyProof.Rows L2
def isTup1 : PyData → Bool
  | .tuple (_ :: _) => true
  | _ => false
def isFlat1 : PyData → Bool
  | .none => false
  | .tuple _ => false
  | _ => true
def keysOk (ks : List PyData) : Bool := (ks.all fun a => ks.all fun b => PySem.W.alike a b) && (ks.all isTup1 || ks.all isFlat1) && ks.all fun d => decide (d.depth ≤ 60)
def sortK (ps : List (D × PyData)) : List D := (ps.mergeSort (fun p q => !PySem.W.dataLt q.2 p.2)).map Prod.fst
def sortedK (ds : List D) (ps : List PyData) : Option D := if keysOk ps = true ∧ ds.length = ps.length ∧ ds.length ≤ sizeLine then some (.lst (sortK (ds.zip ps))) else none
theorem keysOk_iff {ks : List PyData} (h : keysOk ks = true) : PySem.W.AllAlike ks ∧ PySem.W.Sortable ks ∧ ∀ d ∈ ks, d.depth ≤ 60 := by
  unfold keysOk at h
  simp only [Bool.and_eq_true, Bool.or_eq_true, List.all_eq_true, decide_eq_true_eq] at h
  obtain ⟨⟨h1, h2⟩, h3⟩ := h
  refine ⟨fun a ha b hb => h1 a ha b hb, ?_, h3⟩
  rcases h2 with h2 | h2
  · refine .inl fun d hd => ?_
    have z := h2 d hd
    cases d with
    | tuple xs =>
      cases xs with
      | nil => cases z
      | cons x r => exact ⟨x, r, rfl⟩
    | _ => cases z
  · refine .inr fun d hd => ?_
    have z := h2 d hd
    cases d with
    | none => cases z
    | tuple xs => cases z
    | _ => exact ⟨(fun q => by cases q), (fun xs q => by cases q)⟩
theorem dataLe_snd : (PySem.W.dataLe false (fun p : D × PyData => p.2)) = fun p q => !PySem.W.dataLt q.2 p.2 := by
  rw [PySem.W.dataLe_eq]
  funext a b
  rfl
section
variable {K : PySem.W.Frag} {mg : Str → Option Value} [DL.TC]
def RIs (Hf : Hp) (v : Value) (d : D) : Prop := ∃ x, RelV x v ∧ Is K mg Hf d x
theorem each_of : ∀ {ds : List D} {vs : List V} {us : List Value} {ps : List PyData} {Hf : Hp}, IsL K mg Hf ds vs → Vals vs us → ds.length = ps.length → PySem.W.EachIs (fun u (p : D × PyData) => RIs (K := K) (mg := mg) Hf u p.1) us (ds.zip ps)
  | [], _, _, [], _, l, r, _ => by
    cases l; cases r
    exact .nil
  | [], _, _, _ :: _, _, _, _, h => by simp at h
  | _ :: _, _, _, [], _, _, _, h => by simp at h
  | d :: ds, _, _, p :: ps, _, l, r, h => by
    obtain ⟨v, vs', rfl, i, l'⟩ := l
    cases r with
    | cons rx rr => exact .cons ⟨v, rx, i⟩ (each_of l' rr (by simpa using h))
theorem vals_of : ∀ {us : List Value} {qs : List (D × PyData)} {Hf : Hp}, PySem.W.EachIs (fun u (p : D × PyData) => RIs (K := K) (mg := mg) Hf u p.1) us qs → ∃ vs, Vals vs us ∧ IsL K mg Hf (qs.map Prod.fst) vs
  | _, _, _, .nil => ⟨[], .nil, rfl⟩
  | _, _, _, .cons ⟨x, rx, i⟩ t => by
    obtain ⟨vs, r, l⟩ := vals_of t
    exact ⟨x :: vs, .cons rx r, .cons i l⟩
end
theorem zip_snd {α β : Type} : ∀ {xs : List α} {ys : List β}, xs.length = ys.length → (xs.zip ys).map Prod.snd = ys
  | [], [], _ => rfl
  | [], _ :: _, h => by simp at h
  | _ :: _, [], h => by simp at h
  | x :: xs, y :: ys, h => by simp [zip_snd (xs := xs) (ys := ys) (by simpa using h)]
end DL
namespace DL
open PySem PySem.Spec PyProof.Rows L2
section
variable {X : Cx} {pins : List (Addr × Obj)} {σ : L2.St} {H H' : Hp} {s : Shared} {h' : Heap} {a : Addr} [DL.TC]
theorem invAdopt {o : HO} (I : L2.Inv X pins σ H s) (hn : H a = none) (hL : a ≠ X.env.locals) (hs : X.s_0.heap.objs.size ≤ a) (hc : ∀ x c, X.env.cells.lookup x = some c → c ≠ a) (hp : ∀ p ∈ X.pn ++ pins, p.1 ≠ a) (new : ObjOk X.prog X.w (upd H a o) s.heap a o) : L2.Inv X pins σ (upd H a o) s := by
  have ne : ∀ b u, X.s_0.heap.get? b = some u → b ≠ a := fun b u e z => by
    have q := Heap.lt_size e
    rw [z] at q
    exact absurd (Nat.lt_of_lt_of_le q hs) (Nat.lt_irrefl _)
  have nt : ∀ b u, H b = some u → b ≠ a := fun b u e z => by rw [z, hn] at e; cases e
  refine ⟨I.ok, I.os, I.bare, ⟨I.base.keep, I.base.slot, fun b u e n hx => ?_, I.base.there, fun b xs e => ?_, fun b u xs e => ?_, fun b ps e => ?_⟩, I.loc, I.cell, ?_, fun x c e => ?_, fun p hpp => ?_, fun b u e => ?_, I.len⟩
  · rw [upd_ne (ne b u e)]; exact I.base.free b u e n hx
  · have z := I.base.tups b xs e
    rw [upd_ne (nt _ _ z)]; exact z
  · have z := I.base.frzs b u xs e
    rw [upd_ne (nt _ _ z)]; exact z
  · obtain ⟨m, z⟩ := I.base.tbls b ps e
    exact ⟨m, by rw [upd_ne (nt _ _ z)]; exact z⟩
  · rw [upd_ne (Ne.symm hL)]; exact I.free
  · rw [upd_ne (hc x c e)]; exact I.freeC x c e
  · obtain ⟨e, n, q⟩ := I.pin p hpp
    exact ⟨e, by rw [upd_ne (hp p hpp)]; exact n, q⟩
  · by_cases z : b = a
    · subst z
      rw [upd_same] at e
      cases e
      exact new
    · rw [upd_ne z] at e
      exact (I.hok b u e).stay (fun _ _ _ q => q) (fun c q => by rw [upd_ne (nt _ _ q)]; exact q) fun c xs q => by rw [upd_ne (nt _ _ q)]; exact q
theorem invTurned2 {t' : Nat} {c1 c2 : Addr} (I : L2.Inv X pins σ H s) (k : ∀ b o, b ≠ c1 → b ≠ c2 → s.heap.get? b = some o → h'.get? b = some o) (hc : ∀ b, b = c1 ∨ b = c2 → H b = none ∧ b ≠ X.env.locals ∧ X.s_0.heap.objs.size ≤ b ∧ (∀ x c, X.env.cells.lookup x = some c → c ≠ b) ∧ ∀ p ∈ X.pn ++ pins, p.1 ≠ b) :
    L2.Inv X pins σ H { s with heap := h', toks := t' } := by
  have nit : ∀ b u, H b = some u → b ≠ c1 ∧ b ≠ c2 := fun b u e => ⟨(fun z => by rw [z, (hc c1 (.inl rfl)).1] at e; cases e), (fun z => by rw [z, (hc c2 (.inr rfl)).1] at e; cases e)⟩
  have kk : ∀ b o, b ∉ [c1, c2] → s.heap.get? b = some o → h'.get? b = some o := fun b o z e => k b o (fun q => z (by simp [q])) (fun q => z (by simp [q])) e
  refine I.step (g' := s.gens) (d' := s.drawn) (ch := [c1, c2]) (fun b hb => ?_) (fun b o _ _ hc' e _ => kk b o hc' e) (fun b o _ _ hc' e _ => ⟨o.slots, kk b o hc' e⟩) (fun _ _ _ _ n => n)
    (fun b o hc' e => ⟨o, kk b o hc' e⟩) (fun _ _ e => e) (fun _ _ _ e => e) (fun b ps e => ⟨#[], by rw [e]; simp⟩) (fun m hm => ?_) (fun b u e => ?_) I.bare
  · have e : b = c1 ∨ b = c2 := by simpa using hb
    obtain ⟨_, q1, q2, q3, q4⟩ := hc b e
    exact ⟨.inr q2, q1, q3, q4⟩
  · obtain ⟨o, es, ep, ho, r⟩ := hm
    exact ⟨o, es, ep, k _ o (Ne.symm (hc c1 (.inl rfl)).2.1) (Ne.symm (hc c2 (.inr rfl)).2.1) ho, r⟩
  · refine (I.hok b u e).stay (fun c v hc' q => k c v ?_ ?_ q) (fun _ q => q) fun _ _ q => q
    · rcases hc' with z | z
      · rw [z]; exact (nit b u e).1
      · exact (nit c _ z).1
    · rcases hc' with z | z
      · rw [z]; exact (nit b u e).2
      · exact (nit c _ z).2
end
def mapO (g : List D → R D) : List D → Option (List D)
  | [] => some []
  | d :: ds => (toO (g [d])).bind fun x => (mapO g ds).map fun xs => x :: xs
def sortedKD (g : List D → R D) : D → Option D
  | .lst ds => (mapO g ds).bind fun ks => (toPyL ks).bind fun ps => sortedK ds ps
  | _ => none
theorem mapO_get {g : List D → R D} : ∀ {ds ks : List D} {i : Nat} {d : D}, mapO g ds = some ks → ds[i]? = some d → ∃ k, ks[i]? = some k ∧ toO (g [d]) = some k
  | [], _, _, _, _, e => by simp at e
  | x :: xs, ks, i, d, h, e => by
    unfold mapO at h
    cases q : toO (g [x]) with
    | none => rw [q] at h; cases h
    | some k =>
      rw [q] at h
      cases q2 : mapO g xs with
      | none => rw [q2] at h; cases h
      | some ks' =>
        rw [q2] at h
        cases h
        cases i with
        | zero => simp at e; subst e; exact ⟨k, rfl, q⟩
        | succ i => simpa using mapO_get (i := i) q2 (by simpa using e)
theorem mapO_len {g : List D → R D} : ∀ {ds ks : List D}, mapO g ds = some ks → ks.length = ds.length
  | [], _, h => by cases h; rfl
  | x :: xs, ks, h => by
    unfold mapO at h
    cases q : toO (g [x]) with
    | none => rw [q] at h; cases h
    | some k =>
      rw [q] at h
      cases q2 : mapO g xs with
      | none => rw [q2] at h; cases h
      | some ks' =>
        rw [q2] at h
        cases h
        simp [mapO_len q2]
theorem isl_snoc {K : PySem.W.Frag} {mg : Str → Option Value} {H : Hp} {ds : List D} {vs : List V} {d : D} {v : V} (l : IsL K mg H ds vs) (i : Is K mg H d v) : IsL K mg H (ds ++ [d]) (vs ++ [v]) := l.app (.cons i .nil)
theorem toPyL_each [DL.TC] {X : Cx} {pins : List (Addr × Obj)} {σ : L2.St} {H Hf : Hp} {s : Shared} (I : L2.Inv X pins σ H s) (sb : Sub Hf H) : ∀ {ds : List D} {ws : List V} {us : List Value} {ps : List PyData}, IsL X.K X.mg Hf ds ws → Vals ws us → toPyL ds = some ps → PySem.W.EachIs (fun v (b : PyData) => ∃ as, Reads s.heap v b as) us ps
  | [], _, _, _, l, r, e => by
    cases l; cases r
    unfold toPyL at e
    cases e
    exact .nil
  | d :: ds, _, _, _, l, r, e => by
    obtain ⟨v, vs', rfl, i, l'⟩ := l
    unfold toPyL at e
    cases q : toPy d with
    | none => rw [q] at e; cases e
    | some x =>
      cases q2 : toPyL ds with
      | none => rw [q, q2] at e; cases e
      | some ys =>
        rw [q, q2] at e; cases e
        cases r with
        | cons rx rr => exact .cons (Dp.reads I x v _ ((i.mono sb).dp q) rx) (toPyL_each I sb l' rr q2)
theorem keepsBut_hide {h : Heap} {a c : Addr} : PySem.W.KeepsBut a (PySem.W.hideAll h [c]) h := fun _ _ _ e => PySem.W.of_hideAll _ e
section
variable {X : Cx} {k : Nat} [DL.TC]
theorem sorted_key_runA {f : Addr} {g : List D → R D} {pins : List (Addr × Obj)} {σ : L2.St} {H Hf : Hp} {s : Shared} {Q : VK} {l : Addr} {es ks : List D} {ps : List PyData} {vs : List V} (hrun : ∀ {pins' : List (Addr × Obj)} {s' : Shared} {Hf1 H1 : Hp} {d kd : D} {v : V} {x : Value}, L2.Inv X pins' σ H1 s' → Ste [] Hf H Hf1 H1 → Is X.K X.mg Hf1 d v → L2.RelV v x → toO (g [d]) = some kd → wpAny (model X.prog X.w) X.A.in1.in1 (call (.ref f) [x]) (EP X pins' σ fun u H2 => ∃ Hf2, Ste [] Hf1 H1 Hf2 H2 ∧ Is X.K X.mg Hf2 kd u) (fun _ _ => False) s') (hr : Room (k + 1) X.A)
    (I : L2.Inv X pins σ H s) (sb : Sub Hf H) (hl : SqL X.K H l vs) (lv : IsL X.K X.mg Hf es vs) (hm : mapO g es = some ks) (hp : toPyL ks = some ps) (hk : keysOk ps = true) (hz : es.length ≤ sizeLine)
    (q : ∀ p ys Hf' H', Ste [] Hf H Hf' H' → H p = none → H' p = some (.lst ys) → Hf' p = none → IsL X.K X.mg Hf' (sortK (es.zip ps)) ys → ys.length ≤ sizeLine → Q (.ref p) H') : wpAny (model X.prog X.w) X.A (call (.builtin "sorted") [.ref l] [(Str.ofString "key", .ref f)]) (EP X pins σ Q) X.xe s := by
  obtain ⟨h1, h2, h3⟩ := keysOk_iff hk
  obtain ⟨its, rv, p, hz2⟩ := I.list hl
  have hil : its.length = es.length := by rw [← rv.length, ← lv.len]
  have hil2 : its.length ≤ sizeLine := by rw [hil]; exact hz
  have hkl : ks.length = es.length := mapO_len hm
  have hpl : ps.length = ks.length := by
    have : ∀ {xs : List D} {ys : List PyData}, toPyL xs = some ys → ys.length = xs.length := by
      intro xs
      induction xs with
      | nil => intro ys e; unfold toPyL at e; cases e; rfl
      | cons x xs ih =>
        intro ys e
        unfold toPyL at e
        cases q : toPy x with
        | none => rw [q] at e; cases e
        | some y =>
          cases q2 : toPyL xs with
          | none => rw [q, q2] at e; cases e
          | some zs => rw [q, q2] at e; cases e; simp [ih q2]
    exact this hp
  refine PySem.W.sorted_of_sort p.isList hil2 (ksk_s1 _ _) (fun x => ksk_l1 _ _) fun E' => ?_
  rw [ksk_t1]
  -- the list's own object, the keys' store
  have hL : s.heap.objs.size + 1 ≠ X.env.locals := fun z => absurd I.lt (by rw [← z]; exact Nat.not_lt.mpr (Nat.le_succ _))
  generalize ha : s.heap.objs.size + 1 = a at *
  have ho : (PySem.W.copyHeap s.heap its).get? a = some (seqObj "list" its.toArray 0) := by rw [← ha]; exact PySem.W.copyHeap_at s.heap its
  have hac : a < (PySem.W.copyHeap s.heap its).objs.size := Heap.lt_size ho
  obtain ⟨e1, ho1⟩ : ∃ e1, ((PySem.W.copyHeap s.heap its).update a (Obj.mapSeq fun _ => (#[] : Array Value))).get? a = some (seqObj "list" #[] e1) := ⟨_, get?_update_seq ho fun _ => #[]⟩
  have hkS : (((PySem.W.copyHeap s.heap its).update a (Obj.mapSeq fun _ => (#[] : Array Value))).push (seqObj "tuple" its.toArray 0)).objs.size = (PySem.W.copyHeap s.heap its).objs.size + 1 := by rw [size_push', Heap.size_update]
  unfold ksk_tree
  refine wpAny_bind (listItems_at ho rfl ?_)
  refine wpAny_bind (listUpdate_at ho rfl ?_ (by rw [List.size_toArray]; exact hil2) (Nat.zero_le _))
  refine wpAny_bind (seqEpoch_at ho1 rfl ?_)
  refine wpAny_bind (wpAny_newTuple ?_ (by show its.length ≤ _; exact hil2))
  refine wpAny_bind (wpAny_newList ?_ (Nat.zero_le _))
  refine wpAny_holding ?_
  show wpAny _ _ (ksk_rest a (.ref f) false its.toArray e1 (.ref (((PySem.W.copyHeap s.heap its).update a (Obj.mapSeq fun _ => (#[] : Array Value))).push (seqObj "tuple" its.toArray 0)).objs.size)) _ _ { s with heap := PySem.W.sortingHeap (PySem.W.copyHeap s.heap its) a its }
  have hkeep : ∀ b o, s.heap.get? b = some o → (PySem.W.sortingHeap (PySem.W.copyHeap s.heap its) a its).get? b = some o := fun b o e => PySem.W.sortingHeap_old (fun z => absurd (Heap.lt_size e) (by rw [z, ← ha]; exact Nat.not_lt.mpr (Nat.le_succ _))) (PySem.W.copyHeap_old e)
  have I1 : L2.Inv X pins σ H { s with heap := PySem.W.sortingHeap (PySem.W.copyHeap s.heap its) a its } := I.kept (t' := s.toks) hkeep
  have hna : (PySem.W.sortingHeap (PySem.W.copyHeap s.heap its) a its).get? a = some (seqObj "list" #[] e1) := Heap.get?_push_of_some _ (Heap.get?_push_of_some _ ho1)
  have hnk : (PySem.W.sortingHeap (PySem.W.copyHeap s.heap its) a its).get? (((PySem.W.copyHeap s.heap its).update a (Obj.mapSeq fun _ => (#[] : Array Value))).push (seqObj "tuple" its.toArray 0)).objs.size = some (seqObj "list" #[] 0) := Heap.get?_push_size _ rfl
  generalize hkk : (((PySem.W.copyHeap s.heap its).update a (Obj.mapSeq fun _ => (#[] : Array Value))).push (seqObj "tuple" its.toArray 0)).objs.size = kS at *
  generalize PySem.W.sortingHeap (PySem.W.copyHeap s.heap its) a its = g0 at *
  have hka : kS ≠ a := by omega
  have fresh : ∀ b, b = kS ∨ b = a → H b = none ∧ b ≠ X.env.locals ∧ X.s_0.heap.objs.size ≤ b ∧ (∀ x c, X.env.cells.lookup x = some c → c ≠ b) ∧ (∀ p ∈ X.pn ++ pins, p.1 ≠ b) ∧ b ∉ X.fs := by
    intro b hb
    have hlt : s.heap.objs.size ≤ b := by
      have q1 : s.heap.objs.size ≤ a := by rw [← ha]; exact Nat.le_succ _
      rcases hb with rfl | rfl
      · rw [hkS]; exact Nat.le_trans q1 (Nat.le_succ_of_le (Nat.le_of_lt hac))
      · exact q1
    have nlt : ¬ b < s.heap.objs.size := Nat.not_lt.mpr hlt
    refine ⟨I.hok.fresh hlt, fun z => ?_, Nat.le_trans I.sz hlt, fun x c e z => ?_, fun p hp z => ?_, I.nofs hlt⟩
    · exact nlt (by rw [z]; exact I.lt)
    · obtain ⟨v, o, hoo, _⟩ := I.cell x c e
      exact nlt (by rw [← z]; exact Heap.lt_size hoo)
    · exact nlt (by rw [← z]; exact Heap.lt_size (I.pin p hp).1)
  have pinsOk : ∀ {H1 : Hp} {s1 : Shared} {kA : Array Value} {e : Nat}, L2.Inv X pins σ H1 s1 → H1 a = none → H1 kS = none → s1.heap.get? a = some (seqObj "list" #[] e1) → s1.heap.get? kS = some (seqObj "list" kA e) → L2.Inv X (pins ++ [(a, seqObj "list" #[] e1), (kS, seqObj "list" kA e)]) σ H1 s1 := by
    intro H1 s1 kA e J n1 n2 g1 g2
    refine J.pins_of fun p hp => ?_
    rcases List.mem_append.mp hp with hp | hp
    · exact J.pin p (List.mem_append_right _ hp)
    · simp only [List.mem_cons, List.not_mem_nil, or_false] at hp
      rcases hp with rfl | rfl
      · obtain ⟨_, f1, _, _, _, f2⟩ := fresh a (.inr rfl)
        exact ⟨g1, n1, f1, f2, fun v z => by cases z⟩
      · obtain ⟨_, f1, _, _, _, f2⟩ := fresh kS (.inl rfl)
        exact ⟨g2, n2, f1, f2, fun v z => by cases z⟩
  unfold ksk_rest
  refine wpAny_bind (wpAny_rule ?_)
  first
    | rw [List.forIn_toArray]
    | (rw [← Array.forIn_toList]; simp only [List.toList_toArray])
    | rw [← Array.forIn_toList]
  refine wpAny_bind (ksk_fold (fun i s' => ∃ Hf1 H1 kA e kvs, L2.Inv X pins σ H1 s' ∧ Ste [] Hf H Hf1 H1 ∧ H1 a = none ∧ H1 kS = none ∧ s'.heap.get? a = some (seqObj "list" #[] e1) ∧ s'.heap.get? kS = some (seqObj "list" kA e) ∧ Vals kvs kA.toList ∧ IsL X.K X.mg Hf1 (ks.take i) kvs) its 0 { s with heap := g0 }
    ⟨Hf, H, #[], 0, [], I1, .refl sb, (fresh a (.inr rfl)).1, (fresh kS (.inl rfl)).1, hna, hnk, .nil, by rw [List.take_zero]; exact rfl⟩ ?step ?done)
  case step =>
    rintro j x s' hx ⟨Hf1, H1, kA, e, kvs, J, st, n1, n2, g1, g2, kr, kl⟩
    simp only [Nat.zero_add] at kl ⊢
    obtain ⟨v, hv, rx⟩ : ∃ v, vs[j]? = some v ∧ RelV v x := by
      have hj : j < vs.length := by rw [rv.length]; exact (List.getElem?_eq_some_iff.mp hx).1
      obtain ⟨u, e1, e2⟩ := rv.get (List.getElem?_eq_getElem hj)
      rw [hx] at e1
      cases e1
      exact ⟨_, List.getElem?_eq_getElem hj, e2⟩
    obtain ⟨d, hd, id⟩ := lv.getV hv
    obtain ⟨kd, hkd, ek⟩ := mapO_get hm hd
    have J' := pinsOk J n1 n2 g1 g2
    refine wpAny_bind (wpAny_attempt (wpAny_mono (hrun J' st (id.mono st.sub) rx ek) (fun w s'' hw => ?_) fun _ _ z => z.elim))
    obtain ⟨u, H2, J2, ru, Hf2, st2, i2⟩ := hw
    try dsimp only
    have pa := J2.pin (a, seqObj "list" #[] e1) (by simp)
    have pk := J2.pin (kS, seqObj "list" kA e) (by simp)
    have hz' : kA.size ≤ its.length := by
      have e1 := kr.length
      have e2 := kl.len
      rw [List.length_take] at e2
      have e3 : kA.toList.length = kA.size := Array.length_toList
      omega
    have s1 := Heap.SameBut.update s''.heap kS (Obj.mapSeq (·.push w))
    obtain ⟨c2, hc2⟩ : ∃ c2, (s''.heap.update kS (Obj.mapSeq (·.push w))).get? kS = some (seqObj "list" (kA.push w) c2) := ⟨_, get?_update_seq pk.1 (·.push w)⟩
    have ea : (kA.push w).toList = kA.toList ++ [w] := by simp
    have ek2 : ks.take (j + 1) = ks.take j ++ [kd] := by rw [List.take_add_one, hkd]; simp
    refine wpAny_bind (listUpdate_at pk.1 rfl ?_ (Nat.le_trans hz' hil2) (Nat.le_trans (Nat.le_of_eq (Array.size_push ..)) (Nat.succ_le_succ (Nat.le_trans hz' hil2))))
    obtain ⟨f0, f1, f2, f3, f4, f5⟩ := fresh kS (.inl rfl)
    have J3 : L2.Inv X pins σ H2 { s'' with heap := s''.heap.update kS (Obj.mapSeq (·.push w)), toks := s''.toks } := J2.unpinned.turned (it := kS) (fun b o hb e => (s1.2 b hb).trans e) pk.2.1 f1 (.inr f2) f3 f4
    refine wpAny_pure ⟨rfl, Hf2, H2, kA.push w, c2, kvs ++ [u], J3, st.trans st2, pa.2.1, pk.2.1, (s1.2 a hka.symm).trans pa.1, hc2, ?_, ?_⟩
    · rw [ea]; exact kr.append (.cons ru .nil)
    · rw [ek2]; exact isl_snoc (kl.mono st2.sub) i2
  case done =>
    rintro s' ⟨Hf1, H1, kA, e, kvs, J, st, n1, n2, g1, g2, kr, kl⟩
    have e3 : ks.take (0 + its.length) = ks := List.take_of_length_le (by omega)
    rw [e3] at kl
    have hsz : kA.size = its.length := by
      have e1 := kr.length
      have e2 := kl.len
      have e4 : kA.toList.length = kA.size := Array.length_toList
      omega
    have hreads := toPyL_each J st.top kl kr hp
    try dsimp only
    refine wpAny_bind (listItems_at g2 rfl ?_)
    have S := PySem.W.SortsAt.data (prog := X.prog) (w := X.w) (A := X.A.in1.in1) (s := s') hreads h1 h2 (fun d hd => by have := h3 d hd; have := hr.un; show X.A.units + 1 + 1 + d.depth < _; omega)
    refine PySem.W.keyH_end (h₁ := PySem.W.hideAll s'.heap [kS]) (κ := PySem.W.dataKind s'.heap ps) keepsBut_hide (PySem.W.hideAll_none _ (by simp)) g2 g1 hka S hsz hil2 fun h' tk c kp ha' => ⟨rfl, ?_⟩
    have ko : PySem.W.KeyedOut false ((es.zip ps).map fun p => p.2) its (PySem.W.sortVals (PySem.W.dataKind s'.heap ps) false kA.toList its) := by
      rw [zip_snd (by omega)]
      exact ⟨s'.heap, kA.toList, h1, rfl, hreads⟩
    have eo := PySem.W.keyedOut_each (fun p : D × PyData => p.2) ko (each_of (K := X.K) (mg := X.mg) (lv.mono st.sub) rv (by omega))
    obtain ⟨ys, ry, ly⟩ := vals_of eo
    have hol : (PySem.W.sortVals (PySem.W.dataKind s'.heap ps) false kA.toList its).length = its.length := PySem.W.sortVals_length false (by rw [Array.length_toList]; exact hsz)
    have hsy : ys.length ≤ sizeLine := by rw [ry.length, hol]; exact hil2
    have J2 : L2.Inv X pins σ H1 { s' with heap := h', toks := tk } := invTurned2 (c1 := a) (c2 := kS) J (fun b o b1 b2 e => kp b o b1 (PySem.W.hideAll_get _ e (by simpa using b2))) fun b hb => by
      rcases hb with rfl | rfl
      · obtain ⟨_, f1, f2, f3, f4, _⟩ := fresh b (.inr rfl); exact ⟨n1, f1, f2, f3, f4⟩
      · obtain ⟨_, f1, f2, f3, f4, _⟩ := fresh b (.inl rfl); exact ⟨n2, f1, f2, f3, f4⟩
    obtain ⟨f0, f1, f2, f3, f4, _⟩ := fresh a (.inr rfl)
    have J3 := invAdopt (o := .lst ys) J2 n1 f1 f2 f3 f4 ⟨hsy, _, c, ry, ha'⟩
    have hf1 : Hf1 a = none := st.top.none n1
    refine ⟨.ref a, _, J3, rfl, q a ys Hf1 _ (st.trans ?_) f0 upd_same hf1 ?_ hsy⟩
    · refine ⟨.refl _, fun b o e => ?_, fun b o e _ _ => ?_, fun b e => ?_, fun b o e => .inl e, fun t => t.new n1⟩
      · rw [upd_ne (fun z => by rw [z, hf1] at e; cases e)]; exact st.top b o e
      · rw [upd_ne (fun z => by rw [z, n1] at e; cases e)]; exact e
      · by_cases z : b = a
        · rw [z, upd_same]; simp
        · rw [upd_ne z]; exact e
    · have ly' : IsL X.K X.mg Hf1 (sortK (es.zip ps)) ys := by
        unfold sortK
        rw [← dataLe_snd]
        exact ly
      exact ly'
theorem sorted_key_run {f : Addr} {g : List D → R D} {pins : List (Addr × Obj)} {σ : L2.St} {H Hf : Hp} {s : Shared} {Q : VK} {l : Addr} {es ks : List D} {ps : List PyData} {vs : List V} (F : FnP X.prog X.w X.K X.mg X.base k f [] (spR X.K X.mg false 1 g)) (hg : X.A.guards = some []) (hr : Room (k + 1) X.A)
    (I : L2.Inv X pins σ H s) (sb : SubT Hf H) (hl : SqL X.K H l vs) (lv : IsL X.K X.mg Hf es vs) (hm : mapO g es = some ks) (hp : toPyL ks = some ps) (hk : keysOk ps = true) (hz : es.length ≤ sizeLine)
    (q : ∀ p ys Hf' H', Ste [] Hf H Hf' H' → H p = none → H' p = some (.lst ys) → Hf' p = none → IsL X.K X.mg Hf' (sortK (es.zip ps)) ys → ys.length ≤ sizeLine → Q (.ref p) H') : wpAny (model X.prog X.w) X.A (call (.builtin "sorted") [.ref l] [(Str.ofString "key", .ref f)]) (EP X pins σ Q) X.xe s := by
  refine sorted_key_runA (k := k) (fun {pins' s' Hf1 H1 d kd v x} J st id rx ek => ?_) hr I sb.s hl lv hm hp hk hz q
  have e0 : Env0 X.prog X.w X.K X.mg X.base X.A.in1.in1 X.stack s' H1 := by
    have e := J.env0
    exact ⟨e.frames, e.mod, e.bs, e.bsz, e.funs, e.frf, e.hok, e.bare⟩
  have hr2 : Room k X.A.in1.in1 := ⟨hr.hd, by have := hr.dp; show X.A.depth + 3 * k + 5 < _; omega, by have := hr.un; show X.A.units + 1 + 1 + 16 * k + 200 < _; omega⟩
  exact dun_run (E := fun _ _ => False) (us := [x]) (Q := fun u H2 => ∃ Hf2, Ste [] Hf1 H1 Hf2 H2 ∧ Is X.K X.mg Hf2 kd u) F hg hr2 e0 J (st.subT sb.t) (.cons id .nil) rfl (.cons rx .nil) ek fun u Hf2 H2 st2 i2 => ⟨Hf2, st2, i2⟩
end
section
variable {X : Cx} {fx : Fx} {m : Type → Type} [Mo m] {G : List Sl} {kk j : Nat} {f : Addr} {g : List D → R D} {e : Expr} {p p2 p3 pos : Pos} {x : m D} {nm : Str} [DL.TC]
theorem de_sortedK (C : Cok X fx kk) (F : FnP X.prog X.w X.K X.mg X.base j f [] (spR X.K X.mg false 1 g)) (hm : X.mg nm = some (.ref f)) (hms : X.mg "sorted" = none) (he : PE X e (tE X.K X.mg fx G x))
    (hj : j + 1 ≤ kk := by decide) (hg : Gl X nm := by rfl) (hgs : Gl X "sorted" := by rfl) (hdb : (nm == ("__debug__" : Str)) = false := by decide)
    (h1 : backTo pos (starEach [e] X.env) = (false, eval e X.env) :: backTo pos (starEach [] X.env) := by rfl) (hpl : (backTo pos (starEach [e] X.env)).any (·.1) = false := by rfl) (hs : starEach [e] X.env = (false, eval e X.env) :: starEach [] X.env := by rfl) :
    PE X (.Call (.Name "sorted" p) [e] [⟨some "key", .Name nm p2, p3⟩] pos) (tE X.K X.mg fx G (do let d ← x; ask (sortedKD g d))) := by
  refine peI (pe_callBK (ks := ["key"]) (r := fun vs zs H Q => ∃ l Hf es d, vs = [V.ref l] ∧ zs = [V.ref f] ∧ SubT Hf H ∧ Is X.K X.mg Hf (.lst es) (V.ref l) ∧ sortedKD g (.lst es) = some d ∧ ∀ u Hf' H', Ste [] Hf H Hf' H' → Is X.K X.mg Hf' d u → Q u H') ?_ hgs hms rfl (pa_cons he pa_nil hs) (pk_cons (pe_glob hg hm (v := V.ref f) rfl hdb) pk_nil) (by decide) (by decide) h1 hpl) fun σ H Q ⟨Hf, s, h⟩ => ?_
  · intro pins s σ H vs zs us ws Q I r rz h
    obtain ⟨l, Hf, es, d, rfl, rfl, sb, i, e, q⟩ := h
    obtain ⟨z, a, vs, ea, hH, lv⟩ := i
    cases ea
    cases r with
    | cons r0 rr =>
      cases rr; cases r0
      cases rz with
      | cons r0 rr =>
        cases rr; cases r0
        have e : ((mapO g es).bind fun ks => (toPyL ks).bind fun ps => sortedK es ps) = some d := e
        cases e1 : mapO g es with
        | none => rw [e1] at e; cases e
        | some ks =>
          rw [e1] at e
          cases e2 : toPyL ks with
          | none => simp only [Option.bind_some, e2] at e; cases e
          | some ps =>
            simp only [Option.bind_some, e2] at e
            unfold sortedK at e
            split at e
            · rename_i hc
              obtain ⟨hk, hl, hz⟩ := hc
              cases e
              exact sorted_key_run F C.gd (C.rm.mono hj) I sb (.inl (.inl (sb _ _ hH))) lv e1 e2 hk hz fun p ys Hf' H' st hn hp hf ly hsy => by
                have hf' : Hf' p = none := hf
                refine q (.ref p) (upd Hf' p (.lst ys)) H' ⟨fun b o e => ?_, fun b o e => ?_, st.keep, st.dom, fun b o e => ?_, st.tab⟩ ⟨?_, p, ys, rfl, upd_same, ?_⟩
                · rw [upd_ne (fun z => by rw [z] at e; rw [st.sub _ _ e] at hf'; cases hf')]; exact st.sub _ _ e
                · by_cases z : b = p
                  · rw [z, upd_same] at e; cases e; rw [z]; exact hp
                  · rw [upd_ne z] at e; exact st.top _ _ e
                · by_cases z : b = p
                  · rw [z]; exact .inr hn
                  · rw [upd_ne z] at e; exact st.fresh _ _ e
                · unfold sortK
                  rw [List.length_map, List.length_mergeSort, List.length_zip, ← hl, Nat.min_self]; exact hz
                · exact ly.mono fun b o e => by
                    rw [upd_ne (fun z => by rw [z] at e; rw [e] at hf'; cases hf')]; exact e
            · cases e
  · refine (h.bind.mono fun v1 H1 ⟨d1, Hf1, s1, sb1, r1, h1⟩ => ?_).to
    obtain ⟨d, e, q⟩ := h1.ask
    cases d1 with
    | lst es =>
      obtain ⟨z, a, vs, ea, hH, lv⟩ := r1
      exact ⟨a, Hf1, es, d, by rw [ea], rfl, h1.1.topT, ⟨z, a, vs, rfl, hH, lv⟩, e, q⟩
    | _ => cases e
end
end DL
namespace DL
open PySem PySem.W
theorem lexN_tri (a b : List Nat) : a < b ∨ a = b ∨ b < a := by
  by_cases h : a < b
  · exact .inl h
  · by_cases h2 : b < a
    · exact .inr (.inr h2)
    · exact .inr (.inl (List.le_antisymm (List.not_lt.mp h2) (List.not_lt.mp h)))
structure STO {α : Type} (lt : α → α → Bool) : Prop where
  irr : ∀ a, lt a a = false
  trans : ∀ {a b c}, lt a b = true → lt b c = true → lt a c = true
  tri : ∀ a b, lt a b = true ∨ a = b ∨ lt b a = true
section
variable {α : Type} {lt : α → α → Bool} (O : STO lt)
include O
theorem STO.asym {a b : α} (h : lt a b = true) : lt b a = false := by
  cases q : lt b a with
  | false => rfl
  | true =>
    have := O.trans h q
    rw [O.irr] at this; cases this
theorem STO.le_iff {a b : α} : (!lt b a) = true ↔ lt a b = true ∨ a = b := by
  rw [Bool.not_eq_true']
  constructor
  · intro h
    rcases O.tri a b with q | q | q
    · exact .inl q
    · exact .inr q
    · rw [h] at q; cases q
  · rintro (h | rfl)
    · exact O.asym h
    · exact O.irr a
theorem STO.le_trans {a b c : α} (h1 : (!lt b a) = true) (h2 : (!lt c b) = true) : (!lt c a) = true := by
  rw [O.le_iff] at *
  rcases h1 with h1 | rfl
  · rcases h2 with h2 | rfl
    · exact .inl (O.trans h1 h2)
    · exact .inl h1
  · exact h2
theorem STO.le_total (a b : α) : ((!lt b a) || (!lt a b)) = true := by
  rw [Bool.or_eq_true, O.le_iff, O.le_iff]
  rcases O.tri a b with q | q | q
  · exact .inl (.inl q)
  · exact .inl (.inr q)
  · exact .inr (.inl q)
theorem STO.sorted (xs : List α) : (xs.mergeSort fun a b => !lt b a).Pairwise fun a b => (!lt b a) = true :=
  List.pairwise_mergeSort (le := fun a b => !lt b a) (fun a b c h1 h2 => O.le_trans h1 h2) (fun a b => O.le_total a b) xs
theorem STO.antisym {a b : α} (h1 : (!lt b a) = true) (h2 : (!lt a b) = true) : a = b := by
  rw [O.le_iff] at h1 h2
  rcases h1 with h1 | rfl
  · rcases h2 with h2 | rfl
    · have := O.asym h1; rw [h2] at this; cases this
    · rfl
  · rfl
end
theorem zip_maps {α β γ : Type} (f : α → β) (g : α → γ) : ∀ xs : List α, (xs.map f).zip (xs.map g) = xs.map fun x => (f x, g x)
  | [] => rfl
  | x :: xs => by simp [zip_maps f g xs]
theorem sortK_map {α : Type} {enc : α → D} {key : α → PyData} {lt : α → α → Bool} {as : List α} (h : ∀ a ∈ as, ∀ b ∈ as, dataLt (key a) (key b) = lt a b) : sortK ((as.map enc).zip (as.map key)) = (as.mergeSort fun a b => !lt b a).map enc := by
  unfold sortK
  rw [zip_maps, ← List.map_mergeSort (r := fun a b => !lt b a) (fun a ha b hb => by simp only []; rw [h b hb a ha]), List.map_map]
  rfl
theorem sortedK_map {α : Type} {enc : α → D} {key : α → PyData} {lt : α → α → Bool} {as : List α} (h : ∀ a ∈ as, ∀ b ∈ as, dataLt (key a) (key b) = lt a b) (hk : keysOk (as.map key) = true) (hz : as.length ≤ 1000000) : sortedK (as.map enc) (as.map key) = some (.lst ((as.mergeSort fun a b => !lt b a).map enc)) := by
  unfold sortedK
  rw [if_pos ⟨hk, by simp, by rw [List.length_map, sizeLine_eq]; omega⟩, sortK_map h]
theorem keysOk_tup {α : Type} {key : α → PyData} {as : List α} (h1 : ∀ a ∈ as, ∀ b ∈ as, alike (key a) (key b) = true) (h2 : ∀ a ∈ as, isTup1 (key a) = true) (h3 : ∀ a ∈ as, (key a).depth ≤ 60) : keysOk (as.map key) = true := by
  unfold keysOk
  simp only [Bool.and_eq_true, Bool.or_eq_true, List.all_eq_true, decide_eq_true_eq, List.mem_map, forall_exists_index, and_imp, forall_apply_eq_imp_iff₂]
  exact ⟨⟨h1, .inl h2⟩, h3⟩
theorem mapO_map {α : Type} {g : List D → R D} {enc kd : α → D} : ∀ {as : List α}, (∀ a ∈ as, g [enc a] = .ok (kd a)) → mapO g (as.map enc) = some (as.map kd)
  | [], _ => rfl
  | a :: as, h => by
    have e := h a (.head _)
    have t := mapO_map (as := as) fun x m => h x (.tail _ m)
    simp only [List.map_cons, mapO, e, t]
    rfl
theorem toPyL_map {α : Type} {kd : α → D} {key : α → PyData} : ∀ {as : List α}, (∀ a ∈ as, toPy (kd a) = some (key a)) → toPyL (as.map kd) = some (as.map key)
  | [], _ => rfl
  | a :: as, h => by
    have e := h a (.head _)
    have t := toPyL_map (as := as) fun x m => h x (.tail _ m)
    simp only [List.map_cons, toPyL, e, t]
    rfl
theorem sortedKD_map {α : Type} {g : List D → R D} {enc kd : α → D} {key : α → PyData} {lt : α → α → Bool} {as : List α} (hg : ∀ a ∈ as, g [enc a] = .ok (kd a)) (hp : ∀ a ∈ as, toPy (kd a) = some (key a)) (h : ∀ a ∈ as, ∀ b ∈ as, dataLt (key a) (key b) = lt a b) (hk : keysOk (as.map key) = true) (hz : as.length ≤ 1000000) :
    sortedKD g (.lst (as.map enc)) = some (.lst ((as.mergeSort fun a b => !lt b a).map enc)) := by
  show ((mapO g (as.map enc)).bind fun ks => (toPyL ks).bind fun ps => sortedK (as.map enc) ps) = _
  rw [mapO_map hg]
  show ((toPyL (as.map kd)).bind fun ps => sortedK (as.map enc) ps) = _
  rw [toPyL_map hp]
  exact sortedK_map h hk hz
end DL
namespace DL
open PySem PySem.Spec PyProof.Rows L2
end DL
namespace DL
open PySem PySem.Spec PyProof.Rows L2
end DL
namespace DL
open PySem PySem.Spec PyProof.Rows L2 HotX
end DL
namespace L2
open PySem PySem.Spec PyProof.Rows
end L2
namespace DL
open PySem PySem.Spec PyProof.Rows L2 HotX
end DL
namespace DL
open PySem PySem.Spec PyProof.Rows L2
end DL
namespace FN
open DL PySem PySem.W
variable {I : List (List Nat)} {l0 l1 mh mt : Nat} {x : D} {fs : List D}
theorem bols_map {α : Type} (f : α → Bool) : ∀ (L : List α), bolsOf (L.map fun a => D.bl (f a)) = some (L.map f)
  | [] => rfl
  | a :: L => by
    rw [List.map_cons]
    show (bolsOf (L.map fun a => D.bl (f a))).map (f a :: ·) = _
    rw [bols_map f L]; rfl
theorem all_map {α : Type} (f : α → Bool) (L : List α) : allD [.lst (L.map fun a => D.bl (f a))] = some (.bl (L.all f)) := by
  show (bolsOf (L.map fun a => D.bl (f a))).map (fun bs => D.bl (bs.all id)) = _
  rw [bols_map]
  show some (D.bl ((L.map f).all id)) = _
  rw [List.all_map]; rfl
end FN
namespace DL
open PySem PySem.Spec PyProof.Rows L2
end DL
namespace DL
open PySem PySem.Spec PyProof.Rows L2
end DL
namespace DL
open PySem PySem.Spec PyProof.Rows L2
end DL
namespace DL
open PySem PySem.Spec PyProof.Rows L2
end DL
namespace DL
open PySem PySem.Spec PyProof.Rows L2
end DL
namespace DL
open PySem PySem.Spec PyProof.Rows L2
end DL
namespace DL
open PySem PySem.Spec PyProof.Rows L2
end DL
namespace DL
open PySem PySem.Spec PyProof.Rows L2
end DL
namespace DL
open PySem PySem.Spec PyProof.Rows L2
end DL
namespace DL
open PySem PySem.Spec PyProof.Rows L2
section
variable {K : PySem.W.Frag} {mg : Str → Option Value} [DL.TC]
theorem spR_frz {n : Nat} {g : List D → R D} {vs : List V} {H : Hp} {Q : VK} {E : XK} (h : spR K mg false n g vs H Q E) : spR K mg true n g vs H Q E := by
  obtain ⟨hv, Hf, ds, sb, l, q⟩ := h
  refine ⟨hv, Hf, ds, sb, l, ?_⟩
  cases z : g ds with
  | ok d =>
    rw [z] at q
    rintro v Hf' H' e ⟨p, vs2, ds2, rfl, rfl, hp, hf, h0, l2, hz⟩
    have sb2 : Sub Hf' (upd Hf' p (.lst vs2)) := fun a o q => by
      have ne : a ≠ p := fun z => by rw [z, hf] at q; cases q
      rw [upd_ne ne]; exact q
    refine q (.ref p) (upd Hf' p (.lst vs2)) H' ⟨e.sub.trans sb2, fun a o q => ?_, e.keep, e.dom, fun a o q => ?_, e.tab⟩ ⟨hz, p, vs2, rfl, upd_same, l2.mono sb2⟩
    · by_cases c : a = p
      · subst c; rw [upd_same] at q; cases q; exact hp
      · rw [upd_ne c] at q; exact e.top a o q
    · by_cases c : a = p
      · subst c; exact .inr h0
      · rw [upd_ne c] at q; exact e.fresh a o q
  | ex e => rw [z] at q; exact q
  | stuck => rw [z] at q; exact q
theorem FnP.frz {P : Program} {w : World} {base : Heap} {k n : Nat} {f : Addr} {ks : List Str} {g : List D → R D} (F : FnP P w K mg base k f ks (spR K mg true n g)) : FnP P w K mg base k f ks (spR K mg false n g) := F.imp fun _ _ _ _ h => spR_frz h
end
end DL
namespace PySem
end PySem
namespace L2
open PySem PySem.Spec PyProof.Rows GenW
end L2
namespace DL
open PySem PySem.Spec PyProof.Rows L2 GenW
section
variable (K : PySem.W.Frag) (mg : Str → Option Value) (fx : Fx) {α β : Type} [DL.TC]
def FPY (Hf : Hp) (ex : α → List Sl) (exb : β → List Sl) (De : GEnds) : Fl (α × List D) (β × List D) → S → Prop := fun f s' => match f with
  | .nx a => ∀ Hf' H' σ' ys', Sub Hf Hf' → StS K mg fx Hf' H' σ' (ex a.1) s' → IsL K mg Hf' a.2 ys' → De.nx ys' σ' H'
  | .rt _ => False
  | .bk b => ∀ Hf' H' σ' ys', Sub Hf Hf' → StS K mg fx Hf' H' σ' (exb b.1) s' → IsL K mg Hf' b.2 ys' → De.bk ys' σ' H'
  | .ct b => ∀ Hf' H' σ' ys', Sub Hf Hf' → StS K mg fx Hf' H' σ' (exb b.1) s' → IsL K mg Hf' b.2 ys' → De.ct ys' σ' H'
def tYX (G : List Sl) (acc : List D) (ex : α → List Sl) (exb : β → List Sl) (x : R (Fl (α × List D) (β × List D))) (Hf : Hp) (s : S) (De : GEnds) (ys : List V) (σ : L2.St) (H : Hp) : Prop :=
  StS K mg fx Hf H σ G s ∧ IsL K mg Hf acc ys ∧ R.wp x s (FPY K mg fx Hf ex exb De) (fun _ _ => False)
end
section
variable {K : PySem.W.Frag} {mg : Str → Option Value} {fx : Fx} {α β γ δ ε : Type} {G G' : List Sl} {acc : List D} {ex : α → List Sl} {exb : β → List Sl} {rm : Hp → γ → δ → Prop} [DL.TC]
theorem FPY.up {Hf Hf1 : Hp} {De : GEnds} {f : Fl (α × List D) (β × List D)} {s : S} (sb : Sub Hf Hf1) (h : FPY K mg fx Hf ex exb De f s) : FPY K mg fx Hf1 ex exb De f s := by
  cases f with
  | nx a => exact fun Hf' H' σ' ys' sb' => h Hf' H' σ' ys' (sb.trans sb')
  | rt d => exact h
  | bk b => exact fun Hf' H' σ' ys' sb' => h Hf' H' σ' ys' (sb.trans sb')
  | ct b => exact fun Hf' H' σ' ys' sb' => h Hf' H' σ' ys' (sb.trans sb')
theorem tYX.bind {x : R γ} {k : γ → R (Fl (α × List D) (β × List D))} {Hf : Hp} {s : S} {ys : List V} {σ : L2.St} {H : Hp} {De : GEnds} (h : tYX K mg fx G acc ex exb (x >>= k) Hf s De ys σ H) :
    tX K mg fx G rm x Hf s σ H (fun b H1 => ∃ a Hf1 s1, Sub Hf Hf1 ∧ rm Hf1 a b ∧ tYX K mg fx G acc ex exb (k a) Hf1 s1 De ys σ H1) := by
  obtain ⟨st, l, w⟩ := h
  have w1 := Mo.wp_bind (m := R) w
  exact ⟨st, Mo.wp_mono (m := R) w1 (fun a s1 h1 b Hf1 H1 ste bag r => ⟨a, Hf1, s1, ste.sub, r, st.step ste bag, l.mono ste.sub, Mo.wp_mono (m := R) h1 (fun f s2 h2 => h2.up ste.sub) fun e s' k => k⟩) fun e s' k => k.elim⟩
end
end DL
namespace L2
open PySem PySem.Spec PyProof.Rows GenW
end L2
namespace L2
open PySem PySem.Spec PyProof.Rows GenW
end L2
namespace DL
open PySem PySem.Spec PyProof.Rows L2 GenW
end DL
namespace L3
open PySem PySem.Spec PyProof.Rows GenW L2
end L3
namespace L3
open PySem PySem.Spec PyProof.Rows GenW L2
end L3
namespace DL
open PySem PySem.Spec PyProof.Rows L2 GenW L3
end DL
namespace L3
open PySem PySem.Spec PyProof.Rows GenW L2
end L3
namespace L3
open PySem PySem.Spec PyProof.Rows GenW L2
end L3
namespace DL
open PySem PySem.Spec PyProof.Rows L2 GenW
end DL
namespace L3
open PySem PySem.Spec PyProof.Rows GenW L2
end L3
namespace DL
open PySem PySem.Spec PyProof.Rows L2
end DL
namespace DL
open PySem PySem.Spec PyProof.Rows L2
end DL
namespace DL
open PySem PySem.Spec PyProof.Rows L2
end DL
namespace DL
open PySem PySem.Spec PyProof.Rows L2
end DL
namespace DL
open PySem PySem.Spec PyProof.Rows L2
end DL
namespace DL
open PySem PySem.Spec PyProof.Rows L2
end DL
namespace DL
open PySem PySem.Spec PyProof.Rows PySem.SeqAt
open AutoSeq1 (wpAny_loadPart')
end DL
namespace DL
open PySem PySem.Spec PyProof.Rows L2
end DL
namespace DL
open PySem PySem.Spec PyProof.Rows L2
end DL
namespace DL
open PySem PySem.Spec PyProof.Rows L2
end DL
namespace DL
open PySem PySem.Spec PyProof.Rows L2
end DL
namespace DL
open PySem PySem.Spec PyProof.Rows L2
end DL
namespace DL
open PySem PySem.Spec PyProof.Rows L2
end DL
namespace DL
open PySem PySem.Spec PyProof.Rows L2
end DL
namespace DL
open PySem PySem.Spec PyProof.Rows L2 GenW
theorem vals_split : ∀ {xs : List V} {us : List Value} {ys : List V} {ws : List Value}, Vals (xs ++ ys) (us ++ ws) → xs.length = us.length → Vals xs us ∧ Vals ys ws
  | [], [], _, _, h, _ => ⟨.nil, h⟩
  | _ :: xs, _ :: us, _, _, .cons r h, e => by
    obtain ⟨a, b⟩ := vals_split (xs := xs) (us := us) h (Nat.succ.inj e)
    exact ⟨.cons r a, b⟩
  | [], _ :: _, _, _, _, e => by cases e
  | _ :: _, [], _, _, _, e => by cases e
end DL
namespace DL
open PySem PySem.Spec PyProof.Rows L2
end DL
namespace DL
open PySem PySem.Spec PyProof.Rows L2
end DL
namespace FN
open DL PySem PySem.W
end FN
namespace FN
open DL
def k__law_moved_e405_0 (a1 : D) (c18 : D) (q17 : D × D) (c15 : D) : R (Fl (D × D) (D × D)) := (do let t43 ← (DL.andM (do let x28 ← (do let x25 ← (pure a1); let l26 ← (do let x23 ← (do let x22 ← (do let r21 ← (do let x19 ← (pure c18); let r20 ← pure []; pure (x19 :: r20)); DL.ask (lenD r21)); DL.ask (negD x22)); let i24 ← DL.ask (intOf x23); pure (some i24)); let u27 ← (pure none); DL.ask (sliceD x25 l26 u27)); let y29 ← (pure c18); DL.ask ((eqD x28 y29).bind bOf)) (do let x36 ← (do let r32 ← (do let x30 ← (pure c18); let r31 ← pure []; pure (x30 :: r31)); DL.ask (lenD r32)); let y37 ← (do let r35 ← (do let x33 ← (pure q17.1); let r34 ← pure []; pure (x33 :: r34)); DL.ask (lenD r35)); DL.ask ((gtD x36 y37).bind bOf))); seqF (if t43 = true then (do let v39 ← (pure c18); let v40 ← (do let x41 ← (pure c15); let y42 ← (pure (.int 0)); DL.ask (ixD x41 y42)); (pure (.nx (v39, v40)))) else (pure (.nx (q17.1, q17.2)))) fun (q38 : D × D) => (pure (.nx (q38.1, q38.2))))
def k__law_moved_e405_1 (a1 : D) (q46 : D × D) : R (Fl (Unit) (Empty)) := (do let v62 ← (do let x60 ← (do let x57 ← (pure a1); let l58 ← (pure none); let u59 ← (do let x55 ← (do let x53 ← (do let r49 ← (do let x47 ← (pure a1); let r48 ← pure []; pure (x47 :: r48)); DL.ask (lenD r49)); let y54 ← (do let r52 ← (do let x50 ← (pure q46.1); let r51 ← pure []; pure (x50 :: r51)); DL.ask (lenD r52)); DL.ask (subD x53 y54)); let i56 ← DL.ask (intOf x55); pure (some i56)); DL.ask (sliceD x57 l58 u59)); let y61 ← (pure q46.2); DL.ask (addD x60 y61)); pure (.rt v62))
def k__law_moved_e405_2 (a0 : D) (a1 : D) (c2 : D × D) : R (Fl (Unit) (Empty)) := (do let r63 ← (do let r13 ← (pure a0); DL.ask (itD r13)); seqF (forF (fun d => some d) (fun (q14 : D × D) (c15 : D) => (do let r45 ← (do let r16 ← (pure c15); DL.ask (itD r16)); seqF (forF (fun d => some d) (fun (q17 : D × D) (c18 : D) => (k__law_moved_e405_0 a1 c18 q17 c15)) r45 (q14.1, q14.2)) fun (q44 : D × D) => (pure (.nx (q44.1, q44.2))))) r63 (c2.1, c2.2)) fun (q46 : D × D) => (k__law_moved_e405_1 a1 q46))
def k__law_moved_e405_3 (a0 : D) (a1 : D) : R (Fl (Unit) (Empty)) := (do let v1 ← (do let r11 ← (do let x9 ← (do let r3 ← pure []; let r4 ← DL.ask (szL r3); pure (.tup r4)); let r10 ← (do let x7 ← (do let r5 ← pure []; let r6 ← DL.ask (szL r5); pure (.tup r6)); let r8 ← pure []; pure (x7 :: r8)); pure (x9 :: r10)); let r12 ← DL.ask (szL r11); pure (.tup r12)); let c2 ← DL.ask (un2 v1); (k__law_moved_e405_2 a0 a1 c2))
def b__law_moved_e405 (a0 a1 : D) : R (Fl Unit Empty) := (k__law_moved_e405_3 a0 a1)
theorem e__law_moved_e405 (a0 a1 : D) : b__law_moved_e405 a0 a1 = (do let r4 ← DL.ask (szL []); let r6 ← DL.ask (szL []); let r12 ← DL.ask (szL [(.tup r4), (.tup r6)]); let c2 ← DL.ask (un2 (.tup r12)); let r63 ← (DL.ask (itD a0)); seqF (forF (fun d => some d) (fun (q14 : D × D) (c15 : D) => (do let r45 ← (DL.ask (itD c15)); seqF (forF (fun d => some d) (fun (q17 : D × D) (c18 : D) => (do let t43 ← (DL.andM (do let x22 ← (DL.ask (lenD [c18])); let x23 ← (DL.ask (negD x22)); let i24 ← DL.ask (intOf x23); let x28 ← (DL.ask (sliceD a1 (some i24) none)); DL.ask ((eqD x28 c18).bind bOf)) (do let x36 ← (DL.ask (lenD [c18])); let y37 ← (DL.ask (lenD [q17.1])); DL.ask ((gtD x36 y37).bind bOf))); seqF (if t43 = true then (do let v40 ← (DL.ask (ixD c15 (.int 0))); (pure (.nx (c18, v40)))) else (pure (.nx (q17.1, q17.2)))) fun (q38 : D × D) => (pure (.nx (q38.1, q38.2))))) r45 (q14.1, q14.2)) fun (q44 : D × D) => (pure (.nx (q44.1, q44.2))))) r63 (c2.1, c2.2)) fun (q46 : D × D) => (do let x53 ← (DL.ask (lenD [a1])); let y54 ← (DL.ask (lenD [q46.1])); let x55 ← (DL.ask (subD x53 y54)); let i56 ← DL.ask (intOf x55); let x60 ← (DL.ask (sliceD a1 none (some i56))); let v62 ← (DL.ask (addD x60 q46.2)); pure (.rt v62))) := by
  unfold b__law_moved_e405; simp only [k__law_moved_e405_0, k__law_moved_e405_1, k__law_moved_e405_2, k__law_moved_e405_3, pure_bind, bind_assoc, mkL]
def m__law_moved_e405 : List D → R D := apR2 fun a0 a1 => (runR false (b__law_moved_e405 a0 a1))
def k__law_site_8604_0 (a1 : D) (v12 : D) (q10 : D × D) : R (Fl (D × D) (D × D)) := (do let v25 ← (iteM (do let x35 ← (do let x32 ← (pure a1); let l33 ← (do let x30 ← (do let x29 ← (do let r28 ← (do let x26 ← (pure v12); let r27 ← pure []; pure (x26 :: r27)); DL.ask (lenD r28)); DL.ask (negD x29)); let i31 ← DL.ask (intOf x30); pure (some i31)); let u34 ← (pure none); DL.ask (sliceD x32 l33 u34)); let y36 ← (pure v12); DL.ask ((eqD x35 y36).bind bOf)) (do let r44 ← (do let x42 ← (pure q10.1); let r43 ← (do let x40 ← (do let r39 ← (do let x37 ← (pure v12); let r38 ← pure []; pure (x37 :: r38)); DL.ask (lenD r39)); let r41 ← pure []; pure (x40 :: r41)); pure (x42 :: r43)); DL.ask (maxD r44)) (pure q10.1)); (pure (.nx (v25, q10.2))))
def k__law_site_8604_1 (a1 : D) (v12 : D) (q10 : D × D) : R (Fl (D) (D × D)) := (do let v50 ← (iteM (DL.andM (do let x57 ← (do let r53 ← (do let x51 ← (pure a1); let r52 ← pure []; pure (x51 :: r52)); DL.ask (lenD r53)); let y58 ← (do let r56 ← (do let x54 ← (pure v12); let r55 ← pure []; pure (x54 :: r55)); DL.ask (lenD r56)); DL.ask ((geD x57 y58).bind bOf)) (do let x75 ← (do let x67 ← (pure a1); let l68 ← (do let x65 ← (do let x63 ← (do let x62 ← (do let r61 ← (do let x59 ← (pure v12); let r60 ← pure []; pure (x59 :: r60)); DL.ask (lenD r61)); DL.ask (negD x62)); let y64 ← (pure (.int 1)); DL.ask (addD x63 y64)); let i66 ← DL.ask (intOf x65); pure (some i66)); let u69 ← (pure none); DL.ask (sliceD x67 l68 u69)); let y76 ← (do let x72 ← (pure v12); let l73 ← (do let x70 ← (pure (.int 1)); let i71 ← DL.ask (intOf x70); pure (some i71)); let u74 ← (pure none); DL.ask (sliceD x72 l73 u74)); DL.ask ((eqD x75 y76).bind bOf))) (do let r84 ← (do let x82 ← (pure q10.2); let r83 ← (do let x80 ← (do let r79 ← (do let x77 ← (pure v12); let r78 ← pure []; pure (x77 :: r78)); DL.ask (lenD r79)); let r81 ← pure []; pure (x80 :: r81)); pure (x82 :: r83)); DL.ask (maxD r84)) (pure q10.2)); (pure (.nx v50)))
def k__law_site_8604_2 (a1 : D) (v12 : D) (q10 : D × D) : R (Fl (D) (D × D)) := (do let t106 ← (do let x94 ← (do let x91 ← (pure a1); let l92 ← (do let x89 ← (do let x88 ← (do let r87 ← (do let x85 ← (pure v12); let r86 ← pure []; pure (x85 :: r86)); DL.ask (lenD r87)); DL.ask (negD x88)); let i90 ← DL.ask (intOf x89); pure (some i90)); let u93 ← (pure none); DL.ask (sliceD x91 l92 u93)); let y95 ← (pure v12); DL.ask ((eqD x94 y95).bind bOf)); seqF (if t106 = true then (do let v97 ← (do let r105 ← (do let x103 ← (pure q10.2); let r104 ← (do let x101 ← (do let r100 ← (do let x98 ← (pure v12); let r99 ← pure []; pure (x98 :: r99)); DL.ask (lenD r100)); let r102 ← pure []; pure (x101 :: r102)); pure (x103 :: r104)); DL.ask (maxD r105)); (pure (.nx v97))) else (pure (.nx q10.2))) fun (q96 : D) => (pure (.nx q96)))
def k__law_site_8604_3 (c11 : D) (a1 : D) (v12 : D) (q10 : D × D) : R (Fl (D × D) (D × D)) := (do let t108 ← (do let x22 ← (do let x20 ← (pure c11); let y21 ← (pure (.int 0)); DL.ask (ixD x20 y21)); let y23 ← (pure (.str [33])); DL.ask ((eqD x22 y23).bind bOf)); seqF (if t108 = true then (k__law_site_8604_0 a1 v12 q10) else (do let t107 ← (do let x47 ← (do let x45 ← (pure v12); let y46 ← (pure (.int 0)); DL.ask (ixD x45 y46)); let y48 ← (pure (.str [42])); DL.ask ((eqD x47 y48).bind bOf)); seqF (if t107 = true then (k__law_site_8604_1 a1 v12 q10) else (k__law_site_8604_2 a1 v12 q10)) fun (q49 : D) => (pure (.nx (q10.1, q49))))) fun (q24 : D × D) => (pure (.nx (q24.1, q24.2))))
def k__law_site_8604_4 (c11 : D) (a1 : D) (q10 : D × D) : R (Fl (D × D) (D × D)) := (do let v12 ← (do let r19 ← (do let x17 ← (mkL (do let x15 ← (do let x13 ← (pure c11); let _ ← DL.ask (strOf x13); let y14 ← (pure (.str [33])); DL.ask (lstripD x13 y14)); let _ ← DL.ask (strOf x15); let y16 ← (pure (.str [46])); DL.ask (splitD x15 y16))); let r18 ← pure []; pure (x17 :: r18)); DL.ask (tupleD r19)); (k__law_site_8604_3 c11 a1 v12 q10))
def k__law_site_8604_5 (a1 : D) (q109 : D × D) : R (Fl (Unit) (Empty)) := (do let v120 ← (do let x117 ← (pure a1); let l118 ← (do let x115 ← (do let x114 ← (iteM (do let x110 ← (pure q109.1); let y111 ← (pure (.int 0)); DL.ask ((gtD x110 y111).bind bOf)) (pure q109.1) (do let x112 ← (pure q109.2); let y113 ← (pure (.int 1)); DL.ask (addD x112 y113))); DL.ask (negD x114)); let i116 ← DL.ask (intOf x115); pure (some i116)); let u119 ← (pure none); DL.ask (sliceD x117 l118 u119)); pure (.rt v120))
def k__law_site_8604_6 (a0 : D) (a1 : D) : R (Fl (Unit) (Empty)) := (do let v1 ← (do let r7 ← (do let x5 ← (pure (.int 0)); let r6 ← (do let x3 ← (pure (.int 1)); let r4 ← pure []; pure (x3 :: r4)); pure (x5 :: r6)); let r8 ← DL.ask (szL r7); pure (.tup r8)); let c2 ← DL.ask (un2 v1); (do let r121 ← (do let r9 ← (pure a0); DL.ask (itD r9)); seqF (forF (fun d => some d) (fun (q10 : D × D) (c11 : D) => (k__law_site_8604_4 c11 a1 q10)) r121 (c2.1, c2.2)) fun (q109 : D × D) => (k__law_site_8604_5 a1 q109)))
def b__law_site_8604 (a0 a1 : D) : R (Fl Unit Empty) := (k__law_site_8604_6 a0 a1)
theorem e__law_site_8604 (a0 a1 : D) : b__law_site_8604 a0 a1 = (do let r8 ← DL.ask (szL [(.int 0), (.int 1)]); let c2 ← DL.ask (un2 (.tup r8)); let r121 ← (DL.ask (itD a0)); seqF (forF (fun d => some d) (fun (q10 : D × D) (c11 : D) => (do let _ ← DL.ask (strOf c11); let x15 ← (DL.ask (lstripD c11 (.str [33]))); let _ ← DL.ask (strOf x15); let x17 ← (DL.ask (splitD x15 (.str [46]))); let v12 ← (DL.ask (tupleD [(.lst x17)])); let x22 ← (DL.ask (ixD c11 (.int 0))); let t108 ← (DL.ask ((eqD x22 (.str [33])).bind bOf)); seqF (if t108 = true then (do let v25 ← (iteM (do let x29 ← (DL.ask (lenD [v12])); let x30 ← (DL.ask (negD x29)); let i31 ← DL.ask (intOf x30); let x35 ← (DL.ask (sliceD a1 (some i31) none)); DL.ask ((eqD x35 v12).bind bOf)) (do let x40 ← (DL.ask (lenD [v12])); DL.ask (maxD [q10.1, x40])) (pure q10.1)); (pure (.nx (v25, q10.2)))) else (do let x47 ← (DL.ask (ixD v12 (.int 0))); let t107 ← (DL.ask ((eqD x47 (.str [42])).bind bOf)); seqF (if t107 = true then (do let v50 ← (iteM (DL.andM (do let x57 ← (DL.ask (lenD [a1])); let y58 ← (DL.ask (lenD [v12])); DL.ask ((geD x57 y58).bind bOf)) (do let x62 ← (DL.ask (lenD [v12])); let x63 ← (DL.ask (negD x62)); let x65 ← (DL.ask (addD x63 (.int 1))); let i66 ← DL.ask (intOf x65); let x75 ← (DL.ask (sliceD a1 (some i66) none)); let i71 ← DL.ask (intOf (.int 1)); let y76 ← (DL.ask (sliceD v12 (some i71) none)); DL.ask ((eqD x75 y76).bind bOf))) (do let x80 ← (DL.ask (lenD [v12])); DL.ask (maxD [q10.2, x80])) (pure q10.2)); (pure (.nx v50))) else (do let x88 ← (DL.ask (lenD [v12])); let x89 ← (DL.ask (negD x88)); let i90 ← DL.ask (intOf x89); let x94 ← (DL.ask (sliceD a1 (some i90) none)); let t106 ← (DL.ask ((eqD x94 v12).bind bOf)); seqF (if t106 = true then (do let x101 ← (DL.ask (lenD [v12])); let v97 ← (DL.ask (maxD [q10.2, x101])); (pure (.nx v97))) else (pure (.nx q10.2))) fun (q96 : D) => (pure (.nx q96)))) fun (q49 : D) => (pure (.nx (q10.1, q49))))) fun (q24 : D × D) => (pure (.nx (q24.1, q24.2))))) r121 (c2.1, c2.2)) fun (q109 : D × D) => (do let x114 ← (iteM (DL.ask ((gtD q109.1 (.int 0)).bind bOf)) (pure q109.1) (DL.ask (addD q109.2 (.int 1)))); let x115 ← (DL.ask (negD x114)); let i116 ← DL.ask (intOf x115); let v120 ← (DL.ask (sliceD a1 (some i116) none)); pure (.rt v120))) := by
  unfold b__law_site_8604; simp only [k__law_site_8604_0, k__law_site_8604_1, k__law_site_8604_2, k__law_site_8604_3, k__law_site_8604_4, k__law_site_8604_5, k__law_site_8604_6, pure_bind, bind_assoc, mkL]
def m__law_site_8604 : List D → R D := apR2 fun a0 a1 => (runR false (b__law_site_8604 a0 a1))
def k__law_matches_aa11_0 (c4 : List D) (c2 : List D) (a2 : D) (v32 : D) : R (Fl (Unit) (Empty)) := (do let v66 ← (andV (do let r51 ← (do let x49 ← (pure (c4.getD 4 .non)); let r50 ← (do let x47 ← (mkL (do let r45 ← (do let x43 ← (pure (c2.getD 3 .non)); let r44 ← pure []; pure (x43 :: r44)); let r46 ← DL.ask (listD r45); DL.ask (szL r46))); let r48 ← pure []; pure (x47 :: r48)); pure (x49 :: r50)); Mo.lift (m__law_row_fits_3c3f r51)) (do let x64 ← (do let r56 ← (do let x54 ← (pure a2); let r55 ← (do let x52 ← (pure v32); let r53 ← pure []; pure (x52 :: r53)); pure (x54 :: r55)); Mo.lift (m__law_site_8604 r56)); let y65 ← (do let r63 ← (do let x61 ← (pure a2); let r62 ← (do let x59 ← (do let x57 ← (pure (c4.getD 2 .non)); let y58 ← (pure (.int 1)); DL.ask (ixD x57 y58)); let r60 ← pure []; pure (x59 :: r60)); pure (x61 :: r62)); Mo.lift (m__law_site_8604 r63)); DL.ask (eqD x64 y65))); pure (.rt v66))
def k__law_matches_aa11_1 (c4 : List D) (c2 : List D) (v32 : D) : R (Fl (Unit) (Empty)) := (do let v87 ← (andV (do let r75 ← (do let x73 ← (pure (c4.getD 4 .non)); let r74 ← (do let x71 ← (mkL (do let r69 ← (do let x67 ← (pure (c2.getD 3 .non)); let r68 ← pure []; pure (x67 :: r68)); let r70 ← DL.ask (listD r69); DL.ask (szL r70))); let r72 ← pure []; pure (x71 :: r72)); pure (x73 :: r74)); Mo.lift (m__law_row_fits_3c3f r75)) (do let r86 ← (do let x84 ← (do let x76 ← (pure (c4.getD 2 .non)); let y77 ← (pure (.int 1)); DL.ask (ixD x76 y77)); let r85 ← (do let x82 ← (mkL (do let r80 ← (do let x78 ← (pure v32); let r79 ← pure []; pure (x78 :: r79)); let r81 ← DL.ask (listD r80); DL.ask (szL r81))); let r83 ← pure []; pure (x82 :: r83)); pure (x84 :: r85)); Mo.lift (m__law_row_fits_3c3f r86))); pure (.rt v87))
def k__law_matches_aa11_2 (a3 : D) (c2 : List D) (c4 : List D) (a2 : D) : R (Fl (Unit) (Empty)) := (do let v32 ← (do let r37 ← (do let x35 ← (pure a3); let r36 ← (do let x33 ← (pure (c2.getD 1 .non)); let r34 ← pure []; pure (x33 :: r34)); pure (x35 :: r36)); Mo.lift (m__law_moved_e405 r37)); (do let t88 ← (do let x40 ← (do let x38 ← (pure (c4.getD 2 .non)); let y39 ← (pure (.int 0)); DL.ask (ixD x38 y39)); let y41 ← (pure (.str [126])); DL.ask ((eqD x40 y41).bind bOf)); seqF (if t88 = true then (k__law_matches_aa11_0 c4 c2 a2 v32) else (pure (.nx ()))) fun (q42 : Unit) => (k__law_matches_aa11_1 c4 c2 v32)))
def k__law_matches_aa11_3 (c4 : List D) (c2 : List D) (a3 : D) (a2 : D) : R (Fl (Unit) (Empty)) := (do let t89 ← (DL.andM (do let x23 ← (pure (c4.getD 3 .non)); let y24 ← (pure .non); DL.ask ((isNotD x23 y24).bind bOf)) (DL.notM (do let x29 ← (chainM leD leD (do let x25 ← (pure (c4.getD 3 .non)); let y26 ← (pure (.int 0)); DL.ask (ixD x25 y26)) (pure (c2.getD 2 .non)) (do let x27 ← (pure (c4.getD 3 .non)); let y28 ← (pure (.int 1)); DL.ask (ixD x27 y28))); DL.ask (bOf x29)))); seqF (if t89 = true then (do let v31 ← (pure (.bl false)); pure (.rt v31)) else (pure (.nx ()))) fun (q30 : Unit) => (k__law_matches_aa11_2 a3 c2 c4 a2))
def k__law_matches_aa11_4 (c4 : List D) (c2 : List D) (a3 : D) (a2 : D) : R (Fl (Unit) (Empty)) := (do let t90 ← (DL.andM (do let x14 ← (pure (c4.getD 3 .non)); let y15 ← (pure .non); DL.ask ((isD x14 y15).bind bOf)) (do let x19 ← (pure (c2.getD 2 .non)); let y20 ← (do let r18 ← (do let x16 ← (pure (c2.getD 0 .non)); let r17 ← pure []; pure (x16 :: r17)); Mo.lift (m__law_default_6094 r18)); DL.ask ((neD x19 y20).bind bOf))); seqF (if t90 = true then (do let v22 ← (pure (.bl false)); pure (.rt v22)) else (pure (.nx ()))) fun (q21 : Unit) => (k__law_matches_aa11_3 c4 c2 a3 a2))
def k__law_matches_aa11_5 (c4 : List D) (c2 : List D) (a3 : D) (a2 : D) : R (Fl (Unit) (Empty)) := (do let t91 ← (do let x10 ← (pure (c4.getD 1 .non)); let y11 ← (mkL (do let r9 ← (do let x7 ← (pure (.str [97, 110, 121])); let r8 ← (do let x5 ← (pure (c2.getD 0 .non)); let r6 ← pure []; pure (x5 :: r6)); pure (x7 :: r8)); DL.ask (szL r9))); DL.ask ((notInD x10 y11).bind bOf)); seqF (if t91 = true then (do let v13 ← (pure (.bl false)); pure (.rt v13)) else (pure (.nx ()))) fun (q12 : Unit) => (k__law_matches_aa11_4 c4 c2 a3 a2))
def b__law_matches_aa11 (a0 a1 a2 a3 : D) : R (Fl Unit Empty) := (do let v1 ← (pure a1); let c2 ← DL.ask ((unN 4) v1); (do let v3 ← (pure a0); let c4 ← DL.ask ((unN 5) v3); (k__law_matches_aa11_5 c4 c2 a3 a2)))
theorem e__law_matches_aa11 (a0 a1 a2 a3 : D) : b__law_matches_aa11 a0 a1 a2 a3 = (do let c2 ← DL.ask ((unN 4) a1); let c4 ← DL.ask ((unN 5) a0); let y11 ← (DL.ask (szL [(.str [97, 110, 121]), (c2.getD 0 .non)])); let t91 ← (DL.ask ((notInD (c4.getD 1 .non) (.lst y11)).bind bOf)); seqF (if t91 = true then (pure (.rt (.bl false))) else (pure (.nx ()))) fun (q12 : Unit) => (do let t90 ← (DL.andM (DL.ask ((isD (c4.getD 3 .non) .non).bind bOf)) (do let y20 ← (Mo.lift (m__law_default_6094 [(c2.getD 0 .non)])); DL.ask ((neD (c2.getD 2 .non) y20).bind bOf))); seqF (if t90 = true then (pure (.rt (.bl false))) else (pure (.nx ()))) fun (q21 : Unit) => (do let t89 ← (DL.andM (DL.ask ((isNotD (c4.getD 3 .non) .non).bind bOf)) (DL.notM (do let x29 ← (chainM leD leD (DL.ask (ixD (c4.getD 3 .non) (.int 0))) (pure (c2.getD 2 .non)) (DL.ask (ixD (c4.getD 3 .non) (.int 1)))); DL.ask (bOf x29)))); seqF (if t89 = true then (pure (.rt (.bl false))) else (pure (.nx ()))) fun (q30 : Unit) => (do let v32 ← (Mo.lift (m__law_moved_e405 [a3, (c2.getD 1 .non)])); let x40 ← (DL.ask (ixD (c4.getD 2 .non) (.int 0))); let t88 ← (DL.ask ((eqD x40 (.str [126])).bind bOf)); seqF (if t88 = true then (do let v66 ← (andV (do let r46 ← DL.ask (listD [(c2.getD 3 .non)]); let x47 ← (DL.ask (szL r46)); Mo.lift (m__law_row_fits_3c3f [(c4.getD 4 .non), (.lst x47)])) (do let x64 ← (Mo.lift (m__law_site_8604 [a2, v32])); let x59 ← (DL.ask (ixD (c4.getD 2 .non) (.int 1))); let y65 ← (Mo.lift (m__law_site_8604 [a2, x59])); DL.ask (eqD x64 y65))); pure (.rt v66)) else (pure (.nx ()))) fun (q42 : Unit) => (do let v87 ← (andV (do let r70 ← DL.ask (listD [(c2.getD 3 .non)]); let x71 ← (DL.ask (szL r70)); Mo.lift (m__law_row_fits_3c3f [(c4.getD 4 .non), (.lst x71)])) (do let x84 ← (DL.ask (ixD (c4.getD 2 .non) (.int 1))); let r81 ← DL.ask (listD [v32]); let x82 ← (DL.ask (szL r81)); Mo.lift (m__law_row_fits_3c3f [x84, (.lst x82)]))); pure (.rt v87)))))) := by
  unfold b__law_matches_aa11; simp only [k__law_matches_aa11_0, k__law_matches_aa11_1, k__law_matches_aa11_2, k__law_matches_aa11_3, k__law_matches_aa11_4, k__law_matches_aa11_5, pure_bind, bind_assoc, mkL]
def m__law_matches_aa11 : List D → R D := apR4 fun a0 a1 a2 a3 => (runR false (b__law_matches_aa11 a0 a1 a2 a3))
end FN
namespace FN
open DL PySem PySem.W
def encS (q : Nat × Nat) : D × D := (.int (q.2 : Int), .int (q.1 : Int))
theorem law_site_ok {rows : List Row} {h : Hst} (hr : ∀ r ∈ rows, RowOk r) (hh : Labs h) : m__law_site_8604 [.lst (rowsD rows), hD h] = .ok (hD (siteN rows h)) := by
  have it : itD (.lst (rowsD rows)) = some (rows.map fun r => .str (rowT r)) := rfl
  unfold m__law_site_8604 apR2
  simp only [e__law_site_8604, sz2, askR, pure_bind, un2_2, it]
  rw [show ((D.int 0, D.int 1) : D × D) = encS (1, 0) from rfl, for_fold (β := Empty) (fun r => .str (rowT r)) RowOk encS (stepE h) (fun q r hk => ⟨.str (rowT r), rfl, .inl ?_⟩) rows (1, 0) hr]
  · show runR false (do let x114 ← (iteM (DL.ask ((gtD (encS (foldE rows h)).1 (.int 0)).bind bOf)) (pure (encS (foldE rows h)).1) (DL.ask (addD (encS (foldE rows h)).2 (.int 1)))); let x115 ← (DL.ask (negD x114)); let i116 ← DL.ask (intOf x115); let v120 ← (DL.ask (sliceD (hD h) (some i116) none)); pure (.rt v120)) = _
    unfold siteN
    generalize foldE rows h = q
    obtain ⟨l, e⟩ := q
    show runR false (do let x114 ← (iteM (DL.ask ((gtD (.int (e : Int)) (.int 0)).bind bOf)) (pure (.int (e : Int))) (DL.ask (addD (.int (l : Int)) (.int 1)))); let x115 ← (DL.ask (negD x114)); let i116 ← DL.ask (intOf x115); let v120 ← (DL.ask (sliceD (.tup (h.map .str)) (some i116) none)); pure (.rt v120)) = _
    by_cases c : 0 < e
    · have c' : (0 : Int) < (e : Int) := by omega
      have es : h.length - (sizeE (l, e) + 1) = h.length - e := by
        unfold sizeE
        rw [if_pos c]
        show h.length - (e - 1 + 1) = _
        omega
      simp only [gt_l, decide_eq_true c', iteM, Option.bind_some, bOf_bl, askR, pure_bind, if_true, neg_i, int_of, slice_t, cut_neg (A := h) (n := e) c, es]
      rfl
    · have c' : ¬ (0 : Int) < (e : Int) := by omega
      have es : sizeE (l, e) = l := if_neg c
      have ea : ((l : Int) + 1) = ((l + 1 : Nat) : Int) := by omega
      simp only [gt_l, decide_eq_false c', iteM, Option.bind_some, bOf_bl, askR, pure_bind, Bool.false_eq_true, if_false, add_ii, ea, neg_i, int_of, slice_t, cut_neg (A := h) (n := l + 1) (by omega), es]
      rfl
  · obtain ⟨t, l1, l2⟩ := law_split hk
    obtain ⟨k, A⟩ := r
    obtain ⟨l, e⟩ := q
    obtain ⟨hA, h1, h2, h3, h4⟩ := hk
    dsimp only at hA h1 h2 h3 h4
    have cn : cutL (h.map D.str) (some (-(A.length : Int))) none = (h.drop (h.length - A.length)).map D.str := cut_neg h1
    have eq : eqD (.tup ((h.drop (h.length - A.length)).map D.str)) (.tup (A.map .str)) = some (.bl (endsB h A)) := by rw [eqT (labs_drop _ hh) hA, ends_neg]
    have slh : ∀ lo hi, sliceD (hD h) lo hi = some (.tup (cutL (h.map D.str) lo hi)) := fun _ _ => rfl
    obtain ⟨c, r, ej, hc⟩ := head_lab hA h1
    have c33 : c ≠ 33 := fun e => by rw [e] at hc; revert hc; decide
    have a42 : ∀ a, a ∈ A → ¬ (a = [42]) := fun a m e => by
      have := (isLab_iff.mp (hA a m)).2.2 42 (by rw [e]; simp)
      revert this; decide
    simp only [str_of, askR, pure_bind, l1, l2, tup_lst]
    cases k with
    | ex =>
      have i0 : ixD (.str (rowT (.ex, A))) (.int 0) = some (.str [33]) := ix_zero (r := joinN [46] A)
      have lt : labT (.ex, A) = A := rfl
      have e33 : decide (([33] : List Nat) = [33]) = true := by decide
      simp only [i0, lt, eq_ss, e33, Option.bind_some, bOf_bl, askR, pure_bind, if_true, lenT, neg_i, int_of, slh, cn, eq, iteM]
      cases hb : endsB h A with
      | true =>
        simp only [if_true, encS, max_ii, askR, pure_bind, stepE, hb]
        rfl
      | false =>
        simp only [Bool.false_eq_true, if_false, stepE, hb]
        rfl
    | pl =>
      have i0 : ixD (.str (rowT (.pl, A))) (.int 0) = some (.str [c]) := by
        show ixD (.str (joinN [46] A)) (.int 0) = _
        rw [ej]; exact ix_zero
      have lt : labT (.pl, A) = A := rfl
      have e33 : decide (([c] : List Nat) = [33]) = false := by simp [c33]
      obtain ⟨a, A', rfl⟩ : ∃ a A', A = a :: A' := by
        cases A with
        | nil => simp at h1
        | cons a A' => exact ⟨a, A', rfl⟩
      have ia : ixD (.tup ((a :: A').map D.str)) (.int 0) = some (.str a) := ix_hd
      have e42 : decide (a = [42]) = false := decide_eq_false (a42 a (.head _))
      simp only [i0, lt, eq_ss, e33, Option.bind_some, bOf_bl, askR, pure_bind, Bool.false_eq_true, if_false, ia, e42, lenT, neg_i, int_of, slh, cn, eq]
      cases hb : endsB h (a :: A') with
      | true =>
        simp only [if_true, encS, max_ii, askR, pure_bind, stepE, hb]
        rfl
      | false =>
        simp only [Bool.false_eq_true, if_false, stepE, hb]
        rfl
    | wi =>
      have i0 : ixD (.str (rowT (.wi, A))) (.int 0) = some (.str [42]) := ix_zero (r := 46 :: joinN [46] A)
      have lt : labT (.wi, A) = [42] :: A := rfl
      have e33 : decide (([42] : List Nat) = [33]) = false := by decide
      have e42 : decide (([42] : List Nat) = [42]) = true := by decide
      have ia : ixD (.tup (([42] :: A).map D.str)) (.int 0) = some (.str [42]) := ix_hd
      have ll : lenD [.tup (([42] :: A).map D.str)] = some (.int ((A.length + 1 : Nat) : Int)) := lenT
      have ng : -((A.length + 1 : Nat) : Int) + 1 = -(A.length : Int) := by omega
      have sl1 : sliceD (.tup (([42] :: A).map D.str)) (some 1) none = some (.tup (A.map .str)) := by
        rw [slice_t, cut_lo (by omega)]; rfl
      simp only [i0, lt, eq_ss, e33, e42, Option.bind_some, bOf_bl, askR, pure_bind, Bool.false_eq_true, if_false, if_true, ia, ll, lenH, ge_l, neg_i, add_ii, ng, int_of, slh, cn, sl1, eq, iteM, DL.andM]
      by_cases c : A.length < h.length
      · have c' : ((A.length + 1 : Nat) : Int) ≤ (h.length : Int) := by omega
        simp only [decide_eq_true c', if_true]
        cases hb : endsB h A with
        | true =>
          simp only [if_true, encS, max_ii, askR, pure_bind, stepE, hb, if_pos c]
          rfl
        | false =>
          simp only [Bool.false_eq_true, if_false, stepE, hb]
          rfl
      · have c' : ¬ ((A.length + 1 : Nat) : Int) ≤ (h.length : Int) := by omega
        simp only [decide_eq_false c', Bool.false_eq_true, if_false, stepE, if_neg c]
        cases hb : endsB h A <;> rfl
theorem law_moved_ok {kin : List (List Hst)} {h : Hst} (hk : ∀ g ∈ kin, GrOk g) (hh : Labs h) (hl : h.length ≤ 1000) : m__law_moved_e405 [.lst (kin.map grD), hD h] = .ok (hD (movedN kin h)) := by
  have s0 : szL [] = some [] := sz_ok (by simp)
  have it : itD (.lst (kin.map grD)) = some (kin.map grD) := rfl
  have bo := best_ok (h := h) hk
  unfold m__law_moved_e405 apR2
  simp only [e__law_moved_e405, s0, sz2, askR, pure_bind, un2_2, it]
  rw [show ((D.tup [], D.tup []) : D × D) = encL none from rfl, for_fold (β := Empty) grD GrOk encL (stepG h) (fun q g kg => ⟨grD g, rfl, .inl ?_⟩) kin none hk]
  · show runR false (do let x53 ← (DL.ask (lenD [hD h])); let y54 ← (DL.ask (lenD [(encL (bestN kin h)).1])); let x55 ← (DL.ask (subD x53 y54)); let i56 ← DL.ask (intOf x55); let x60 ← (DL.ask (sliceD (hD h) none (some i56))); let v62 ← (DL.ask (addD x60 (encL (bestN kin h)).2)); pure (.rt v62)) = _
    unfold movedN
    cases hb : bestN kin h with
    | none =>
      have l0 : lenD [(encL none).1] = some (.int ((0 : Nat) : Int)) := rfl
      have sl : sliceD (hD h) none (some ((h.length : Int) - ((0 : Nat) : Int))) = some (hD h) := by
        show sliceD (.tup (h.map .str)) _ _ = _
        rw [slice_t, cut_take (Nat.zero_le _), Nat.sub_zero, List.take_length]; rfl
      have ad : addD (hD h) (encL none).2 = some (hD h) := by
        show addD (.tup (h.map D.str)) (.tup []) = _
        rw [add_tt (by simp; omega), List.append_nil]; rfl
      simp only [lenH, l0, sub_ii, int_of, sl, ad, askR, pure_bind]
      rfl
    | some x =>
      obtain ⟨b1, b2⟩ := bo x hb
      have l0 : lenD [(encL (some x)).1] = some (.int (x.1.length : Int)) := lenH
      have sl : sliceD (hD h) none (some ((h.length : Int) - (x.1.length : Int))) = some (hD (h.take (h.length - x.1.length))) := by
        show sliceD (.tup (h.map .str)) _ _ = _
        rw [slice_t, cut_take b1]; rfl
      have ad : addD (hD (h.take (h.length - x.1.length))) (encL (some x)).2 = some (hD (h.take (h.length - x.1.length) ++ x.2)) := by
        show addD (.tup (_ : List D)) (.tup (_ : List D)) = _
        rw [add_tt (by have := b2.2.2; simp; omega), ← List.map_append]; rfl
      simp only [lenH, l0, sub_ii, int_of, sl, ad, askR, pure_bind]
      rfl
  · obtain ⟨g0, gs, e, ix, e2, h0⟩ := grp_head kg
    have ig : itD (grD g) = some (g.map hD) := rfl
    simp only [ig, askR, pure_bind]
    rw [show ((encL q).1, (encL q).2) = encL q from rfl, for_fold (β := D × D) hD MemOk encL (stepM h g0) (fun q m km => ⟨hD m, rfl, .inl ?_⟩) g q kg.1]
    · show R.ok (Fl.nx (encL (g.foldl (stepM h g0) q))) = _
      unfold stepG
      rw [e2]
    · have l1 := km.2.1
      have cn : cutL (h.map D.str) (some (-(m.length : Int))) none = (h.drop (h.length - m.length)).map D.str := cut_neg l1
      have eq : eqD (.tup ((h.drop (h.length - m.length)).map D.str)) (hD m) = some (.bl (endsB h m)) := by
        show eqD _ (.tup (m.map .str)) = _
        rw [eqT (labs_drop _ hh) km.1, ends_neg]
      have slh : ∀ lo hi, sliceD (hD h) lo hi = some (.tup (cutL (h.map D.str) lo hi)) := fun _ _ => rfl
      have lb : lenD [(encL q).1] = some (.int (bestLen q : Int)) := by
        cases q with
        | none => rfl
        | some x => exact lenH
      simp only [lenH, neg_i, int_of, slh, cn, eq, lb, gt_l, Option.bind_some, bOf_bl, askR, pure_bind, DL.andM]
      unfold stepM
      cases hb : endsB h m with
      | false =>
        simp only [Bool.false_eq_true, if_false, false_and]
        rfl
      | true =>
        by_cases c : bestLen q < m.length
        · have c' : (bestLen q : Int) < (m.length : Int) := by omega
          simp only [decide_eq_true c', if_true, ix, askR, pure_bind, c, and_self]
          rfl
        · have c' : ¬ (bestLen q : Int) < (m.length : Int) := by omega
          simp only [decide_eq_false c', Bool.false_eq_true, if_true, if_false, c, and_false]
          rfl
theorem match40 {x : D} {T : List Nat} {F : List D} (r : RuD x T F) {sch : List Nat} {A B : Hst} {i : Int} (hg : Pg sch A i B) {rows : List Row} {kin : List (List Hst)} (hr : ∀ r ∈ rows, RowOk r) (hk : ∀ g ∈ kin, GrOk g) :
    ∃ b, m_rule_fits_7439 [.ins "Rule" RNs F, .tup (rowsD rows), hD (movedN kin A), pgD sch A i B] = .ok (.bl b) ∧ m__law_matches_aa11 [x, .tup [.str sch, .tup (A.map .str), .int i, .tup (B.map .str)], .lst (rowsD rows), .lst (kin.map grD)] = .ok (.bl b) := by
  cases r with
  | @mk s w nm t pj part pd near host path J hs hw ht hn hp =>
    have hA1 := lab_ok_row hg.rA
    have hB1 := lab_ok_row hg.rB
    have lA0 : Labs A := hA1.2
    have lB0 : Labs B := hB1.2
    have lA : A.length ≤ 1000 := by have := hA1.1; omega
    have lB : B.length ≤ 1000 := by have := hB1.1; omega
    have n1 : 1 ≤ A.length := List.length_pos_iff.mpr hg.nA
    obtain ⟨b, o1, ⟨sh, d1, f1⟩, lf⟩ := path40 hp lB0 lB
    obtain ⟨m1, m2, m3⟩ := moved_facts hk lA0 n1
    have lm := law_moved_ok hk lA0 lA
    have lm' : m__law_moved_e405 [.lst (kin.map grD), .tup (A.map D.str)] = .ok (hD (movedN kin A)) := lm
    generalize hM : movedN kin A = M at m1 m2 m3 lm' ⊢
    have lM : M.length ≤ 1000 := by omega
    have u4 : ∀ a b c d : D, unN 4 (.tup [a, b, c, d]) = some [a, b, c, d] := fun _ _ _ _ => rfl
    have u5 : ∀ a b c d e : D, unN 5 (.tup [a, b, c, d, e]) = some [a, b, c, d, e] := fun _ _ _ _ _ => rfl
    have lB2 : listD [.tup (B.map D.str)] = some (B.map .str) := rfl
    have lM2 : listD [hD M] = some (M.map .str) := rfl
    have sB : szL (B.map D.str) = some (B.map .str) := sz_ok (by rw [List.length_map]; omega)
    have sM : szL (M.map D.str) = some (M.map .str) := sz_ok (by rw [List.length_map]; omega)
    have hostP : ∃ c, m_host_fits_56fd [.ins "Rule" RNs (ruF s w nm t pj pd near host path), .tup (rowsD rows), hD M] = .ok (.bl c) ∧ (do let x40 ← (DL.ask (ixD part (.int 0))); let t88 ← (DL.ask ((eqD x40 (.str [126])).bind bOf)); seqF (if t88 = true then (do let v66 ← (andV (pure (.bl b)) (do let x64 ← (Mo.lift (m__law_site_8604 [.lst (rowsD rows), hD M])); let x59 ← (DL.ask (ixD part (.int 1))); let y65 ← (Mo.lift (m__law_site_8604 [.lst (rowsD rows), x59])); DL.ask (eqD x64 y65))); pure (.rt v66)) else (pure (.nx ()))) fun (q42 : Unit) => (do let v87 ← (andV (pure (.bl b)) (do let x84 ← (DL.ask (ixD part (.int 1))); let r83 ← DL.ask (some (M.map D.str)); Mo.lift (m__law_row_fits_3c3f [x84, .lst r83]))); pure (.rt v87)) : R (Fl Unit Empty)) = .ok (.rt (.bl (b && c))) := by
      have e126 : decide (([126] : List Nat) = [126]) = true := rfl
      cases hn with
      | @near A' h0 hl hA =>
        have i0 : ixD (.tup [.str [126], .tup (A'.map D.str)]) (.int 0) = some (.str [126]) := rfl
        have i1 : ixD (.tup [.str [126], .tup (A'.map D.str)]) (.int 1) = some (hD A') := rfl
        have hA' : Labs A' := hA
        have eq : eqD (hD (siteN rows M)) (hD (siteN rows A')) = some (.bl (decide (siteN rows M = siteN rows A'))) := eqT (labs_drop _ m1) (labs_drop _ hA')
        refine ⟨decide (siteN rows M = siteN rows A'), near_fits rfl hr hA' m1, ?_⟩
        simp only [i0, i1, askR, pure_bind, eq_ss, e126, Option.bind_some, bOf_bl, if_true, andV, tru_bl, law_site_ok hr m1, law_site_ok hr hA', lift_pR, okpR, eq]
        cases b <;> rfl
      | @host I h t2 g p h0 hl =>
        have i0 : ixD (.tup [.str [], .lst (I.map D.str)]) (.int 0) = some (.str []) := rfl
        have i1 : ixD (.tup [.str [], .lst (I.map D.str)]) (.int 1) = some (.lst (I.map .str)) := rfl
        have e0 : decide (([] : List Nat) = [126]) = false := by decide
        have lw := host43 p hl (labs_sh m1) lM
        refine ⟨rowN h t2 g M.reverse, pat_fits p hl m1 lM, ?_⟩
        simp only [i0, i1, askR, pure_bind, eq_ss, e0, Option.bind_some, bOf_bl, Bool.false_eq_true, if_false, sqp, andV, tru_bl, lw, lift_pR, okpR]
        cases b <;> rfl
    obtain ⟨c, h1, h2⟩ := hostP
    refine ⟨fitB w sch i pd && (b && c), rule_fits_ok hw ht hg o1 d1 f1 h1, ?_⟩
    unfold m__law_matches_aa11 apR4
    simp only [e__law_matches_aa11, u4, u5, askR, pure_bind, List.getD_cons_zero, List.getD_cons_succ, sz2, lm', lift_pR, okpR]
    simp only [lB2, sB, lf, lM2, sM, askR, pure_bind, okpR]
    have gt := fun k => gate43 (i := i) hw ht hg.sw (k := k)
    simp only [lift_pR] at gt
    rw [gt]
    have h3 := h2
    simp only [askR, pure_bind, lift_pR, okpR] at h3
    by_cases c1 : fitB w sch i pd = true
    · rw [if_pos c1, h3, c1]
      rfl
    · have c2 : fitB w sch i pd = false := by simpa using c1
      rw [if_neg c1, c2]
      rfl
theorem notin_hosts {m : Hst} {T : List Hst} (hm : Labs m) (hT : ∀ t ∈ T, Labs t) : (notInD (hD m) (.lst (T.map hD))).bind bOf = some (!decide (m ∈ T)) := by
  have h := in_hosts hm hT
  unfold inD at h
  unfold notInD
  cases e : inP (hD m) (.lst (T.map hD)) with
  | none => rw [e] at h; cases h
  | some b =>
    rw [e] at h
    have h' : some b = some (decide (m ∈ T)) := h
    cases h'
    rfl
theorem ix_tup {ds : List D} {i : Int} (h0 : 0 ≤ i) (h : i < ds.length) : ixD (.tup ds) (.int i) = some (ds[i.toNat]'(by omega)) := by
  have e : ixD (.tup ds) (.int i) = ixD (.lst ds) (.int i) := rfl
  rw [e, ix_lst h0 h]
end FN
namespace FN
open DL PySem PySem.W
def fx (I : List (List Nat)) : Nat := (I.filter fun z => !decide (42 ∈ z)).length
def one (b : Bool) : Int := if b = true then 1 else 0
end FN
namespace FN
open DL PySem PySem.W
abbrev R3 := D × List Nat × List D
def RuOk (r : R3) : Prop := RuD r.1 r.2.1 r.2.2
def ruO (r : R3) : D := .ins "Rule" RNs r.2.2
def pgL (sch : List Nat) (A : Hst) (i : Int) (B : Hst) : D := .tup [.str sch, .tup (A.map .str), .int i, .tup (B.map .str)]
section
variable (rows : List Row) (kin : List (List Hst)) (sch : List Nat) (A : Hst) (i : Int) (B : Hst)
def mt (r : R3) : Bool := match m__law_matches_aa11 [r.1, pgL sch A i B, .lst (rowsD rows), .lst (kin.map grD)] with
  | .ok (.bl b) => b
  | _ => false
end
variable {rows : List Row} {kin : List (List Hst)} {sch : List Nat} {A : Hst} {i : Int} {B : Hst}
theorem mt_ok {r : R3} (h : RuOk r) (hg : Pg sch A i B) (hr : ∀ r ∈ rows, RowOk r) (hk : ∀ g ∈ kin, GrOk g) : m__law_matches_aa11 [r.1, pgL sch A i B, .lst (rowsD rows), .lst (kin.map grD)] = .ok (.bl (mt rows kin sch A i B r)) ∧ m_rule_fits_7439 [ruO r, .tup (rowsD rows), hD (movedN kin A), pgD sch A i B] = .ok (.bl (mt rows kin sch A i B r)) := by
  obtain ⟨b, h1, h2⟩ := match40 h hg hr hk
  have e : mt rows kin sch A i B r = b := by
    show (match m__law_matches_aa11 [r.1, pgL sch A i B, .lst (rowsD rows), .lst (kin.map grD)] with | .ok (.bl b) => b | _ => false) = b
    rw [show m__law_matches_aa11 [r.1, pgL sch A i B, .lst (rowsD rows), .lst (kin.map grD)] = .ok (.bl b) from h2]
  rw [e]
  exact ⟨h2, h1⟩
end FN
namespace FN
open DL PySem PySem.W
end FN
namespace FN
open DL PySem PySem.W
def off (r : R3) : Bool := match ixD r.1 (.int 0) with
  | some (.str s) => decide (s = [43])
  | _ => false
end FN
namespace FN
open DL PySem PySem.W
structure Hm where
  w : List Nat
  A : List (List Nat)
  i : Int
  B : List (List Nat)
def Hm.t (h : Hm) : List Nat := ptx h.w h.A h.i h.B
def Hm.d (h : Hm) : D := pgD h.w h.A h.i h.B
end FN
namespace FN
open DL PySem PySem.W
end FN
namespace FN
open DL PySem PySem.W
end FN
namespace FN
open DL PySem PySem.W
def headD : List D → D
  | [] => .non
  | d :: _ => d
end FN
namespace FN
open DL
end FN
namespace FN
open DL PySem PySem.W
end FN
namespace FN
open DL PySem PySem.W
end FN
namespace FN
open DL PySem PySem.W
end FN
namespace DL
open PySem PySem.Spec PyProof.Rows L2 NdefX LamX
end DL
namespace DL
open PySem PySem.Spec PyProof.Rows L2 PySem.Froz
section
variable {P : Program} {w : World} {A : Around} {E : Value → Shared → Prop} {s : Shared}
def freshS (w : World) : Obj := { cls := .type "set", dict := none, data := .set #[] 0 (.fresh 0 0 (!w.params.followText "set-order")) }
end
end DL
namespace DL
open PySem PySem.Spec PyProof.Rows L2 PySem.Froz
end DL
namespace DL
open PySem PySem.Spec PyProof.Rows L2 PySem.Froz
def toS (z : List Nat) : Str := ⟨z.toArray⟩
def dd : List (List Nat) → List (List Nat)
  | [] => []
  | x :: r => if x ∈ r then dd r else x :: dd r
def strsD : List D → Option (List (List Nat))
  | [] => some []
  | .str z :: r => (strsD r).map (z :: ·)
  | _ :: _ => none
theorem strsD_eq : ∀ {ds : List D} {l : List (List Nat)}, strsD ds = some l → ds = l.map .str
  | [], _, h => by cases h; rfl
  | .str z :: r, l, h => by
    unfold strsD at h
    cases q : strsD r with
    | none => rw [q] at h; cases h
    | some l' => rw [q] at h; cases h; rw [List.map_cons, ← strsD_eq q]
  | .non :: _, _, h => by cases h
  | .bl _ :: _, _, h => by cases h
  | .int _ :: _, _, h => by cases h
  | .tup _ :: _, _, h => by cases h
  | .lst _ :: _, _, h => by cases h
  | .dic _ _ :: _, _, h => by cases h
  | .ins _ _ _ :: _, _, h => by cases h
  | .scr _ :: _, _, h => by cases h
  | .xc _ _ _ _ :: _, _, h => by cases h
@[simp] theorem strsD_map : ∀ l : List (List Nat), strsD (l.map .str) = some l
  | [] => rfl
  | z :: l => by rw [List.map_cons, strsD, strsD_map l]; rfl
end DL
namespace DL
open PySem PySem.Spec PyProof.Rows L2 LamX NdefX
end DL
namespace DL
open PySem PySem.Spec PyProof.Rows L2 LamX
end DL
namespace FN
open DL PySem PySem.W
theorem endsB_iff {h A : Hst} : endsB h A = true ↔ ∃ p, h = p ++ A := by
  unfold endsB
  rw [Bool.and_eq_true, decide_eq_true_eq, decide_eq_true_eq]
  constructor
  · rintro ⟨_, e⟩
    exact ⟨h.take (h.length - A.length), by conv => lhs; rw [← List.take_append_drop (h.length - A.length) h, e]⟩
  · rintro ⟨p, rfl⟩
    rw [List.length_append, Nat.add_sub_cancel]
    exact ⟨by omega, by simp⟩
def pairsN (kin : List (List Hst)) : List (Hst × Hst) := kin.flatMap fun g => g.map fun m => (m, g.headD [])
def stepP (h : Hst) (q : Best) (x : Hst × Hst) : Best := if endsB h x.1 = true ∧ bestLen q < x.1.length then some x else q
theorem best_pairs (kin : List (List Hst)) (h : Hst) : bestN kin h = (pairsN kin).foldl (stepP h) none := by
  unfold bestN pairsN
  generalize (none : Best) = q
  induction kin generalizing q with
  | nil => rfl
  | cons g kin ih =>
    rw [List.foldl_cons, List.flatMap_cons, List.foldl_append, ih, List.foldl_map]
    rfl
theorem pairs_fst : ∀ kin : List (List Hst), (pairsN kin).map Prod.fst = kin.flatten
  | [] => rfl
  | g :: kin => by
    unfold pairsN
    rw [List.flatMap_cons, List.map_append, List.flatten_cons, List.map_map]
    congr 1
    · exact List.map_id g
    · exact pairs_fst kin
theorem mem_pairs {kin : List (List Hst)} {x : Hst × Hst} : x ∈ pairsN kin ↔ ∃ g ∈ kin, x.1 ∈ g ∧ x.2 = g.headD [] := by
  unfold pairsN
  rw [List.mem_flatMap]
  constructor
  · rintro ⟨g, hg, m⟩
    obtain ⟨y, hy, rfl⟩ := List.mem_map.mp m
    exact ⟨g, hg, hy, rfl⟩
  · rintro ⟨g, hg, m, e⟩
    exact ⟨g, hg, List.mem_map.mpr ⟨x.1, m, by rw [← e]⟩⟩
theorem nodup_inj {α β : Type} {f : α → β} : ∀ {xs : List α}, (xs.map f).Nodup → ∀ {x y}, x ∈ xs → y ∈ xs → f x = f y → x = y
  | [], _, _, _, h, _, _ => by cases h
  | a :: xs, hn, x, y, hx, hy, e => by
    rw [List.map_cons, List.nodup_cons] at hn
    rcases List.mem_cons.mp hx with ex | hx' <;> rcases List.mem_cons.mp hy with ey | hy'
    · rw [ex, ey]
    · exact (hn.1 (List.mem_map.mpr ⟨y, hy', by rw [← e, ex]⟩)).elim
    · exact (hn.1 (List.mem_map.mpr ⟨x, hx', by rw [e, ey]⟩)).elim
    · exact nodup_inj hn.2 hx' hy' e
theorem foldP {h : Hst} : ∀ (L : List (Hst × Hst)) (q : Best), (L.foldl (stepP h) q = q ∨ ∃ x ∈ L, L.foldl (stepP h) q = some x ∧ endsB h x.1 = true) ∧ bestLen q ≤ bestLen (L.foldl (stepP h) q) ∧ ∀ x ∈ L, endsB h x.1 = true → x.1.length ≤ bestLen (L.foldl (stepP h) q)
  | [], q => ⟨.inl rfl, Nat.le_refl _, fun x m => by cases m⟩
  | a :: L, q => by
    obtain ⟨h1, h2, h3⟩ := foldP (h := h) L (stepP h q a)
    rw [List.foldl_cons]
    by_cases c : endsB h a.1 = true ∧ bestLen q < a.1.length
    · have e : stepP h q a = some a := if_pos c
      have l : bestLen (stepP h q a) = a.1.length := by rw [e]; rfl
      refine ⟨.inr ?_, by omega, fun x m hx => ?_⟩
      · rcases h1 with h1 | ⟨x, m, h1, hx⟩
        · exact ⟨a, .head _, by rw [h1, e], c.1⟩
        · exact ⟨x, .tail _ m, h1, hx⟩
      · rcases List.mem_cons.mp m with rfl | m
        · omega
        · exact h3 x m hx
    · have e : stepP h q a = q := if_neg c
      rw [e] at h1 h2 h3 ⊢
      refine ⟨?_, h2, fun x m hx => ?_⟩
      · rcases h1 with h1 | ⟨x, m, h1, hx⟩
        · exact .inl h1
        · exact .inr ⟨x, .tail _ m, h1, hx⟩
      · rcases List.mem_cons.mp m with rfl | m
        · have : ¬ bestLen q < x.1.length := fun k => c ⟨hx, k⟩
          omega
        · exact h3 x m hx
theorem pair_mem {kin : List (List Hst)} (K : KinOk kin) {x : Hst × Hst} (hx : x ∈ pairsN kin) : MemOk x.1 ∧ MemOk x.2 ∧ (x.2, x.2) ∈ pairsN kin := by
  obtain ⟨g, hg, m, e⟩ := mem_pairs.mp hx
  obtain ⟨g0, gs, e1, _, e2, h0⟩ := grp_head (K.1 g hg)
  have e3 : x.2 = g0 := by rw [e, e2]
  exact ⟨(K.1 g hg).1 _ m, by rw [e3]; exact h0, mem_pairs.mpr ⟨g, hg, by rw [e3, e1]; exact .head _, e⟩⟩
theorem best_some {kin : List (List Hst)} {h : Hst} {x : Hst × Hst} (hb : bestN kin h = some x) : x ∈ pairsN kin ∧ endsB h x.1 = true ∧ ∀ y ∈ pairsN kin, endsB h y.1 = true → y.1.length ≤ x.1.length := by
  rw [best_pairs] at hb
  obtain ⟨h1, _, h3⟩ := foldP (h := h) (pairsN kin) none
  rw [hb] at h1 h3
  rcases h1 with h1 | ⟨y, m, h1, hy⟩
  · cases h1
  · cases h1
    exact ⟨m, hy, h3⟩
theorem best_none {kin : List (List Hst)} (K : KinOk kin) {h : Hst} (hb : bestN kin h = none) : ∀ y ∈ pairsN kin, endsB h y.1 = false := fun y m => by
  rw [best_pairs] at hb
  obtain ⟨_, _, h3⟩ := foldP (h := h) (pairsN kin) none
  rw [hb] at h3
  cases c : endsB h y.1 with
  | false => rfl
  | true =>
    have := h3 y m c
    have := (pair_mem K m).1.2.1
    simp only [bestLen] at *
    omega
theorem best_is {kin : List (List Hst)} (K : KinOk kin) {h : Hst} {x : Hst × Hst} (hx : x ∈ pairsN kin) (he : endsB h x.1 = true) (mx : ∀ y ∈ pairsN kin, endsB h y.1 = true → y.1.length ≤ x.1.length) : bestN kin h = some x := by
  cases hb : bestN kin h with
  | none =>
    have := best_none K hb x hx
    rw [he] at this; cases this
  | some y =>
    obtain ⟨y1, y2, y3⟩ := best_some hb
    have l : y.1.length = x.1.length := Nat.le_antisymm (mx y y1 y2) (y3 x hx he)
    obtain ⟨p, e1⟩ := endsB_iff.mp he
    obtain ⟨p', e2⟩ := endsB_iff.mp y2
    have e : y.1 = x.1 := (List.append_inj' (e2.symm.trans e1) l).2
    rw [nodup_inj (by rw [pairs_fst]; exact K.2.1) y1 hx e]
theorem moved_none {kin : List (List Hst)} {h : Hst} (hb : bestN kin h = none) : movedN kin h = h := by
  unfold movedN; rw [hb]
theorem moved_some {kin : List (List Hst)} {h : Hst} {x : Hst × Hst} (hb : bestN kin h = some x) {p : Hst} (e : h = p ++ x.1) : movedN kin h = p ++ x.2 := by
  unfold movedN
  rw [hb, e]
  show (p ++ x.1).take ((p ++ x.1).length - x.1.length) ++ x.2 = _
  rw [List.length_append, Nat.add_sub_cancel, List.take_left]
def kP (A : List (List Nat)) : PyData := .tuple [.int A.length, .tuple (A.map pr)]
theorem kP_py (A : List (List Nat)) : toPy (keyW A) = some (kP A) := by
  unfold keyW kP
  simp [toPy, toPyL, toPy_prs]
theorem kP_alike (A B : List (List Nat)) : alike (kP A) (kP B) = true := by simp [kP, alike, alikeAll, alike_prs]
theorem kP_depth (A : List (List Nat)) : (kP A).depth ≤ 3 := by
  have h1 := depth_prs A
  simp only [kP, PyData.depth, PyData.depthAll]
  omega
theorem kP_lt (A B : List (List Nat)) : dataLt (kP A) (kP B) = beforeW A B := by
  have h := key_lt A B
  have e : ltD (keyW A) (keyW B) = (ltP (keyW A) (keyW B)).map .bl := rfl
  rw [e] at h
  have e2 : ltP (keyW A) (keyW B) = some (dataLt (kP A) (kP B)) := by
    unfold ltP
    rw [kP_py, kP_py]
    have c : (alike (kP A) (kP B) && decide ((kP A).depth ≤ 60) && (ltP.isNonP (kP A) == false)) = true := by
      have := kP_depth A
      rw [decide_eq_true (show (kP A).depth ≤ 60 by omega), kP_alike]
      rfl
    simp only [c, if_true]
  rw [e2] at h
  simpa using h
def hltB (A B : Hst) : Bool := beforeW A.reverse B.reverse
def srtH (T : List Hst) : List Hst := T.mergeSort fun a b => !hltB b a
end FN
namespace DL
open PySem PySem.Spec PyProof.Rows L2 PySem.Froz
abbrev KTx := List Str
section
variable (P : Program) (w : World)
abbrev thS (k : KTx) : Int := tupleKeyHash (strKind P w) k
abbrev IsTx (h : Heap) (k : KTx) (b : Addr) : Prop := IsTupleKey (strKind P w) h k b
def rowS (p : Addr × KTx) : Int × Value := (thS P w p.2, .ref p.1)
structure TuO (L : List (Addr × KTx)) (es : Array (Int × Value)) (t : SetTable) : Prop where
  rows : es.toList = L.map (rowS P w)
  tab : L2.TabOk t (L.map fun p => thS P w p.2)
  nd : (L.map (·.2)).Nodup
  led : w.params.followText "set-order" = true ∨ t.led = true
  room : L.length * 5 < t.mask * 3
  few : L.length < 64
def TuAt (h : Heap) (D : Addr) (L : List (Addr × KTx)) : Prop := ∃ o es ep t, h.get? D = some o ∧ o.ExactSet ∧ o.data = .set es ep t ∧ TuO P w L es t
end
section
variable {P : Program} {w : World} {A : Around} {E : Value → Shared → Prop} {s : Shared}
theorem isTx_items {k : KTx} {vs : List Value} (h : ItemsAre (strKind P w) k vs) : ∀ v ∈ vs, ∃ x t, v = Value.str x t := by
  induction h with
  | nil => intro v m; cases m
  | @cons x u xs us h1 _ ih =>
    intro v m
    rcases List.mem_cons.mp m with rfl | m
    · exact ⟨x, Value.isStrOf_shape h1⟩
    · exact ih v m
theorem isTx_mono {h h' : Heap} {k : KTx} {b : Addr} (x : IsTx P w h k b) (kp : ∀ o, h.get? b = some o → h'.get? b = some o) : IsTx P w h' k b := by
  obtain ⟨o, its, n, e, r⟩ := x
  exact ⟨o, its, n, kp o e, r⟩
theorem made_tx {k : KTx} {b : Addr} {Q : Bool → Shared → Prop} (x : IsTx P w s.heap k b) (h : Q false s) : wpAny (model P w) A (ofAClassStatement 8 (.ref b)) Q E s := by
  have ty := x.typeIs
  obtain ⟨o, its, n, e, _, d, i⟩ := x
  unfold ofAClassStatement
  refine wpAny_bind (wpAny_typeOf ty ?_)
  have q : (("tuple" : String) == "tuple") = true := rfl
  simp only [q, if_true, Bool.not_true, Bool.false_eq_true, if_false]
  try refine wpAny_bind (wpAny_pure ?_)
  try simp only [Bool.not_true, Bool.false_eq_true, if_false]
  show wpAny _ _ (seqItems? (.ref b) >>= _) _ _ s
  refine wpAny_bind (wpAny_seqItems e d ?_)
  dsimp only
  refine wpAny_bind ?_
  show wpAny _ _ (forIn its _ _) _ _ s
  rw [← Array.forIn_toList]
  refine wpAny_forIn_list _ (fun more acc s2 => acc.1 = none ∧ s2 = s ∧ ∀ v ∈ more, ∃ x t, v = Value.str x t) _ (fun v more acc s2 hI => ?_) (fun acc s2 hI => ?_) _ _ ⟨rfl, rfl, isTx_items i⟩
  · obtain ⟨h1, rfl, h2⟩ := hI
    obtain ⟨x, t, rfl⟩ := h2 v (.head _)
    rw [show ofAClassStatement 7 (.str x t) = pure false from rfl]
    refine wpAny_bind (wpAny_pure ?_)
    simp only [Bool.false_eq_true, if_false]
    exact wpAny_pure ⟨rfl, rfl, fun u m => h2 u (.tail _ m)⟩
  · obtain ⟨a1, a2⟩ := acc
    obtain ⟨h1, rfl, _⟩ := hI
    cases (show a1 = none from h1)
    exact wpAny_pure h
theorem byval_tx {k : KTx} {b : Addr} {Q : Bool → Shared → Prop} (x : IsTx P w s.heap k b) (h : ∀ c, Q c s) : wpAny (model P w) A (hashByValue 8 (.ref b)) Q E s := by
  have ty := x.typeIs
  obtain ⟨o, its, n, e, _, d, i⟩ := x
  unfold hashByValue
  refine wpAny_bind (wpAny_specialOf ty F.slot_tuple_hash.lookup ?_)
  show wpAny _ _ (seqItems? (.ref b) >>= _) _ _ s
  refine wpAny_bind (wpAny_seqItems e d ?_)
  refine wpAny_bind ?_
  show wpAny _ _ (forIn its _ _) _ _ s
  rw [← Array.forIn_toList]
  refine wpAny_forIn_list _ (fun more acc s2 => acc.1 = none ∧ s2 = s ∧ ∀ v ∈ more, ∃ x t, v = Value.str x t) _ (fun v more acc s2 hI => ?_) (fun acc s2 hI => ?_) _ _ ⟨rfl, rfl, isTx_items i⟩
  · obtain ⟨h1, rfl, h2⟩ := hI
    obtain ⟨x, t, rfl⟩ := h2 v (.head _)
    rw [show hashByValue 7 (.str x t) = pure false from rfl]
    refine wpAny_bind (wpAny_pure ?_)
    simp only [Bool.not_false, if_true]
    exact wpAny_pure (wpAny_pure (h false))
  · obtain ⟨a1, a2⟩ := acc
    obtain ⟨h1, rfl, _⟩ := hI
    cases (show a1 = none from h1)
    exact wpAny_pure (h true)
theorem unseen_tx {k : KTx} {b : Addr} {Q : Bool → Shared → Prop} (x : IsTx P w s.heap k b) {ys : List Value} (hy : ∀ y ∈ ys, ∃ z c, y = Value.ref c ∧ IsTx P w s.heap z c) (h : Q false s) : wpAny (model P w) A (searchCouldBeSeen (.ref b) ys) Q E s := by
  unfold searchCouldBeSeen
  refine wpAny_bind ?_
  refine wpAny_forIn_list _ (fun more acc s2 => acc.1 = none ∧ s2 = s ∧ ∀ y ∈ more, ∃ z c, y = Value.ref c ∧ IsTx P w s.heap z c) _ (fun v more acc s2 hI => ?_) (fun acc s2 hI => ?_) _ _ ⟨rfl, rfl, hy⟩
  · obtain ⟨h1, rfl, h2⟩ := hI
    obtain ⟨z, c, rfl, hc⟩ := h2 v (.head _)
    have on : (none : Option Bool) = none ∧ s2 = s2 ∧ ∀ y ∈ more, ∃ z c, y = Value.ref c ∧ IsTx P w s2.heap z c := ⟨rfl, rfl, fun u m => h2 u (.tail _ m)⟩
    dsimp only
    by_cases q : (b == c || (carriedByValue (.ref b) && carriedByValue (.ref c))) = true
    · exact wp_if_pos q (wpAny_pure on)
    · refine wp_if_neg q (wpAny_bind (wpAny_eqIsQuiet_tuple x ?_))
      simp only [Bool.not_true, Bool.false_eq_true, if_false]
      refine wpAny_bind (wpAny_eqIsQuiet_tuple hc ?_)
      simp only [Bool.not_true, Bool.false_eq_true, if_false]
      refine wpAny_bind (made_tx x ?_)
      simp only [Bool.false_eq_true, if_false]
      refine wpAny_bind (made_tx hc ?_)
      simp only [Bool.false_eq_true, if_false]
      exact wpAny_pure on
  · obtain ⟨a1, a2⟩ := acc
    obtain ⟨h1, rfl, _⟩ := hI
    cases (show a1 = none from h1)
    exact wpAny_pure h
end
section
variable {P : Program} {w : World} {A : Around} {E : Value → Shared → Prop} {s : Shared} {D x : Addr} {L : List (Addr × KTx)} {es : Array (Int × Value)} {ep : Nat} {t : SetTable} {o : Obj} {k : KTx}
theorem TuO.size (R : TuO P w L es t) : es.size = L.length := by
  have e := congrArg List.length R.rows
  rwa [Array.length_toList, List.length_map] at e
theorem TuO.places (R : TuO P w L es t) : t.place.toList.length = L.length := by
  have e := R.tab.sz
  rwa [List.length_map] at e
theorem TuO.fit (R : TuO P w L es t) : t.fits es.size = true := by
  have a := R.places
  have b := R.size
  have c := R.room
  rw [Array.length_toList] at a
  unfold SetTable.fits SetTable.fill
  rw [R.tab.dm, Bool.and_eq_true]
  refine ⟨beq_iff_eq.mpr (by omega), decide_eq_true ?_⟩
  show t.place.size + 0 ≤ t.mask
  omega
theorem TuO.row (R : TuO P w L es t) {i : Nat} {p : Addr × KTx} (h : L[i]? = some p) : es[i]? = some (rowS P w p) := by
  rw [← Array.getElem?_toList, R.rows, List.getElem?_map, h]
  rfl
theorem TuO.stays (R : TuO P w L es t) : ¬ t.gaveWay = true := by
  unfold SetTable.gaveWay
  rw [L2.mask_odd R.tab.mok]
  decide
theorem adv_clean {m : Nat} {p : SetTable.Probe} (h : p.dummy = none) : (L2.adv m p).dummy = none := by
  unfold L2.adv
  split <;> exact h
theorem nth_clean {m : Nat} : ∀ (n : Nat) {p : SetTable.Probe}, p.dummy = none → (L2.nth m p n).dummy = none
  | 0, _, h => h
  | n + 1, _, h => nth_clean n (adv_clean h)
abbrev wayP (m : Nat) (h : Int) (c : Nat) : SetTable.Probe := L2.nth m (L2.runAt m (SetTable.bits h % (m + 1)) (SetTable.bits h)) c
theorem way_on (m : Nat) (h : Int) (c q : Nat) : L2.nth m (wayP m h c) q = wayP m h (c + q) := (L2.nth_add m c _ q).symm
theorem find_tx (ho : s.heap.get? D = some o) (hd : o.data = .set es ep t) (R : TuO P w L es t) (tx : ∀ p ∈ L, IsTx P w s.heap p.2 p.1) (hx : IsTx P w s.heap k x) (hu : A.units < cLine) {N : Nat} (n1 : N < 10 * SetTable.turns t.mask)
    (n2 : (wayP t.mask (thS P w k) N).j ∉ t.place.toList) (n3 : ∀ c, c < N → (wayP t.mask (thS P w k) c).j ∈ t.place.toList) {Q : SetFound → Shared → Prop}
    (yes : k ∈ L.map (·.2) → Q (.there none) s) (no : k ∉ L.map (·.2) → Q (.free (wayP t.mask (thS P w k) N).j false) s) :
    ∀ (fuel c : Nat) (st : Option SetTable.Probe), st.getD (t.probeStart (thS P w k)) = wayP t.mask (thS P w k) c → c ≤ N → N < fuel + c →
      (∀ (i : Nat) p, L[i]? = some p → p.2 = k → ∃ d, c ≤ d ∧ d < N ∧ t.place.toList[i]? = some (wayP t.mask (thS P w k) d).j) →
      wpAny (model P w) A (setSearchFrom D (.ref x) (thS P w k) true fuel st) Q E s := by
  intro fuel
  induction fuel with
  | zero => intro c st _ h1 h2 _; omega
  | succ fuel ih =>
    intro c st hst hc hf ahead
    have hashes : ∀ (i : Nat) p, L[i]? = some p → (es[i]?.map (·.1)).getD 0 = thS P w p.2 := fun i p hp => by rw [R.row hp]; rfl
    rw [L2.setSearchFrom_succ]
    refine wpAny_bind (wpAny_setState_of ho hd R.fit ?_)
    dsimp only
    refine wp_if_neg R.stays ?_
    try refine wpAny_bind (wpAny_pure ?_)
    have pr : t.probe (fun i => (es[i]?.map (·.1)).getD 0) (thS P w k) (st.getD (t.probeStart (thS P w k))) = SetTable.probe.go t (fun i => (es[i]?.map (·.1)).getD 0) (thS P w k) (10 * SetTable.turns t.mask) (wayP t.mask (thS P w k) c) := by rw [hst]; rfl
    rw [pr]
    rcases L2.go_spec t R.tab.ris R.tab.dm (fun i => (es[i]?.map (·.1)).getD 0) (thS P w k) (10 * SetTable.turns t.mask) (N - c) (wayP t.mask (thS P w k) c) (nth_clean c rfl) (by omega)
      (fun q hq => by rw [way_on]; exact n3 _ (by omega)) (by rw [way_on, show c + (N - c) = N by omega]; exact n2) with ⟨q, i, hq, hi, _, skip, e⟩ | ⟨skip, e⟩
    · rw [e]
      rw [way_on] at hi
      simp only [way_on]
      have li : i < L.length := by
        have := (List.getElem?_eq_some_iff.mp hi).1
        rwa [R.places] at this
      obtain ⟨p, hp⟩ : ∃ p, L[i]? = some p := ⟨_, List.getElem?_eq_getElem li⟩
      have pm := List.mem_of_getElem? hp
      have core : wpAny (model P w) A (L2.searchRest D (.ref x) (thS P w k) true fuel es t (wayP t.mask (thS P w k) (c + q)).j i (wayP t.mask (thS P w k) (c + (q + 1)))) Q E s := by
        unfold L2.searchRest
        rw [R.row hp]
        dsimp only [rowS]
        refine wpAny_bind (wpAny_holding (wpAny_eqBool_tuple hu (tx p pm) hx ?_))
        refine wpAny_bind (wpAny_setState_of ho hd R.fit ?_)
        dsimp only
        by_cases same : p.2 = k
        · exact wp_if_pos (by simp [same]) (wpAny_pure (yes (List.mem_map.mpr ⟨p, pm, same⟩)))
        · refine wp_if_neg (by simp [same]) ?_
          try refine wpAny_bind (wpAny_pure ?_)
          rw [L2.sameMem]
          have live : t.slot (wayP t.mask (thS P w k) (c + q)).j = .live i := L2.slot_live R.tab.ris hi
          simp only [if_true, live, R.row hp, rowS]
          refine wpAny_bind (wpAny_isSame_ref_self (wpAny_bind (wpAny_pure ?_)))
          simp only [if_true]
          refine wp_if_neg (by simp [same]) (ih (c + (q + 1)) _ rfl (by omega) (by omega) fun i2 p2 h2 e2 => ?_)
          obtain ⟨d, d1, d2, d3⟩ := ahead i2 p2 h2 e2
          refine ⟨d, ?_, d2, d3⟩
          rcases Nat.lt_trichotomy d (c + q) with lt | eq | gt
          · refine (skip (d - c) i2 (by omega) (by rw [way_on, show c + (d - c) = d by omega]; exact d3) ?_).elim
            rw [← e2]; exact hashes i2 p2 h2
          · rw [eq] at d3
            have l2 := L2.slot_live R.tab.ris d3
            rw [live] at l2
            cases l2
            rw [hp] at h2
            cases h2
            exact (same e2).elim
          · omega
      by_cases ld : t.led = true
      · refine wp_if_neg (by simp [ld]) ?_
        try refine wpAny_bind (wpAny_pure ?_)
        exact core
      · refine wp_if_pos (by simp [ld]) (wpAny_bind (unseen_tx hx (fun y hy => ?_) ?_))
        · obtain ⟨r, hr, rfl⟩ := List.mem_map.mp hy
          have hr2 : r ∈ es.toList := by
            have : r ∈ es ∧ r.1 = thS P w k := by simpa using hr
            simpa using this.1
          rw [R.rows] at hr2
          obtain ⟨p2, m2, rfl⟩ := List.mem_map.mp hr2
          exact ⟨p2.2, p2.1, rfl, tx p2 m2⟩
        · refine wp_if_neg (by decide) ?_
          try refine wpAny_bind (wpAny_pure ?_)
          exact core
    · rw [e]
      simp only [way_on]
      rw [show c + (N - c) = N by omega]
      refine wpAny_pure (no fun m => ?_)
      obtain ⟨p, pm, pk⟩ := List.mem_map.mp m
      obtain ⟨i, hi⟩ := List.mem_iff_getElem?.mp pm
      obtain ⟨d, d1, d2, d3⟩ := ahead i p hi pk
      refine skip (d - c) i (by omega) (by rw [way_on, show c + (d - c) = d by omega]; exact d3) ?_
      rw [← pk]; exact hashes i p hi
theorem search_tx (ho : s.heap.get? D = some o) (hd : o.data = .set es ep t) (R : TuO P w L es t) (tx : ∀ p ∈ L, IsTx P w s.heap p.2 p.1) (hx : IsTx P w s.heap k x) (hu : A.units < cLine) {Q : SetFound → Shared → Prop}
    (yes : k ∈ L.map (·.2) → Q (.there none) s) (no : ∀ N, k ∉ L.map (·.2) → L2.way t.mask (thS P w k) N ∉ t.place.toList → (∀ c, c < N → L2.way t.mask (thS P w k) c ∈ t.place.toList) → Q (.free (L2.way t.mask (thS P w k) N) false) s) :
    wpAny (model P w) A (setSearch D (.ref x) (thS P w k) true) Q E s := by
  have hr := R.room
  obtain ⟨N, n1, n2, n3⟩ := R.tab.first (by rw [List.length_map]; omega) (thS P w k)
  have small : 10 * SetTable.turns t.mask < 100000 := by
    unfold SetTable.turns
    rcases R.tab.mok with e | e | e <;> rw [e] <;> decide
  unfold setSearch
  refine find_tx ho hd R tx hx hu n1 n2 n3 yes (fun n => no N n n2 n3) 100000 0 none rfl (Nat.zero_le _) (by omega) fun i p hp pk => ?_
  have li : i < t.place.toList.length := by rw [R.places]; exact (List.getElem?_eq_some_iff.mp hp).1
  obtain ⟨d, d1, d2⟩ := R.tab.before n2 (i := i) (h := thS P w k) (by rw [List.getElem?_map, hp, ← pk]; rfl) (List.getElem?_eq_getElem li)
  exact ⟨d, Nat.zero_le _, d1, by rw [List.getElem?_eq_getElem li, ← d2]⟩
end
section
variable {P : Program} {w : World} {A : Around} {E : Value → Shared → Prop} {s : Shared} {D x : Addr} {L : List (Addr × KTx)} {es : Array (Int × Value)} {ep : Nat} {t : SetTable} {o : Obj} {k : KTx}
theorem tab_plain {hs : List Int} (T : L2.TabOk t hs) (b : Bool) : L2.TabOk { t with plain := b } hs := ⟨T.ris, T.dm, T.sz, T.mok, T.bd, T.reach⟩
theorem fm_congr {α β : Type} {f g : α → Option β} : ∀ {l : List α}, (∀ a ∈ l, f a = g a) → l.filterMap f = l.filterMap g
  | [], _ => rfl
  | a :: l, h => by
    have e := h a (.head _)
    have ih := fm_congr (l := l) fun b m => h b (.tail _ m)
    rw [List.filterMap_cons, List.filterMap_cons, e, ih]
theorem filter_range {α : Type} (l : List α) : (List.range l.length).filterMap (fun i => l[i]?) = l := by
  have g : ∀ (n : Nat) (l : List α), l.length = n → (List.range n).filterMap (fun i => l[i]?) = l := by
    intro n
    induction n with
    | zero => intro l h; rw [List.length_eq_zero_iff.mp h]; rfl
    | succ n ih =>
      intro l h
      have e := ih (l.take n) (by rw [List.length_take]; omega)
      rw [List.range_succ, List.filterMap_append]
      have a : (List.range n).filterMap (fun i => l[i]?) = l.take n := by
        conv => rhs; rw [← e]
        refine fm_congr fun i m => ?_
        rw [List.getElem?_take, if_pos (List.mem_range.mp m)]
      have b : l[n]? = some (l[n]'(by omega)) := List.getElem?_eq_getElem _
      rw [a, List.filterMap_cons_some b, List.filterMap_nil]
      conv => rhs; rw [← List.take_append_drop n l, List.drop_eq_getElem_cons (by omega), List.drop_eq_nil_of_le (by omega)]
  exact g _ l rfl
theorem rows_order (hr : es.toList = L.map (rowS P w)) {order : Array Nat} (hp : order.toList.Perm (List.range L.length)) :
    ∃ M : List (Addr × KTx), (order.filterMap (es[·]?)).toList = M.map (rowS P w) ∧ M.Perm L ∧ (M.map fun p => thS P w p.2) = order.toList.map fun i => (es.map (·.1)).getD i 0 := by
  have at_ : ∀ i : Nat, es[i]? = (L[i]?).map (rowS P w) := fun i => by rw [← Array.getElem?_toList, hr, List.getElem?_map]
  refine ⟨order.toList.filterMap fun i => L[i]?, ?_, ?_, ?_⟩
  · rw [Array.toList_filterMap, List.map_filterMap]
    exact fm_congr fun i _ => at_ i
  · have a := hp.filterMap fun i => L[i]?
    rwa [filter_range] at a
  · have g : ∀ l : List Nat, (∀ i ∈ l, i < L.length) → ((l.filterMap fun i => L[i]?).map fun p => thS P w p.2) = l.map fun i => (es.map (·.1)).getD i 0 := by
      intro l
      induction l with
      | nil => intro _; rfl
      | cons i l ih =>
        intro h
        have hi := h i (.head _)
        rw [List.filterMap_cons_some (List.getElem?_eq_getElem hi), List.map_cons, List.map_cons, ih fun j m => h j (.tail _ m)]
        congr 1
        have e : (es.map (·.1))[i]? = some (thS P w (L[i]).2) := by rw [Array.getElem?_map, at_, List.getElem?_eq_getElem hi]; rfl
        rw [Array.getD_eq_getD_getElem?, e]
        rfl
    exact g _ fun i m => List.mem_range.mp (hp.mem_iff.mp m)
theorem up_20 : SetTable.sizeAbove (SetTable.grown 5) = 32 := by decide +kernel
theorem up_76 : SetTable.sizeAbove (SetTable.grown 19) = 128 := by decide +kernel
def AddQ (P : Program) (w : World) (D x : Addr) (k : KTx) (L : List (Addr × KTx)) (s : Shared) (Q : Shared → Prop) : Prop :=
  ∀ h' M, Heap.SameBut D s.heap h' → TuAt P w h' D M → (k ∈ L.map (·.2) → M = L) → (k ∉ L.map (·.2) → M.Perm ((x, k) :: L)) → Q { s with heap := h' }
theorem relay_tx (ho : s.heap.get? D = some o) (hex : o.ExactSet) (hd : o.data = .set es ep t) (hr : es.toList = L.map (rowS P w)) (hf : t.fits es.size = true) (nd : (L.map (·.2)).Nodup) (ld : w.params.followText "set-order" = true ∨ t.led = true) (few : L.length < 64) {want m : Nat}
    (e1 : SetTable.sizeAbove want = m + 1) (e2 : L2.MaskOk m) (e3 : L.length * 5 < m * 3) {Q : Unit → Shared → Prop}
    (fin : ∀ h' M, Heap.SameBut D s.heap h' → TuAt P w h' D M → M.Perm L → Q () { s with heap := h' }) : wpAny (model P w) A (setRelay D want) Q E s := by
  have sz : es.size = L.length := by
    have e := congrArg List.length hr
    rwa [Array.length_toList, List.length_map] at e
  have big : m + 1 ≤ 128 := by rcases e2 with e | e | e <;> omega
  obtain ⟨t', order, e, hp, T, em, el, _, _⟩ := L2.relaid_ok t (hs := es.map (·.1)) (wanted := want) (M := m) (by omega) e2 (by rw [Array.size_map]; omega)
  rw [Array.size_map, sz] at hp
  obtain ⟨M, r1, r2, r3⟩ := rows_order hr hp
  rw [← r3] at T
  have sz2 : (order.filterMap (es[·]?)).size = es.size := by
    have e := congrArg List.length r1
    rw [Array.length_toList, List.length_map, r2.length_eq] at e
    omega
  rw [L2.setRelay_eq]
  refine wpAny_bind (wpAny_setState_of ho hd hf ?_)
  dsimp only
  refine wp_if_neg (by rw [sizeLine_eq]; omega) ?_
  try refine wpAny_bind (wpAny_pure ?_)
  rw [e]
  dsimp only
  refine wpAny_bind (wp_if_neg (by rw [sz2]; simp) ?_)
  try refine wpAny_bind (wpAny_pure ?_)
  refine wpAny_pure ?_
  dsimp only
  refine wpAny_storeSet_of ho hd (fin _ M (Heap.SameBut.update ..) ⟨_, _, ep + 1, t', store_at ho hd, ⟨hex.1, hex.2.1, hex.2.2⟩, rfl, r1, T, ?_, by rw [el]; exact ld, ?_, ?_⟩ r2) (by rw [sz2, sizeLine_eq]; omega)
  · exact (r2.map (·.2)).nodup_iff.mpr nd
  · rw [r2.length_eq, em]; exact e3
  · rw [r2.length_eq]; exact few
theorem ins_perm {α : Type} (l : List α) (p : Nat) (x : α) : (l.take p ++ x :: l.drop p).Perm (x :: l) := by
  have e : (l.take p ++ x :: l.drop p).Perm (x :: (l.take p ++ l.drop p)) := List.perm_middle
  rwa [List.take_append_drop] at e
theorem add_tx (ho : s.heap.get? D = some o) (hex : o.ExactSet) (hd : o.data = .set es ep t) (R : TuO P w L es t) (tx : ∀ p ∈ L, IsTx P w s.heap p.2 p.1) (hx : IsTx P w s.heap k x) (hu : A.units < cLine) (few : L.length + 1 < 64) {Q : Bool → Shared → Prop}
    (fin : ∀ b, AddQ P w D x k L s (Q b)) : wpAny (model P w) A (setAddHashed D (.ref x) (thS P w k)) Q E s := by
  have hr := R.room
  have sz := R.size
  unfold setAddHashed
  refine wpAny_holding ?_
  rw [show (100000 : Nat) = 99999 + 1 from rfl, L2.setAddHashedIn_succ]
  refine wpAny_bind (wpAny_setState_of ho hd R.fit ?_)
  dsimp only
  refine wp_if_neg (by simp [byScan, Value.scannable]) ?_
  try refine wpAny_bind (wpAny_pure ?_)
  refine wpAny_bind (search_tx ho hd R tx hx hu (fun y => ?_) fun N n n1 n2 => ?_)
  · dsimp only
    exact wpAny_pure (fin false s.heap L (Heap.SameBut.refl D s.heap) ⟨o, es, ep, t, ho, hex, hd, R⟩ (fun _ => rfl) fun z => (z y).elim)
  dsimp only
  refine wpAny_bind (wpAny_setState_of ho hd R.fit ?_)
  dsimp only
  obtain ⟨q1, q2, q3, q4, q5, _, _, _, q9⟩ := R.tab.put n1 n2
  generalize t.put (L2.way t.mask (thS P w k) N) = pt at q1 q3 q4 q5 q9 ⊢
  obtain ⟨t1, j⟩ := pt
  dsimp only at q1 q3 q4 q5 q9 ⊢
  subst q1
  rw [List.length_map] at q2 q9
  generalize SetTable.below t.place (L2.way t.mask (thS P w k) N) = j at q2 q3 ⊢
  have pm := ins_perm L j (x, k)
  have hl : (L.take j ++ (x, k) :: L.drop j).length = L.length + 1 := pm.length_eq
  have hh : (L.take j ++ (x, k) :: L.drop j).map (fun p => thS P w p.2) = (L.map fun p => thS P w p.2).take j ++ thS P w k :: (L.map fun p => thS P w p.2).drop j := by rw [List.map_append, List.map_cons, List.map_take, List.map_drop]
  rw [← hh] at q3
  have hrow : (SetTable.insertAt es j (thS P w k, Value.ref x)).toList = (L.take j ++ (x, k) :: L.drop j).map (rowS P w) := by
    rw [SetTable.toList_insertAt, R.rows, List.map_append, List.map_cons, List.map_take, List.map_drop]
    rfl
  have nd1 : ((L.take j ++ (x, k) :: L.drop j).map (·.2)).Nodup := (pm.map (·.2)).nodup_iff.mpr (List.nodup_cons.mpr ⟨n, R.nd⟩)
  generalize SetTable.insertAt es j (thS P w k, Value.ref x) = es1 at hrow ⊢
  generalize L.take j ++ (x, k) :: L.drop j = L1 at pm hl q3 hrow nd1
  have sz1 : es1.size = L.length + 1 := by
    have e := congrArg List.length hrow
    rw [Array.length_toList, List.length_map] at e
    omega
  have tail : ∀ t2 : SetTable, t2.mask = t1.mask → t2.led = t1.led → t2.fill = t1.fill → L2.TabOk t2 (L1.map fun p => thS P w p.2) →
      wpAny (model P w) A (storeSet D es1 t2 >>= fun _ => if (!false && t2.tooFull) = true then setRelay D (SetTable.grown (es.size + 1)) >>= fun _ => pure true else pure true) Q E s := by
    intro t2 m2 l2 f2 T2
    refine wpAny_bind (wpAny_storeSet_of ho hd ?_ (by rw [sz1, sizeLine_eq]; omega))
    have sb : Heap.SameBut D s.heap (s.heap.update D (Obj.putSet es1 t2)) := Heap.SameBut.update ..
    have ho1 := store_at (es' := es1) (t' := t2) ho hd
    generalize s.heap.update D (Obj.putSet es1 t2) = h1 at sb ho1 ⊢
    have ld1 : w.params.followText "set-order" = true ∨ t2.led = true := by rw [l2, q5]; exact R.led
    have pl := T2.sz
    rw [List.length_map, hl] at pl
    have fl : t2.fill = L.length + 1 := by rw [f2, q9]
    by_cases full : t2.tooFull = true
    · refine wp_if_pos (by simp [full]) (wpAny_bind ?_)
      have ov : (L.length + 1) * 5 ≥ t.mask * 3 := by
        have f := full
        unfold SetTable.tooFull at f
        rw [decide_eq_true_eq, fl, m2, q4] at f
        exact f
      have fits2 : t2.fits es1.size = true := by
        unfold SetTable.fits
        rw [Bool.and_eq_true]
        exact ⟨beq_iff_eq.mpr (by omega), decide_eq_true (by rw [fl, m2, q4]; omega)⟩
      have go : ∀ m, SetTable.sizeAbove (SetTable.grown (es.size + 1)) = m + 1 → L2.MaskOk m → (L.length + 1) * 5 < m * 3 → wpAny (model P w) A (setRelay D (SetTable.grown (es.size + 1))) (fun _ s' => wpAny (model P w) A (pure true) Q E s') E { s with heap := h1 } := fun m e1 e2 e3 =>
        relay_tx (s := { s with heap := h1 }) ho1 ⟨hex.1, hex.2.1, hex.2.2⟩ rfl hrow fits2 nd1 ld1 (by omega) e1 e2 (by omega) fun h2 M sb2 at2 pm2 => wpAny_pure (fin true h2 M (sb.trans sb2) at2 (fun z => (n z).elim) fun _ => pm2.trans pm)
      rcases R.tab.mok with e | e | e
      · exact go 31 (by rw [sz, show L.length = 4 by omega]; exact up_20) (.inr (.inl rfl)) (by omega)
      · exact go 127 (by rw [sz, show L.length = 18 by omega]; exact up_76) (.inr (.inr rfl)) (by omega)
      · omega
    · refine wp_if_neg (by simp [full]) (wpAny_pure (fin true h1 L1 sb ⟨_, es1, ep + 1, t2, ho1, ⟨hex.1, hex.2.1, hex.2.2⟩, rfl, hrow, T2, nd1, ld1, ?_, by omega⟩ (fun z => (n z).elim) fun _ => pm))
      have f := full
      unfold SetTable.tooFull at f
      rw [decide_eq_true_eq, fl] at f
      omega
  have fin2 : ∀ c : Bool, wpAny (model P w) A (storeSet D es1 (if c = true then t1 else { t1 with plain := false }) >>= fun _ => if (!false && (if c = true then t1 else { t1 with plain := false }).tooFull) = true then setRelay D (SetTable.grown (es.size + 1)) >>= fun _ => pure true else pure true) Q E s := fun c => by
    cases c with
    | true => exact tail t1 rfl rfl rfl q3
    | false => exact tail _ rfl rfl rfl (tab_plain q3 false)
  by_cases hp : t1.plain = true
  · first
      | exact wpAny_bind (wp_if_pos hp (byval_tx hx fin2))
      | exact wp_if_pos hp (wpAny_bind (byval_tx hx fin2))
  · first
      | exact wpAny_bind (wp_if_neg hp (wpAny_pure (fin2 true)))
      | exact wp_if_neg hp (wpAny_bind (wpAny_pure (fin2 true)))
      | exact wp_if_neg hp (fin2 true)
theorem call_addT (ho : s.heap.get? D = some o) (hex : o.ExactSet) (hd : o.data = .set es ep t) (R : TuO P w L es t) (tx : ∀ p ∈ L, IsTx P w s.heap p.2 p.1) (hx : IsTx P w s.heap k x) (hu : A.units + 8 < cLine) (few : L.length + 1 < 64) {Q : Value → Shared → Prop}
    (fin : AddQ P w D x k L { s with toks := s.toks + (k.length + 1) } (Q .none)) : wpAny (model P w) A (call (.builtin "set.add") [.ref D, .ref x]) Q E s := by
  refine wpAny_call_entry F.slot_set_add ⟨o, ho, hex.1⟩ F.entry_set_add ?_ (F.args_set_add_2 _ _)
  unfold Builtin.«set.add» Builtin.Frozenset.oneOther
  simp only [List.isEmpty_nil, bind_assoc]
  unfold Builtin.Frozenset.addrOf setAdd
  refine wpAny_bind (wpAny_pure ?_)
  try dsimp only
  refine wpAny_bind (wpAny_pure ?_)
  try dsimp only
  refine wpAny_bind (wpAny_holding (wpAny_bind (wpAny_pyHash_tuple (by show A.units + 1 < _; omega) hx ?_)))
  refine add_tx (s := { s with toks := s.toks + (k.length + 1) }) ho hex hd R tx hx (by show A.units + 1 < _; omega) few fun b h' M sb at2 m1 m2 => ?_
  show wpAny _ _ (ret Value.none) _ _ _
  exact wpAny_pure ⟨_, rfl, fin h' M sb at2 m1 m2⟩
end
end DL
namespace DL
open PySem PySem.Spec PyProof.Rows L2 PySem.Froz
def tupLt : List (List Nat) → List (List Nat) → Bool
  | [], [] => false
  | [], _ :: _ => true
  | _ :: _, [] => false
  | a :: A, b :: B => if a = b then tupLt A B else decide (a < b)
theorem tupLt_irr : ∀ A, tupLt A A = false
  | [] => rfl
  | a :: A => by rw [tupLt, if_pos rfl, tupLt_irr A]
theorem tupLt_trans : ∀ {A B C : List (List Nat)}, tupLt A B = true → tupLt B C = true → tupLt A C = true
  | [], [], _, h, _ => by cases h
  | [], _ :: _, [], _, h => by cases h
  | [], _ :: _, _ :: _, _, _ => rfl
  | _ :: _, [], _, h, _ => by cases h
  | _ :: _, _ :: _, [], _, h => by cases h
  | a :: A, b :: B, c :: C, h1, h2 => by
    rw [tupLt] at h1 h2 ⊢
    by_cases e1 : a = b
    · subst e1
      rw [if_pos rfl] at h1
      by_cases e2 : a = c
      · rw [if_pos e2] at h2 ⊢
        exact tupLt_trans h1 h2
      · rw [if_neg e2] at h2 ⊢
        exact h2
    · rw [if_neg e1] at h1
      have h1 := of_decide_eq_true h1
      by_cases e2 : b = c
      · subst e2
        rw [if_neg e1]; exact decide_eq_true h1
      · rw [if_neg e2] at h2
        have t := List.lt_trans h1 (of_decide_eq_true h2)
        have n : a ≠ c := fun k => by rw [k] at t; exact List.lt_irrefl _ t
        rw [if_neg n]; exact decide_eq_true t
theorem tupLt_tri : ∀ A B, tupLt A B = true ∨ A = B ∨ tupLt B A = true
  | [], [] => .inr (.inl rfl)
  | [], _ :: _ => .inl rfl
  | _ :: _, [] => .inr (.inr rfl)
  | a :: A, b :: B => by
    by_cases e : a = b
    · subst e
      rw [tupLt, if_pos rfl, tupLt, if_pos rfl]
      rcases tupLt_tri A B with q | q | q
      · exact .inl q
      · exact .inr (.inl (by rw [q]))
      · exact .inr (.inr q)
    · rw [tupLt, if_neg e, tupLt, if_neg fun k => e k.symm]
      rcases lexN_tri a b with q | q | q
      · exact .inl (decide_eq_true q)
      · exact (e q).elim
      · exact .inr (.inr (decide_eq_true q))
theorem sto_tup : STO tupLt := ⟨tupLt_irr, tupLt_trans, tupLt_tri⟩
def sortT (l : List (List (List Nat))) : List (List (List Nat)) := l.mergeSort fun a b => !tupLt b a
theorem sortT_perm {a b : List (List (List Nat))} (p : a.Perm b) : sortT a = sortT b :=
  List.Perm.eq_of_pairwise (le := fun x y => (!tupLt y x) = true) (fun x y _ _ h1 h2 => sto_tup.antisym h1 h2) (sto_tup.sorted a) (sto_tup.sorted b) ((List.mergeSort_perm a _).trans (p.trans (List.mergeSort_perm b _).symm))
def pyS (x : Str) : PyData := .str x
def kz (k : KTx) : List (List Nat) := k.map fun x => x.cps.toList
theorem LX_nil_cons {y : PyData} {ys : List PyData} : LX [] (y :: ys) = true := by
  unfold LX
  rw [PySem.W.keyToksAll]
  first | rfl | simp [PySem.W.keyToksAll, PyProof.Rows.lexLt]
theorem LX_cons_nil {y : PyData} {ys : List PyData} : LX (y :: ys) [] = false := by
  unfold LX
  first | rfl | simp [PySem.W.keyToksAll, PyProof.Rows.lexLt]
theorem LX_strs : ∀ A B : KTx, LX (A.map pyS) (B.map pyS) = tupLt (kz A) (kz B)
  | [], [] => LX_nil
  | [], _ :: _ => LX_nil_cons
  | _ :: _, [] => LX_cons_nil
  | a :: A, b :: B => by
    have ih := LX_strs A B
    rw [List.map_cons, List.map_cons, LX_cons (x := pyS a) (y := pyS b) (str_alike _ _)]
    show _ = if a.cps.toList = b.cps.toList then tupLt (kz A) (kz B) else decide (a.cps.toList < b.cps.toList)
    have e := str_beq a.cps.toList b.cps.toList
    by_cases c : a.cps.toList = b.cps.toList
    · rw [if_pos c, if_pos (by
        have q : a = b := by
          obtain ⟨⟨a⟩⟩ := a
          obtain ⟨⟨b⟩⟩ := b
          exact congrArg (fun l => (⟨⟨l⟩⟩ : Str)) c
        rw [q]
        simp [pyS, PyData.eqv]), ih]
    · have n : ¬ PyData.eqv (pyS a) (pyS b) = true := fun q => by
        have q2 : PyData.eqv (.str ⟨a.cps.toList.toArray⟩) (.str ⟨b.cps.toList.toArray⟩) = true := q
        rw [e] at q2
        exact c (of_decide_eq_true q2)
      rw [if_neg c, if_neg n]
      exact PySem.W.dataLt_str _ _
section
variable {P : Program} {w : World} {A : Around} {E : Value → Shared → Prop} {s : Shared} {D : Addr} {L : List (Addr × KTx)} {es : Array (Int × Value)} {ep : Nat} {t : SetTable} {o : Obj}
theorem reads_items {h : Heap} {k : KTx} {vs : List Value} (i : ItemsAre (strKind P w) k vs) : ReadsAll h vs (k.map pyS) [] := by
  induction i with
  | nil => exact .nil
  | @cons x u xs us h1 _ ih =>
    obtain ⟨t, rfl⟩ := Value.isStrOf_shape h1
    exact .cons (as := []) (bs := []) (.str x t) ih
theorem reads_tx {h : Heap} {k : KTx} {b : Addr} (x : IsTx P w h k b) : Reads h (.ref b) (.tuple (k.map pyS)) [] := by
  obtain ⟨o, its, n, e, c, d, i⟩ := x
  exact .tuple e c d (reads_items i)
theorem alike_strs : ∀ A B : KTx, PySem.W.alikeAll (A.map pyS) (B.map pyS) = true
  | [], _ => by simp [PySem.W.alikeAll]
  | _ :: _, [] => by simp [PySem.W.alikeAll]
  | a :: A, b :: B => by
    rw [List.map_cons, List.map_cons, PySem.W.alikeAll, alike_strs A B]
    simp [pyS, PySem.W.alike]
theorem depth_strs : ∀ A : KTx, PyData.depthAll (A.map pyS) = 0
  | [] => by simp [PyData.depthAll]
  | a :: A => by
    rw [List.map_cons, PyData.depthAll, depth_strs A]
    simp [pyS, PyData.depth]
theorem refs_of {L : List (Addr × KTx)} : ∀ {vs : List Value}, (∀ v ∈ vs, v ∈ L.map fun q => Value.ref q.1) → ∃ M : List (Addr × KTx), vs = M.map (fun q => Value.ref q.1) ∧ ∀ q ∈ M, q ∈ L
  | [], _ => ⟨[], rfl, fun q m => by cases m⟩
  | v :: vs, h => by
    obtain ⟨q, hq, rfl⟩ := List.mem_map.mp (h v (.head _))
    obtain ⟨M, rfl, hM⟩ := refs_of (vs := vs) fun u m => h u (.tail _ m)
    exact ⟨q :: M, rfl, fun r m => by
      rcases List.mem_cons.mp m with rfl | m
      · exact hq
      · exact hM r m⟩
theorem tx_inj (tx : ∀ p ∈ L, IsTx P w s.heap p.2 p.1) {q r : Addr × KTx} (hq : q ∈ L) (hr : r ∈ L) (e : q.1 = r.1) : q = r := by
  have a := tx q hq
  rw [e] at a
  exact Prod.ext e (a.inj (tx r hr))
theorem nodup_refs (tx : ∀ p ∈ L, IsTx P w s.heap p.2 p.1) (nd : (L.map (·.2)).Nodup) : (L.map fun q => Value.ref q.1).Nodup := by
  have nL : L.Nodup := List.Pairwise.of_map (·.2) (fun a b n e => n (congrArg _ e)) nd
  refine List.pairwise_map.mpr (List.Pairwise.imp_of_mem (fun {a b} ha hb n e => ?_) nL)
  injection e with e
  exact n (tx_inj tx ha hb e)
theorem perm_refs (tx : ∀ p ∈ L, IsTx P w s.heap p.2 p.1) (nd : (L.map (·.2)).Nodup) {M : List (Addr × KTx)} (hM : ∀ q ∈ M, q ∈ L) (pm : (M.map fun q => Value.ref q.1).Perm (L.map fun q => Value.ref q.1)) : M.Perm L := by
  have nL : L.Nodup := List.Pairwise.of_map (·.2) (fun a b n e => n (congrArg _ e)) nd
  have nM : M.Nodup := List.Pairwise.of_map (fun q : Addr × KTx => Value.ref q.1) (fun a b n e => n (by rw [e])) (pm.nodup_iff.mpr (nodup_refs tx nd))
  refine (List.perm_ext_iff_of_nodup nM nL).mpr fun q => ⟨hM q, fun hq => ?_⟩
  obtain ⟨r, hr, e⟩ := List.mem_map.mp (pm.mem_iff.mpr (List.mem_map.mpr ⟨q, hq, rfl⟩))
  injection e with e
  rw [← tx_inj tx (hM r hr) hq e]
  exact hr
theorem each_refs {α β : Type} {R : Value → β → Prop} {f : α → Value} {g : α → β} : ∀ {xs : List α}, (∀ x ∈ xs, R (f x) (g x)) → PySem.W.EachIs R (xs.map f) (xs.map g)
  | [], _ => .nil
  | x :: xs, h => .cons (h x (.head _)) (each_refs fun y m => h y (.tail _ m))
theorem each_ref {us : List Value} {bs : List (Addr × KTx)} (e : PySem.W.EachIs (fun v (b : Addr × KTx) => v = Value.ref b.1) us bs) : us = bs.map fun q => Value.ref q.1 := by
  induction e with
  | nil => rfl
  | cons h _ ih => rw [List.map_cons, h, ih]
theorem sorted_tx (ho : s.heap.get? D = some o) (hex : o.ExactSet) (hd : o.data = .set es ep t) (R : TuO P w L es t) (tx : ∀ p ∈ L, IsTx P w s.heap p.2 p.1) (ne : ∀ p ∈ L, p.2 ≠ []) (hh : A.handled = none) (hu : A.units + 64 < cLine) {Q : Value → Shared → Prop}
    (fin : ∀ s' l out c (M : List (Addr × KTx)), (∀ b u, s.heap.get? b = some u → s'.heap.get? b = some u) → s'.gens = s.gens → s'.os = s.os → s.heap.objs.size ≤ l → s'.heap.get? l = some (seqObj "list" out c) →
      out.toList = M.map (fun q => Value.ref q.1) → M.Perm L → M.map (fun q => kz q.2) = sortT (L.map fun q => kz q.2) → Q (.ref l) s') :
    wpAny (model P w) A (call (.builtin "sorted") [.ref D]) Q E s := by
  have sz := R.size
  have few := R.few
  refine Calls.call_function_entry kind_sorted plain_sorted entry_sorted (args_sorted1 _) ?_
  unfold Builtin.«sorted»
  refine wpAny_bind (m := checkCount "sorted" 1 1 _) (wpAny_pure ?_)
  refine wpAny_bind (collect_set (A := A.in1) hh ⟨o, ho, hex.1, hd⟩ R.fit (by unfold scanBound; omega) R.tab.ris R.led fun s1 vs k1 z1 g1 o1 pm => ?_)
  have ev : es.toList.map (·.2) = L.map fun q => Value.ref q.1 := by
    rw [R.rows, List.map_map]
    rfl
  rw [ev] at pm
  obtain ⟨M, rfl, hM⟩ := refs_of fun v m => pm.mem_iff.mp m
  have pM := perm_refs tx R.nd hM pm
  have ml : M.length < 64 := by rw [pM.length_eq]; exact few
  refine wpAny_bind (wpAny_newList ?_ (by rw [List.length_map, sizeLine_eq]; omega))
  have hoL : (s1.heap.push (seqObj "list" (M.map fun q => Value.ref q.1).toArray 0)).get? s1.heap.objs.size = some (seqObj "list" (M.map fun q => Value.ref q.1).toArray 0) := Heap.get?_push_size _ rfl
  have tx1 : ∀ q ∈ M, IsTx P w (s1.heap.push (seqObj "list" (M.map fun q => Value.ref q.1).toArray 0)) q.2 q.1 := fun q m => isTx_mono (tx q (hM q m)) fun u e => Heap.get?_push_of_some _ (k1 _ _ e)
  refine wpAny_bind (wpAny_holding (PySem.W.list_sort_data (s := { s1 with heap := s1.heap.push (seqObj "list" (M.map fun q => Value.ref q.1).toArray 0) }) (bs := M) (enc := fun b => .tuple (b.2.map pyS)) (R := fun v b => v = Value.ref b.1) hoL
    (by simpa using each_refs (R := fun v (b : Addr × KTx) => v = Value.ref b.1) (f := fun q : Addr × KTx => Value.ref q.1) (g := id) (xs := M) fun _ _ => rfl)
    (by simpa using each_refs (R := fun v (b : Addr × KTx) => ∃ as, Reads (s1.heap.push (seqObj "list" (M.map fun q => Value.ref q.1).toArray 0)) v (.tuple (b.2.map pyS)) as ∧ s1.heap.objs.size ∉ as) (f := fun q : Addr × KTx => Value.ref q.1) (g := id) (xs := M) fun q m => ⟨[], reads_tx (tx1 q m), by simp⟩)
    (.of fun b b' => by rw [PySem.W.alike]; exact alike_strs _ _) (.inl fun d hd => ?_) (by rw [sizeLine_eq]; omega) (fun b _ => ?_) fun out _ eo => ?_))
  · obtain ⟨q, hq, rfl⟩ := List.mem_map.mp hd
    have := ne q (hM q hq)
    cases e : q.2 with
    | nil => exact (this e).elim
    | cons x r => exact ⟨pyS x, r.map pyS, rfl⟩
  · show A.units + 1 + 1 + (PyData.tuple (b.2.map pyS)).depth < _
    rw [PyData.depth, depth_strs]
    omega
  obtain ⟨c, hc⟩ := sortedHeap_at (vs := M.map fun q => Value.ref q.1) (out := out.toArray) hoL
  refine wpAny_pure ⟨_, rfl, fin _ s1.heap.objs.size out.toArray c _ (fun b u e => ?_) g1 o1 z1 hc (each_ref eo) ((List.mergeSort_perm M _).trans pM) ?_⟩
  · have q := k1 b u e
    have lt := Heap.lt_size q
    show (sortedHeap (s1.heap.push (seqObj "list" (M.map fun q => Value.ref q.1).toArray 0)) s1.heap.objs.size (M.map fun q => Value.ref q.1) out.toArray).get? b = some u
    rw [sortedHeap_old (Nat.ne_of_lt lt) (by rw [size_push']; exact Nat.lt_succ_of_lt lt)]
    exact Heap.get?_push_of_some _ q
  · rw [PySem.W.dataLe_eq]
    have e : (List.mergeSort M fun a b => cond false (!PySem.W.dataLt (PyData.tuple (a.2.map pyS)) (PyData.tuple (b.2.map pyS))) (!PySem.W.dataLt (PyData.tuple (b.2.map pyS)) (PyData.tuple (a.2.map pyS)))).map (fun q => kz q.2) = sortT (M.map fun q => kz q.2) := List.map_mergeSort fun a _ b _ => by
      show (!PySem.W.dataLt _ _) = !tupLt _ _
      rw [PySem.W.dataLt_tuple]
      exact congrArg (!·) (LX_strs b.2 a.2)
    rw [e]
    exact sortT_perm (pM.map _)
end
end DL
namespace DL
open PySem PySem.Spec PyProof.Rows L2 PySem.Froz PpSet
def TupH (K : PySem.W.Frag) (H : Hp) (p : Addr × KTx) : Prop := SqT K H p.1 (p.2.map V.str)
structure GotT (acc L : List (Addr × KTx)) : Prop where
  sub : ∀ p ∈ L, p ∈ acc
  all : ∀ p ∈ acc, p.2 ∈ L.map (·.2)
  len : L.length ≤ acc.length
  nd : (L.map (·.2)).Nodup
theorem GotT.nil : GotT [] [] := ⟨fun p m => m, (fun p m => by cases m), Nat.le_refl _, List.nodup_nil⟩
theorem GotT.snoc {acc L M : List (Addr × KTx)} {p : Addr × KTx} (g : GotT acc L) (h1 : p.2 ∈ L.map (·.2) → M = L) (h2 : p.2 ∉ L.map (·.2) → M.Perm (p :: L)) : GotT (acc ++ [p]) M := by
  by_cases c : p.2 ∈ L.map (·.2)
  · rw [h1 c]
    refine ⟨fun q m => List.mem_append_left _ (g.sub q m), fun q m => ?_, by rw [List.length_append]; have := g.len; omega, g.nd⟩
    rcases List.mem_append.mp m with m | m
    · exact g.all q m
    · rw [List.mem_singleton.mp m]; exact c
  · have pm := h2 c
    refine ⟨fun q m => ?_, fun q m => ?_, by rw [pm.length_eq, List.length_append]; have := g.len; simp; omega, (pm.map (·.2)).nodup_iff.mpr (List.nodup_cons.mpr ⟨c, g.nd⟩)⟩
    · rcases List.mem_cons.mp (pm.mem_iff.mp m) with rfl | m
      · exact List.mem_append_right _ (.head _)
      · exact List.mem_append_left _ (g.sub q m)
    · refine (pm.map (·.2)).mem_iff.mpr ?_
      rcases List.mem_append.mp m with m | m
      · exact .tail _ (g.all q m)
      · rw [List.mem_singleton.mp m]; exact .head _
def TuSetO (P : Program) (w : World) (D : Addr) (L : List (Addr × KTx)) : HO := .ext fun h => TuAt P w h D L
theorem items_strs {P : Program} {w : World} : ∀ {k : KTx} {us : List Value}, Vals (k.map V.str) us → ItemsAre (PySem.strKind P w) k us
  | [], _, .nil => .nil
  | x :: k, _, .cons (b := u) r t => by
    obtain ⟨tk, rfl⟩ := r
    exact .cons (by simp [PySem.strKind, Value.isStrOf]) (items_strs t)
section
variable {X : Cx} {pins : List (Addr × Obj)} {σ : L2.St} {H : Hp} {s : Shared} {A : Around} {E : Value → Shared → Prop}
theorem TupH.tx {p : Addr × KTx} (x : TupH X.K H p) (I : L2.Inv X pins σ H s) : IsTx X.prog X.w s.heap p.2 p.1 := by
  obtain ⟨its, r, ⟨o, e, c, n, d⟩, _⟩ := I.tuple x
  exact ⟨o, its.toArray, n, e, c, d, items_strs r⟩
theorem fresh_tu {P : Program} {w : World} {h : Heap} {D : Addr} (e : h.get? D = some (freshS w)) : TuAt P w h D [] := by
  refine ⟨_, #[], 0, _, e, ⟨rfl, rfl, rfl⟩, rfl, rfl, ⟨List.Pairwise.nil, rfl, rfl, .inl rfl, fun x m => (by cases m), fun i h j hi => (by simp at hi)⟩, List.nodup_nil, ?_, (by show 0 * 5 < 7 * 3; decide), (by show 0 < 64; decide)⟩
  show _ ∨ (!w.params.followText "set-order") = true
  cases w.params.followText "set-order"
  · exact .inr rfl
  · exact .inl rfl
theorem TuAt.mono {P : Program} {w : World} {h h' : Heap} {D : Addr} {L : List (Addr × KTx)} (x : TuAt P w h D L) (k : ∀ o, h.get? D = some o → h'.get? D = some o) : TuAt P w h' D L := by
  obtain ⟨o, es, ep, t, e, r⟩ := x
  exact ⟨o, es, ep, t, k o e, r⟩
end
def tSq (K : PySem.W.Frag) (wi : TI) (g : TG) (tt : TT) (te : TE) (vs : List Nat) (fin : List (Addr × KTx) → Hp → Prop) (σ : L2.St) (H : Hp) : Prop := wi σ H fun J H1 => ∃ W : Nat → Nat → List (Addr × KTx) → Hp → Prop, (∃ m, W 0 m [] H1) ∧ ∀ i m acc H, W i m acc H →
  (J.stop i H ∧ fin acc H) ∨ (J.go i H ∧ ∃ Nx : List (Addr × KTx) → Hp → Prop, (∀ a' H', Nx a' H' → ∃ m', m' < m ∧ W (i + 1) m' a' H') ∧ ∀ x H', J.yld i H x H' → g x (wipe σ vs) H' fun σ2 H2 => wipe σ2 vs = wipe σ vs ∧ tt σ2 H2 fun b H3 =>
    if b = true then te σ2 H3 fun y H4 => ∃ p : Addr × KTx, y = .ref p.1 ∧ TupH K H4 p ∧ (∀ q ∈ acc, TupH K H4 q) ∧ acc.length + 1 < 64 ∧ Nx (acc ++ [p]) H4 else Nx acc H3)
theorem tSq_mono {K : PySem.W.Frag} {mg : Str → Option Value} {fx : Fx} {m : Type → Type} [Mo m] {G : List Sl} {xi : m (List D)} {g : TG} {tt : TT} {te : TE} {vs : List Nat} {f1 f2 : List (Addr × KTx) → Hp → Prop} {σ : L2.St} {H : Hp} [DL.TC] (w : ∀ acc H', f1 acc H' → f2 acc H') (h : tSq K (tI K mg fx G xi) g tt te vs f1 σ H) : tSq K (tI K mg fx G xi) g tt te vs f2 σ H := by
  obtain ⟨Hf, s, st, wp⟩ := h
  refine ⟨Hf, s, st, Mo.wp_mono wp (fun ds s1 k J Hf1 H1 e1 bg yl => ?_) fun e s' k => k⟩
  obtain ⟨W, w0, turn⟩ := k J Hf1 H1 e1 bg yl
  refine ⟨W, w0, fun i mm acc H wq => ?_⟩
  rcases turn i mm acc H wq with ⟨a, b⟩ | b
  · exact .inl ⟨a, w _ _ b⟩
  · exact .inr b
section
variable {X : Cx}
section
/-- the frame of a comprehension's names, where the heap is as in s -/
abbrev frameAt (X : Cx) (scope : Scope) (s : Shared) : Env := compEnvC scope (cellsFrom (s.heap.objs.size + 1) scope.names (cloFrom X.env.cells scope.names [])) s.heap.objs.size X.env
/-- in whatever block of this scope -/
abbrev InBlk (X : Cx) (scope : Scope) (P : Cx → Prop) : Prop := ∀ (s : Shared) (H : Hp) (C : Addr) (cl : List (Str × Addr)) (fp : List Addr), P (X.blk s H scope (compEnvC scope cl C X.env) fp)
/-- the frame is laid -/
abbrev laidFrame (scope : Scope) (s : Shared) : Shared := { s with heap := pushCells (s.heap.push { cls := .type "dict", data := .dict #[] }) scope.names }
/-- a comprehension stands before its loop: s, H is the state that the def left behind; the block may write what lies at ex -/
structure Entered (X : Cx) (pins : List (Addr × Obj)) (σ : L2.St) (tg : Expr) (J : It) (it : Addr) (ex fp : List Addr) (tn : Nat → Heap → Prop) (s : Shared) (H : Hp) : Prop where
  inv : L2.Inv X pins σ H s
  turns : Turn X.prog X.w X.K tg J fp it tn
  fps : ∀ b ∈ ex, FpOk X pins H b
  sub : ∀ b ∈ fp, b ∈ ex
/-- between two turns: i items have been drawn; s, H is the state now, what pq names is held -/
structure Between (X : Cx) (σ : L2.St) (scope : Scope) (own : List (Str × Nat)) (ex fp : List Addr) (pq : List (Addr × Obj)) (tn : Nat → Heap → Prop) (s0 : Shared) (H0 : Hp) (i : Nat) (H : Hp) (s : Shared) : Prop where
  inv : L2.Inv (X.blk s0 H0 scope (frameAt X scope s0) ex) pq (wipe σ (own.map (·.2))) H s
  at_ : tn i s.heap
  off : ∀ b ∈ fp, H b = none
section
variable {X : Cx} {pins pq : List (Addr × Obj)} {σ : L2.St} {tg : Expr} {J : It} {it : Addr} {ex fp : List Addr} {tn : Nat → Heap → Prop} {s s0 : Shared} {H H0 : Hp} {i : Nat} {scope : Scope} {own : List (Str × Nat)}
/-- where all is laid that the loop needs, the frame is laid: the loop may begin -/
theorem enter0 (N : Entered X pins σ tg J it ex fp tn s H) (st : tn 0 s.heap) (there : ∀ b ∈ ex, b < s.heap.objs.size) (ok : BlkOk X.N X.env.scope scope own) (hN : X.N.Nodup) : Between X σ scope own ex fp [] tn s H 0 H (laidFrame scope s) where
  inv := block_start N.inv ok hN fun b hb => ⟨N.fps b hb, there b hb⟩
  at_ := N.turns.keep _ _ _ st fun b _ q e => pushCells_keeps _ _ _ _ (Heap.get?_push_of_some _ e)
  off := fun b hb => (N.fps b (N.sub b hb)).1
theorem closes (I : L2.Inv X pins σ H s) (ok : BlkOk X.N X.env.scope scope own) : closureFor scope X.env = pure (cloFrom X.env.cells scope.names []) :=
  closure_ok fun y hy e => (ok.free y hy e).elim (fun k => I.ok.has _ (.inl k)) fun k => I.ok.has _ (.inr k)
namespace Between
/-- what lies at ex and is not tracked may be written -/
theorem free {b : Addr} (B : Between X σ scope own ex fp pq tn s0 H0 i H s) (hb : b ∈ ex) (no : H b = none) (hq : ∀ p ∈ pq, p.1 ≠ b) : FpOk (X.blk s0 H0 scope (frameAt X scope s0) ex) pq H b :=
  ⟨no, (B.inv.ok.exf b hb).1, B.inv.ok.exfs b hb, .inl hb, fun x c => (B.inv.ok.exf b hb).2 x c, fun p hp => hq p (show p ∈ pq from by simpa using hp)⟩
/-- back to the def, whose frame is let go -/
structure Back (X : Cx) (pins : List (Addr × Obj)) (σ : L2.St) (C : Addr) (H : Hp) (s : Shared) : Prop where
  inv : L2.Inv X pins σ H s
  names : ∃ m, s.heap.Ns C m
  gone : FpOk X pins H C
theorem back (N : Entered X pins σ tg J it ex fp tn s0 H0) {σ' : L2.St} (I : L2.Inv (X.blk s0 H0 scope (frameAt X scope s0) ex) pq σ' H s) : Back X pins σ s0.heap.objs.size H s where
  inv := N.inv.call' (ch := ex) I.os I.base I.hok I.bare fun b hb => let ⟨_, f1, _, f3, f4, f5⟩ := N.fps b hb; ⟨f3, f1, f4, f5⟩
  names := let ⟨m, q, _⟩ := I.loc; ⟨m, q⟩
  gone := N.inv.fpOk (Nat.le_refl _) I.free
theorem stop (N : Entered X pins σ tg J it ex fp tn s0 H0) (B : Between X σ scope own ex fp pq tn s0 H0 i H s) (hq : ∀ p ∈ pq, ∀ b ∈ fp, p.1 ≠ b) (hc : X.calm = true) (st : J.stop i H) {E : Value → Shared → Prop} :
    wpAny (model X.prog X.w) X.A (pyNext (.ref it)) (fun r s' => r = none ∧ L2.Inv (X.blk s0 H0 scope (frameAt X scope s0) ex) pq (wipe σ (own.map (·.2))) H s') E s :=
  N.turns.done (X.blk s0 H0 scope (frameAt X scope s0) ex) rfl rfl rfl hc i pq s _ H E B.inv (fun b hb => B.free (N.sub b hb) (B.off b hb) fun p hp => hq p hp b hb) B.at_ st
/-- an item is drawn and stored; what is said of the rest of the turn holds where the iterator is pinned, and from there the next turn begins -/
theorem next (N : Entered X pins σ tg J it ex fp tn s0 H0) (B : Between X σ scope own ex fp pq tn s0 H0 i H s) (hq : ∀ p ∈ pq, ∀ b ∈ fp, p.1 ≠ b) (hc : X.calm = true) (go : J.go i H) {g : TG} (pg : PG (X.blk s0 H0 scope (frameAt X scope s0) ex) tg g) {Q : L2.St → Hp → Prop}
    (step : ∀ x H', J.yld i H x H' → g x (wipe σ (own.map (·.2))) H' fun σ' H'' => wipe σ' (own.map (·.2)) = wipe σ (own.map (·.2)) ∧ Q σ' H'') {E : Value → Shared → Prop} :
    wpAny (model X.prog X.w) X.A (pyNext (.ref it)) (fun r s1 => ∃ v, r = some v ∧ wpAny (model X.prog X.w) X.A (letOwnedTupleGo tg (.ref it) v) (fun _ s2 => wpAny (model X.prog X.w) X.A (assign tg (frameAt X scope s0) v)
      (fun _ s3 => ∃ pl σ' H', L2.Inv (X.blk s0 H0 scope (frameAt X scope s0) ex) (pq ++ pl) σ' H' s3 ∧ Q σ' H' ∧ ∀ H2 s4, L2.Inv (X.blk s0 H0 scope (frameAt X scope s0) ex) (pq ++ pl) σ' H2 s4 → Between X σ scope own ex fp pq tn s0 H0 (i + 1) H2 s4) E s2) E s1) E s := by
  refine wpAny_mono (N.turns.item (X.blk s0 H0 scope (frameAt X scope s0) ex) rfl rfl rfl hc i pq s _ H E B.inv (fun b hb => B.free (N.sub b hb) (B.off b hb) fun p hp => hq p hp b hb) B.at_ go) (fun r s1 ⟨v, e, drawn⟩ => ⟨v, e, wpAny_mono drawn (fun _ s2 got => ?_) fun _ _ e => e⟩) fun _ _ e => e
  obtain ⟨x, H', I2, rel, yld, st2, off2⟩ := got
  have B2 : Between X σ scope own ex fp pq tn s0 H0 (i + 1) H' s2 := ⟨I2, st2, off2⟩
  have P := I2.pinned (fun b hb => B2.free (N.sub b hb) (off2 b hb) fun p hp => hq p hp b hb) (N.turns.obj _ _ st2)
  refine wpAny_mono (pg.run _ s2 _ H' x v _ P rel (step x H' yld)) (fun _ s3 ⟨σ', H3, I3, wiped, q⟩ => ⟨_, σ', H3, I3, q, fun H4 s4 I4 => ?_⟩) fun _ _ z => False.elim z
  have stays : ∀ b ∈ fp, ∀ o, s2.heap.get? b = some o → s4.heap.get? b = some o ∧ H4 b = none := fun b hb o e => let p := I4.pin (b, o) (by simp [mem_pinsAt hb e]); ⟨p.1, p.2.1⟩
  have len : (wipe σ (own.map (·.2))).length = σ'.length := by rw [← wiped, wipe_length]
  exact ⟨I4.unpinned.weak len fun j v e => (wipe_some (wiped ▸ e)).1, N.turns.keep _ _ _ st2 fun b hb o e => (stays b hb o e).1, fun b hb => let ⟨o, e, _⟩ := N.turns.obj _ _ st2 b hb; (stays b hb o e).2⟩
/-- something besides is held through a turn .. -/
theorem hold {c : Addr} {o : Obj} (B : Between X σ scope own ex fp [] tn s0 H0 i H s) (hc : c ∈ ex) (no : H c = none) (lies : s.heap.get? c = some o) (plain : ∀ v, o.data ≠ .cell v) : Between X σ scope own ex fp [(c, o)] tn s0 H0 i H s where
  inv := B.inv.pins_of fun p hp => by
    rw [List.mem_singleton.mp hp]
    have f := B.free hc no (fun _ hp => absurd hp List.not_mem_nil)
    exact ⟨lies, no, f.2.1, f.2.2.1, plain⟩
  at_ := B.at_
  off := B.off
/-- .. and no longer -/
theorem drop (B : Between X σ scope own ex fp pq tn s0 H0 i H s) : Between X σ scope own ex fp [] tn s0 H0 i H s := ⟨B.inv.pins_of (fun _ hp => absurd hp List.not_mem_nil), B.at_, B.off⟩
/-- what may be written is written -/
theorem over {c : Addr} {h' : Heap} {tk : Nat} (N : Entered X pins σ tg J it ex fp tn s0 H0) (B : Between X σ scope own ex fp [] tn s0 H0 i H s) (hc : c ∈ ex) (no : H c = none) (apart : c ∉ fp) (same : ∀ b o, b ≠ c → s.heap.get? b = some o → h'.get? b = some o) :
    Between X σ scope own ex fp [] tn s0 H0 i H { s with heap := h', toks := tk } :=
  let ⟨f0, f1, _, f3, f4, f5⟩ := B.free hc no (fun _ hp => absurd hp List.not_mem_nil)
  ⟨B.inv.turned (it := c) (t' := tk) same f0 f1 f3 f4 f5, N.turns.keep _ _ _ B.at_ fun b hb o e => same b o (fun z => apart (z ▸ hb)) e, B.off⟩
end Between
end
end
section
variable {X : Cx}
/-- the set at c is no frame and no cell -/
theorem tu_plain {P : Program} {w : World} {h : Heap} {D : Addr} {L : List (Addr × KTx)} (x : TuAt P w h D L) : ∃ o, h.get? D = some o ∧ ∀ v : Option Value, o.data ≠ .cell v :=
  let ⟨o, _, _, _, e, _, d, _⟩ := x
  ⟨o, e, fun v z => by rw [d] at z; cases z⟩
theorem sq_core {pins : List (Addr × Obj)} {s : Shared} {σ : L2.St} {H : Hp} {elt tg iter : Expr} {ifs : List Expr} {scope : Scope} {own : List (PySem.Str × Nat)} {pos pos' : Pos} {wi : TI} {g : TG} {tt : TT} {te : TE} {use : Option (Value → Sem Unit)} {Qf : Value → Shared → Prop} {fin : List (Addr × KTx) → Hp → Prop}
    (hc : X.calm = true) (hu : X.A.units + 64 < cLine) (hN : X.N.Nodup) (I : L2.Inv X pins σ H s) (hi : PI X tg iter wi) (ok : BlkOk X.N X.env.scope scope own) (hg : InBlk X scope fun Y => PG Y tg g) (ht : InBlk X scope fun Y => PTs Y ifs tt) (he : InBlk X scope fun Y => PE Y elt te)
    (hs : ∀ x, foldedSetIterable iter X.env x = pure x) (h : tSq X.K wi g tt te (own.map (·.2)) fin σ H)
    (hRR : ∀ (D C : Addr) (s' : Shared) (H' : Hp) (acc L : List (Addr × KTx)), Between.Back X pins σ C H' s' → fin acc H' → GotT acc L → TuAt X.prog X.w s'.heap D L → FpOk X pins H' D → X.s_0.heap.objs.size ≤ D → C ≠ D → compPost (model X.prog X.w) X.A X.xe use Qf (.ref D) C (.ok .next) s') :
    wpAny (model X.prog X.w) X.A (comprehension (.SetComp elt [⟨tg, iter, ifs, 0⟩] scope pos) scope X.env pos' (newSet (.type "set")) false (eval iter X.env) use) Qf X.xe s := by
  refine wpAny_comprehension_free (use := use) rfl hs (closes I ok) ok.kind (fun y m e => (ok.uniq y m).trans (congrArg some e)) (wpAny_mono (hi.run pins s σ H _ I h) (fun xv s1 hx => wpAny_mono hx (fun itv s2 got => ?_) fun _ _ z => z) fun _ _ z => z)
  obtain ⟨it, fp, tn, J, H2, rfl, I2, T, st2, fps, V, ⟨m0, w0⟩, turn⟩ := got
  obtain ⟨D, eD⟩ : ∃ D, s2.heap.objs.size = D := ⟨_, rfl⟩
  have fD := I2.fpOk (Nat.le_of_eq eD) (I2.hok.fresh (Nat.le_of_eq eD))
  have low : ∀ b ∈ fp, b < D := fun b m => let ⟨_, e, _⟩ := T.obj _ _ st2 b m; eD ▸ Heap.lt_size e
  refine newSet_ok (newEnv_comp ?_)
  generalize es : ({ s2 with heap := s2.heap.push { cls := .type "set", dict := none, data := .set #[] 0 (.fresh 0 0 (!X.w.params.followText "set-order")) } } : Shared) = s3
  have more : ∀ b o, s2.heap.get? b = some o → s3.heap.get? b = some o := fun b o e => es ▸ Heap.get?_push_of_some _ e
  have size3 : s3.heap.objs.size = D + 1 := by rw [← es, ← eD]; exact Heap.size_push ..
  have lies3 : s3.heap.get? D = some (freshS X.w) := by rw [← es, ← eD]; exact Heap.get?_push_size _ rfl
  have I3 : L2.Inv X pins σ H2 s3 := es ▸ I2.turned (it := D) (t' := s2.toks) (fun b o _ e => Heap.get?_push_of_some _ e) fD.1 fD.2.1 fD.2.2.2.1 fD.2.2.2.2.1 fD.2.2.2.2.2
  have N : Entered X pins σ tg J it (D :: fp) fp tn s3 H2 := ⟨I3, T, fun b m => (List.mem_cons.mp m).elim (fun e => e ▸ fD) (fps b), fun b m => .tail _ m⟩
  have B0 : Between X σ scope own (D :: fp) fp [] tn s3 H2 0 H2 (laidFrame scope s3) := enter0 N (T.keep _ _ _ st2 fun b _ o e => more b o e) (fun b m => (List.mem_cons.mp m).elim (fun e => by rw [e, size3]; exact Nat.lt_succ_self D) fun m => by rw [size3]; exact Nat.lt_succ_of_lt (low b m)) ok hN
  have pg := hg s3 H2 s3.heap.objs.size (cellsFrom (s3.heap.objs.size + 1) scope.names (cloFrom X.env.cells scope.names [])) (D :: fp)
  have pt := ht s3 H2 s3.heap.objs.size (cellsFrom (s3.heap.objs.size + 1) scope.names (cloFrom X.env.cells scope.names [])) (D :: fp)
  have pe := he s3 H2 s3.heap.objs.size (cellsFrom (s3.heap.objs.size + 1) scope.names (cloFrom X.env.cells scope.names [])) (D :: fp)
  have notIn : D ∉ fp := fun m => Nat.lt_irrefl _ (low D m)
  rw [eD]
  show codeAny _ _ (.compStart (.SetComp elt [⟨tg, iter, ifs, 0⟩] scope pos) 0 (.ref it) (.ref D) (frameAt X scope s3)) (compPost (model X.prog X.w) X.A X.xe use Qf (.ref D) s3.heap.objs.size) (laidFrame scope s3)
  -- between two turns the set holds what was put in
  let Inside : Nat → Nat → Hp → Shared → Prop := fun n i H' s' => ∃ acc L, Between X σ scope own (D :: fp) fp [] tn s3 H2 i H' s' ∧ H' D = none ∧ V i n acc H' ∧ GotT acc L ∧ TuAt X.prog X.w s'.heap D L
  have loop : codeAny (model X.prog X.w) X.A (.compLoop (.SetComp elt [⟨tg, iter, ifs, 0⟩] scope pos) 0 (.ref it) (.ref D) (frameAt X scope s3)) (compPost (model X.prog X.w) X.A X.xe use Qf (.ref D) s3.heap.objs.size) (laidFrame scope s3) := by
    refine compLoopS_any (fun n s' => ∃ i H', Inside n i H' s') ?_ m0 ⟨0, H2, [], [], B0, fD.1, w0, .nil, fresh_tu (pushCells_keeps _ _ _ _ (Heap.get?_push_of_some _ lies3))⟩
    rintro n s5 ⟨i, H5, acc, L, B, no5, w5, g5, a5⟩
    obtain ⟨o5, lies5, plain5⟩ := tu_plain a5
    have Bh := B.hold (.head _) no5 lies5 plain5
    have apart : ∀ p ∈ [(D, o5)], ∀ b ∈ fp, p.1 ≠ b := fun p hp b hb e => by
      rw [List.mem_singleton.mp hp] at e
      have e' : D = b := e
      exact notIn (e'.symm ▸ hb)
    -- the set stands still while anything else goes on
    have held : ∀ {pl : List (Addr × Obj)} {σ' : L2.St} {H' : Hp} {s' : Shared}, L2.Inv (X.blk s3 H2 scope (frameAt X scope s3) (D :: fp)) ([(D, o5)] ++ pl) σ' H' s' → TuAt X.prog X.w s'.heap D L ∧ H' D = none := fun I' =>
      have p := I'.pin (D, o5) (by simp)
      ⟨a5.mono fun o e => by cases lies5.symm.trans e; exact p.1, p.2.1⟩
    rcases turn i n acc H5 w5 with ⟨stop, q⟩ | ⟨go, Nx, less, step⟩
    · refine wpAny_mono (Bh.stop N apart hc stop) (fun r s6 ⟨er, I6⟩ => ?_) fun _ _ z => z
      subst er
      obtain ⟨a6, no6⟩ := held (pl := []) I6
      exact hRR D s3.heap.objs.size s6 H5 acc L (Between.back N I6) q g5 a6 ⟨no6, fD.2⟩ (eD ▸ I2.sz) (by rw [size3]; exact Nat.succ_ne_self D)
    · refine wpAny_mono (Bh.next N apart hc go pg step) (fun r s6 ⟨v, er, rest⟩ => ?_) fun _ _ z => z
      subst er
      refine wpAny_mono rest (fun _ s7 rest => wpAny_mono rest (fun _ s8 ⟨pl, σ8, H8, I8, q8, later⟩ => wpAny_mono (pt.run _ s8 σ8 H8 _ I8 q8) (fun b s9 ⟨H9, I9, q9⟩ => ?_) fun _ _ z => False.elim z) fun _ _ z => z) fun _ _ z => z
      cases b with
      | false =>
        obtain ⟨m', hm, w'⟩ := less acc H9 (by simpa using q9)
        exact ⟨m', hm, i + 1, H9, acc, L, (later H9 s9 I9).drop, (held I9).2, w', g5, (held I9).1⟩
      | true =>
        simp only [if_true] at q9 ⊢
        refine wpAny_mono (pe.run _ s9 σ8 H9 _ I9 q9) (fun z s10 ⟨yv, H10, I10, rel, p, ey, tp, ta, few, nx⟩ => ?_) fun _ _ z => False.elim z
        subst ey
        obtain rfl : z = Value.ref p.1 := rel
        obtain ⟨⟨o, es', ep, t, e10, ex, d10, R⟩, no10⟩ := held I10
        have short := g5.len
        refine call_addT (D := D) e10 ex d10 R (fun q m => TupH.tx (X := X.blk s3 H2 scope (frameAt X scope s3) (D :: fp)) (ta q (g5.sub q m)) I10) (TupH.tx (X := X.blk s3 H2 scope (frameAt X scope s3) (D :: fp)) tp I10) (by show X.A.units + 8 < _; omega) (by omega) fun h' M same at' old new => ?_
        obtain ⟨m', hm, w'⟩ := less _ H10 nx
        exact ⟨m', hm, i + 1, H10, _, M, Between.over (s := s10) (tk := s10.toks + (p.2.length + 1)) (c := D) (h' := h') N (later H10 s10 I10).drop (.head _) no10 notIn (fun b o ne e => (same.2 b ne).trans e), no10, w', g5.snoc old new, at'⟩
  exact codeAny_compStart_set loop (T.self X.A 0 _ _ _ B0.at_ loop)
end
end
def okTx : D → Option D
  | .tup ds => (strsD ds).bind fun z => if z = [] then none else some (.tup ds)
  | _ => none
def hTx (z : List (List Nat)) : D := .tup (z.map .str)
def hsD : List D → Option (List (List (List Nat)))
  | [] => some []
  | .tup ds :: r => (strsD ds).bind fun z => (hsD r).map (z :: ·)
  | _ :: _ => none
def ddT : List (List (List Nat)) → List (List (List Nat))
  | [] => []
  | x :: r => if x ∈ r then ddT r else x :: ddT r
theorem mem_ddT {x : List (List Nat)} : ∀ {l : List (List (List Nat))}, x ∈ ddT l ↔ x ∈ l
  | [] => Iff.rfl
  | y :: r => by
    have ih := mem_ddT (x := x) (l := r)
    unfold ddT
    split
    · rename_i h
      rw [ih, List.mem_cons]
      exact ⟨.inr, fun z => z.elim (fun e => e ▸ h) id⟩
    · rw [List.mem_cons, List.mem_cons, ih]
theorem nodup_ddT : ∀ {l : List (List (List Nat))}, (ddT l).Nodup
  | [] => List.nodup_nil
  | y :: r => by
    unfold ddT
    split
    · exact nodup_ddT
    · rename_i h
      exact List.nodup_cons.mpr ⟨fun m => h (mem_ddT.mp m), nodup_ddT⟩
def setSortT (es : List D) : Option D := (hsD es).bind fun l => some (.lst ((sortT (ddT l)).map hTx))
def fewL (ds : List D) : Option (List D) := if ds.length < 63 then some ds else none
theorem hsD_map : ∀ l : List (List (List Nat)), hsD (l.map hTx) = some l
  | [] => rfl
  | z :: l => by
    show (strsD (z.map .str)).bind _ = _
    rw [strsD_map]
    show (hsD (l.map hTx)).map _ = _
    rw [hsD_map l]
    rfl
theorem okTx_eq {y y' : D} (h : okTx y = some y') : y' = y ∧ ∃ z : List (List Nat), z ≠ [] ∧ y = hTx z := by
  cases y with
  | tup ds =>
    have h : ((strsD ds).bind fun z => if z = [] then none else some (D.tup ds)) = some y' := h
    cases q : strsD ds with
    | none => rw [q] at h; cases h
    | some z =>
      rw [q] at h
      by_cases e : z = []
      · have h : (if z = [] then none else some (D.tup ds)) = some y' := h
        rw [if_pos e] at h; cases h
      · have h : (if z = [] then none else some (D.tup ds)) = some y' := h
        rw [if_neg e] at h
        cases h
        exact ⟨rfl, z, e, by rw [strsD_eq q]; rfl⟩
  | _ => cases h
section
variable {K : PySem.W.Frag} {mg : Str → Option Value} {Hf H : Hp} [DL.TC]
theorem isl_str_eq : ∀ {z : List (List Nat)} {vs : List V}, IsL K mg Hf (z.map .str) vs → vs = (z.map toS).map V.str
  | [], _, h => h
  | z :: zs, _, h => by
    obtain ⟨v, r, rfl, ⟨e, _⟩, t⟩ := h
    rw [e, isl_str_eq t]
    rfl
theorem is_tup {z : List (List Nat)} {v : V} (i : Is K mg Hf (hTx z) v) : ∃ c, v = .ref c ∧ TupH K Hf (c, z.map toS) := by
  obtain ⟨_, a, vs, rfl, sq, l⟩ := i
  refine ⟨a, rfl, ?_⟩
  show SqT K Hf a ((z.map toS).map V.str)
  rw [← isl_str_eq l]
  exact sq
theorem TupH.sub {p : Addr × KTx} (x : TupH K Hf p) (s : Sub Hf H) : TupH K H p := by
  rcases x with x | x
  · refine .inl ?_
    rcases x with x | ⟨o, x⟩
    · exact .inl (s _ _ x)
    · exact .inr ⟨o, s _ _ x⟩
  · exact .inr x
theorem kz_toS (z : List (List Nat)) : kz (z.map toS) = z := by
  unfold kz
  rw [List.map_map]
  exact List.map_id z
theorem kz_inj {a b : KTx} (h : kz a = kz b) : a = b := by
  have g : ∀ a : KTx, (kz a).map toS = a := fun a => by
    unfold kz
    rw [List.map_map]
    exact List.map_id a
  rw [← g a, ← g b, h]
end
def AccR (K : PySem.W.Frag) (mg : Str → Option Value) (Hf : Hp) (acc : List (Addr × KTx)) : Prop := ∀ q ∈ acc, q.2 ≠ [] ∧ Is K mg Hf (hTx (kz q.2)) (.ref q.1) ∧ TupH K Hf q
def FinC (K : PySem.W.Frag) (P : Program) (w : World) (Q : VK) (acc : List (Addr × KTx)) (H : Hp) : Prop := (∀ q ∈ acc, TupH K H q ∧ q.2 ≠ []) ∧ acc.length < 64 ∧
  ∀ D L p (M : List (Addr × KTx)), GotT acc L → H D = none → upd H D (TuSetO P w D L) p = none → M.Perm L → M.map (fun q => kz q.2) = sortT (L.map fun q => kz q.2) → Q (.ref p) (upd (upd H D (TuSetO P w D L)) p (.lst (M.map fun q => V.ref q.1)))
section
variable {X : Cx} {fx : Fx} {m : Type → Type} [Mo m] {G : List Sl} {γ : Type} {kk : Nat} [DL.TC]
theorem sq_read {xi : m (List D)} {u : D → Option γ} {xt : γ → m Bool} {xe : γ → m D} {g : TG} {st : List Sl → γ → List Sl} {is vs : List Nat} {tg : Expr} {K : PySem.W.Frag} {mg : Str → Option Value} {P : Program} {w : World}
    (hg : ∀ {G : List Sl} {Hf : Hp} {d : D} {v : V} {σ : L2.St} {H : Hp} {s : S} {c : γ} {Q : L2.St → Hp → Prop}, StS K mg fx.nox Hf H σ G s → Is K mg Hf d v → u d = some c → (∀ σ', (∀ j, j ∉ is → σ'[j]? = σ[j]?) → σ'.length = σ.length → StS K mg fx.nox Hf H σ' (st G c) s → Q σ' H) → g v σ H Q)
    (hsub : ∀ i ∈ is, i ∈ vs) {σ : L2.St} {H : Hp} {Q : VK} (h : tE K mg fx G (do let ds ← xi; let ds ← ask (fewL ds); let es ← lcF u xt (fun c => do let y ← xe c; ask (okTx y)) ds; ask (setSortT es)) σ H Q) :
    tSq K (tI K mg fx G xi) g (fun σ H Q => ∃ c, tT K mg fx.nox (st (wipeG G vs) c) (xt c) σ H Q) (fun σ H Q => ∃ c, tE K mg fx.nox (st (wipeG G vs) c) (xe c) σ H Q) vs (FinC K P w Q) σ H := by
  obtain ⟨Hf0, s0, st0, w0⟩ := h
  refine ⟨Hf0, s0, st0, Mo.wp_mono (Mo.wp_bind w0) (fun ds s1 w1 J Hf1 H1 e1 bg1 yl => ?_) fun e s' k => k⟩
  have st1 := st0.step e1 bg1
  have w1' := Mo.wp_lift (Mo.wp_bind w1)
  cases qf : fewL ds with
  | none => rw [qf] at w1'; exact w1'.elim
  | some ds' =>
  rw [qf] at w1'
  have few : ds.length < 63 ∧ ds' = ds := by
    unfold fewL at qf
    split at qf
    · cases qf; exact ⟨‹_›, rfl⟩
    · cases qf
  obtain ⟨few, rfl⟩ := few
  have w2 : Mo.wp (lcF u xt (fun c => do let y ← xe c; ask (okTx y)) ds' >>= fun es => ask (setSortT es)) s1 _ _ := w1'
  have w3 := Mo.wp_bind w2
  refine ⟨fun i mm acc H' => mm = ds'.length - i ∧ i ≤ ds'.length ∧ ∃ Hf s, Sub Hf1 Hf ∧ StS K mg fx Hf H' σ G s ∧ Ste fx.bag Hf0 H Hf H' ∧ AccR K mg Hf acc ∧ acc.length ≤ i ∧
    Mo.wp (lcF u xt (fun c => do let y ← xe c; ask (okTx y)) (ds'.drop i)) s (fun r s' => Mo.wp (ask (setSortT (acc.map (fun q => hTx (kz q.2)) ++ r)) : m D) s' (fun d s' => ∀ b Hf' H', Ste fx.bag Hf0 H Hf' H' → BagAt fx.bag H' s' → Is K mg Hf' d b → Q b H') (EX K mg fx G σ)) (EX K mg fx G σ),
    ⟨ds'.length, by simp, Nat.zero_le _, Hf1, s1, .refl _, st1, e1, (fun q m => by cases m), Nat.zero_le _, w3⟩, ?_⟩
  rintro i mm acc H2 ⟨rfl, hi, Hf2, s2, sb2, st2, e2, ac2, la, w2⟩
  obtain ⟨y1, y2⟩ := yl.2 Hf2 H2 sb2 st2.top i
  by_cases hlt : i < ds'.length
  · obtain ⟨go, yd⟩ := y1 ds'[i] (List.getElem?_eq_getElem hlt)
    rw [List.drop_eq_getElem_cons hlt] at w2
    have w4 := Mo.wp_lift (Mo.wp_bind w2)
    refine .inr ⟨go, fun acc H' => i + 1 ≤ ds'.length ∧ ∃ Hf s, Sub Hf1 Hf ∧ StS K mg fx Hf H' σ G s ∧ Ste fx.bag Hf0 H Hf H' ∧ AccR K mg Hf acc ∧ acc.length ≤ i + 1 ∧
      Mo.wp (lcF u xt (fun c => do let y ← xe c; ask (okTx y)) (ds'.drop (i + 1))) s (fun r s' => Mo.wp (ask (setSortT (acc.map (fun q => hTx (kz q.2)) ++ r)) : m D) s' (fun d s' => ∀ b Hf' H', Ste fx.bag Hf0 H Hf' H' → BagAt fx.bag H' s' → Is K mg Hf' d b → Q b H') (EX K mg fx G σ)) (EX K mg fx G σ), fun acc' H' q => ⟨ds'.length - (i + 1), by omega, rfl, q⟩, fun x H3 y => ?_⟩
    obtain ⟨Hf3, e3, is3⟩ := yd x H3 y
    cases q : u ds'[i] with
    | none => rw [q] at w4; exact w4.elim
    | some c =>
      rw [q] at w4
      have st3 := st2.step e3.wide (e3.bag st2.bag)
      refine hg (st3.wiped vs) is3 q fun σ2 hs hl st4 => ⟨wipe_eq hl fun j hj => hs j fun z => hj (hsub j z), c, Hf3, s2, st4, ?_⟩
      refine Mo.wp_mono (Mo.wp_noex (Mo.wp_bind w4)) (fun b s5 w5 b' Hf5 H5 e5 bg5 eb => ?_) fun _ _ f => f.elim
      subst eb
      have st5 := st3.step (fx := fx) (Hf' := Hf5) (H' := H5) e5 bg5
      have e25 : Ste fx.bag Hf2 H2 Hf5 H5 := (e3.wide).trans e5
      cases b' with
      | true =>
        refine ⟨c, Hf5, s5, st4.step e5 bg5, ?_⟩
        have w6 : Mo.wp (Mo.noex (xe c >>= fun y => ask (okTx y)) >>= fun y => lcF u xt (fun c => do let y ← xe c; ask (okTx y)) (ds'.drop (i + 1)) >>= fun r => pure (y :: r)) s5 _ _ := w5
        refine Mo.wp_mono (Mo.wp_bind (Mo.wp_noex (Mo.wp_bind w6))) (fun y s6 w7 yv Hf6 H6 e6 bg6 is6 => ?_) fun _ _ f => f.elim
        have w8 := Mo.wp_lift w7
        cases qy : okTx y with
        | none => rw [qy] at w8; exact w8.elim
        | some y' =>
          rw [qy] at w8
          obtain ⟨rfl, z, hz, rfl⟩ := okTx_eq qy
          obtain ⟨a, rfl, ta⟩ := is_tup is6
          have e26 := e25.trans e6
          have st6 := st5.step (fx := fx) (Hf' := Hf6) (H' := H6) e6 bg6
          have acs : AccR K mg Hf6 (acc ++ [(a, z.map toS)]) := fun q m => by
            rcases List.mem_append.mp m with m | m
            · obtain ⟨a1, a2, a3⟩ := ac2 q m
              exact ⟨a1, a2.mono e26.sub, a3.sub e26.sub⟩
            · rw [List.mem_singleton.mp m]
              exact ⟨fun e => hz (List.map_eq_nil_iff.mp e), by rw [kz_toS]; exact is6, ta⟩
          refine ⟨(a, z.map toS), rfl, ta.sub st6.top, fun q m => ((acs q (List.mem_append_left _ m)).2.2).sub st6.top, by omega, hlt, Hf6, s6, sb2.trans e26.sub, st6, e2.trans e26, acs, by rw [List.length_append, List.length_singleton]; omega, ?_⟩
          refine Mo.wp_mono (Mo.wp_bind w8) (fun r s8 w9 => ?_) fun e s' k => k
          have w10 := Mo.wp_pure w9
          rw [List.map_append, List.append_assoc]
          show Mo.wp (ask (setSortT (acc.map (fun q => hTx (kz q.2)) ++ (hTx (kz (z.map toS)) :: r))) : m D) s8 _ _
          rw [kz_toS]
          exact w10
      | false => exact ⟨hlt, Hf5, s5, sb2.trans e25.sub, st5, e2.trans e25, fun q m => ⟨(ac2 q m).1, (ac2 q m).2.1.mono e25.sub, (ac2 q m).2.2.sub e25.sub⟩, Nat.le_succ_of_le la, w5⟩
  · have e : i = ds'.length := by omega
    subst e
    refine .inl ⟨y2 (Nat.le_refl _), fun q m => ⟨((ac2 q m).2.2).sub st2.top, (ac2 q m).1⟩, by omega, fun D L p M g hD hp pm hk => ?_⟩
    rw [List.drop_length] at w2
    have w3 := Mo.wp_lift (Mo.wp_pure w2)
    rw [List.append_nil, show (acc.map fun q => hTx (kz q.2)) = (acc.map fun q => kz q.2).map hTx by rw [List.map_map]; rfl] at w3
    have es : setSortT ((acc.map fun q => kz q.2).map hTx) = some (.lst ((sortT (ddT (acc.map fun q => kz q.2))).map hTx)) := by
      unfold setSortT
      rw [hsD_map]
      rfl
    rw [es] at w3
    have nk : (L.map fun q => kz q.2).Nodup := by
      have := g.nd
      rw [show (L.map fun q => kz q.2) = (L.map (·.2)).map kz by rw [List.map_map]; rfl]
      exact List.pairwise_map.mpr (this.imp fun n e => n (kz_inj e))
    have pl : (L.map fun q => kz q.2).Perm (ddT (acc.map fun q => kz q.2)) := (List.perm_ext_iff_of_nodup nk nodup_ddT).mpr fun z => by
      rw [mem_ddT]
      constructor
      · intro mz
        obtain ⟨q, hq, rfl⟩ := List.mem_map.mp mz
        exact List.mem_map.mpr ⟨q, g.sub q hq, rfl⟩
      · intro mz
        obtain ⟨q, hq, rfl⟩ := List.mem_map.mp mz
        obtain ⟨r, hr, er⟩ := List.mem_map.mp (g.all q hq)
        exact List.mem_map.mpr ⟨r, hr, by rw [er]⟩
    rw [← sortT_perm pl, ← hk] at w3
    have ml : M.length ≤ sizeLine := by
      have a := pm.length_eq
      have b := g.len
      rw [sizeLine_eq]
      omega
    have s1 : Ste [] Hf2 H2 Hf2 (upd H2 D (TuSetO P w D L)) := .new' st2.top hD
    have s2' := Ste.new (bag := []) (o := .lst (M.map fun q => V.ref q.1)) s1.top hp
    refine w3 (.ref p) _ _ (e2.trans (s1.trans s2').wide) ((s1.trans s2').bag st2.bag) ⟨by rw [List.length_map, List.length_map]; exact ml, p, _, rfl, upd_same, ?_⟩
    have sub3 : Sub Hf2 (upd Hf2 p (.lst (M.map fun q => V.ref q.1))) := (s1.trans s2').sub
    have gl : ∀ N : List (Addr × KTx), (∀ q ∈ N, q ∈ acc) → IsL K mg (upd Hf2 p (.lst (M.map fun q => V.ref q.1))) ((N.map fun q => kz q.2).map hTx) (N.map fun q => V.ref q.1) := by
      intro N
      induction N with
      | nil => intro _; rfl
      | cons q N ih => exact fun hN => .cons (((ac2 q (hN q (.head _))).2.1).mono sub3) (ih fun r m => hN r (.tail _ m))
    exact gl M fun q m => g.sub q (pm.mem_iff.mp m)
end
section
variable {X : Cx} [DL.TC]
section
variable {X : Cx} [DL.TC]
/-- as a value: the set is tracked behind the comprehension -/
theorem pe_sq {elt tg iter : Expr} {ifs : List Expr} {scope : Scope} {own : List (PySem.Str × Nat)} {pos : Pos} {wi : TI} {g : TG} {tt : TT} {te : TE} (hc : X.calm = true) (hu : X.A.units + 64 < cLine) (hN : X.N.Nodup) (hi : PI X tg iter wi) (ok : BlkOk X.N X.env.scope scope own)
    (hg : InBlk X scope fun Y => PG Y tg g) (ht : InBlk X scope fun Y => PTs Y ifs tt) (he : InBlk X scope fun Y => PE Y elt te) (hs : ∀ x, foldedSetIterable iter X.env x = pure x) :
    PE X (.SetComp elt [⟨tg, iter, ifs, 0⟩] scope pos) (fun σ H Q => tSq X.K wi g tt te (own.map (·.2)) (fun acc H' => ∀ D L, GotT acc L → H' D = none → Q (.ref D) (upd H' D (TuSetO X.prog X.w D L))) σ H) where
  run pins s σ H Q I h := by
    rw [eval_SetComp]
    refine sq_core hc hu hN I hi ok hg ht he hs h fun D C s' H' acc L ⟨I', ⟨m, names⟩, f0, f1, _, f3, f4, f5⟩ q got lies ⟨d0, d1, _, d3, d4, d5⟩ above ne => ⟨m, names, fun h2 same => ?_⟩
    have lies2 : TuAt X.prog X.w h2 D L := lies.mono fun o e => (same.2 D (Ne.symm ne)).trans e
    have J : L2.Inv X pins σ H' { s' with heap := h2, toks := s'.toks } := I'.turned (fun b o n e => (same.2 b n).trans e) f0 f1 f3 f4 f5
    exact ⟨.ref D, upd H' D (TuSetO X.prog X.w D L), invAdopt J d0 d1 above d4 d5 ⟨lies2, let ⟨o, e, _⟩ := tu_plain lies2; ⟨o, e⟩, fun _ _ y st => y.mono st⟩, rfl, q D L got d0⟩
end
def rSortT (K : PySem.W.Frag) (P : Program) (w : World) : List V → Hp → VK → Prop := fun vs H Q => ∃ (S : Addr) (L : List (Addr × KTx)), vs = [V.ref S] ∧ H S = some (TuSetO P w S L) ∧ (∀ q ∈ L, TupH K H q ∧ q.2 ≠ []) ∧ L.length < 64 ∧ ∀ p (M : List (Addr × KTx)), H p = none → M.Perm L → M.map (fun q => kz q.2) = sortT (L.map fun q => kz q.2) → Q (.ref p) (upd H p (.lst (M.map fun q => V.ref q.1)))
theorem vals_refs : ∀ M : List (Addr × KTx), Vals (M.map fun q => V.ref q.1) (M.map fun q => Value.ref q.1)
  | [] => .nil
  | q :: M => .cons rfl (vals_refs M)
theorem cr_sortT (hc : X.calm = true) (hu : X.A.units + 64 < cLine) : CallR X (.builtin "sorted") (rSortT X.K X.prog X.w) := by
  intro pins s σ H vs us Q I r h
  obtain ⟨S, L, rfl, hS, hL, few, q⟩ := h
  rw [Vals.ref1 r]
  obtain ⟨o, es, ep, t, ho, hex, hd, R⟩ := (I.hok S _ hS).1
  refine sorted_tx ho hex hd R (fun p m => (hL p m).1.tx I) (fun p m => (hL p m).2) (I.ok.hd hc) hu fun s' l out c M k g ou hl hg hout pm hk => ?_
  have hn : H l = none := I.hok.fresh hl
  have hlen : (M.map fun q => V.ref q.1).length ≤ sizeLine := by
    rw [List.length_map, pm.length_eq, sizeLine_eq]
    omega
  exact ⟨.ref l, upd H l (.lst (M.map fun q => V.ref q.1)), I.call' (ch := []) ou (Un.laid k hl hn) (I.hok.laid k hl ⟨hlen, out.toList, c, by rw [hout]; exact vals_refs M, hg⟩) (by rw [g]; exact I.bare) (fun _ z => nomatch z), rfl, q l M hn pm hk⟩
end
section
variable {X : Cx} {fx : Fx} {m : Type → Type} [Mo m] {G : List Sl} {γ : Type} {kk : Nat} [DL.TC]
theorem de_sortSC {xi : m (List D)} {u : D → Option γ} {xt : γ → m Bool} {xe : γ → m D} {st : List Sl → γ → List Sl} {is : List Nat} {tg iter elt : Expr} {ifs : List Expr} {scope : Scope} {p pos cpos : Pos} (own : List (Str × Nat)) (C : Cok X fx kk) (hms : X.mg "sorted" = none) (hi : PI X tg iter (tI X.K X.mg fx G xi)) (ok : BlkOk X.N X.env.scope scope own)
    (hg : ∀ (s : Shared) (H : Hp) (A : Addr) (cl : List (Str × Addr)) (fp : List Addr), PGd (X.blk s H scope (compEnvC scope cl A X.env) fp) fx.nox tg g u st is)
    (ht : ∀ (s : Shared) (H : Hp) (A : Addr) (cl : List (Str × Addr)) (fp : List Addr), Cok (X.blk s H scope (compEnvC scope cl A X.env) fp) fx.nox kk → ∀ c, PTs (X.blk s H scope (compEnvC scope cl A X.env) fp) ifs (tT X.K X.mg fx.nox (st (wipeG G (own.map (·.2))) c) (xt c)))
    (he : ∀ (s : Shared) (H : Hp) (A : Addr) (cl : List (Str × Addr)) (fp : List Addr), Cok (X.blk s H scope (compEnvC scope cl A X.env) fp) fx.nox kk → ∀ c, PE (X.blk s H scope (compEnvC scope cl A X.env) fp) elt (tE X.K X.mg fx.nox (st (wipeG G (own.map (·.2))) c) (xe c)))
    (hsub : ∀ i ∈ is, i ∈ own.map (·.2)) (hs : ∀ x, foldedSetIterable iter X.env x = pure x := by intro _; rfl)
    (hgs : Gl X "sorted" := by rfl) (hst : starEach [(.SetComp elt [⟨tg, iter, ifs, 0⟩] scope cpos : Expr)] X.env = (false, eval (.SetComp elt [⟨tg, iter, ifs, 0⟩] scope cpos) X.env) :: starEach [] X.env := by rfl) (hpl : (backTo pos (starEach [] X.env)).any (·.1) = false := by rfl) :
    PE X (.Call (.Name "sorted" p) [.SetComp elt [⟨tg, iter, ifs, 0⟩] scope cpos] [] pos) (tE X.K X.mg fx G (do let ds ← xi; let ds ← ask (fewL ds); let es ← lcF u xt (fun c => do let y ← xe c; ask (okTx y)) ds; ask (setSortT es))) := by
  refine peI (pe_callB (cr_sortT C.calm C.rm.units) hgs hms rfl (pa_cons (pe_sq (own := own) C.calm C.rm.units C.nd hi ok (fun s H A cl fp => (hg s H A cl fp).1) (fun s H A cl fp => pts_ex (ht s H A cl fp (C.blk ..))) (fun s H A cl fp => pe_ex (he s H A cl fp (C.blk ..))) hs) pa_nil hst) (by decide) (by decide) hst hpl) fun σ H Q h => ?_
  have rd := sq_read (tg := tg) (P := X.prog) (w := X.w) (fun {G Hf d v σ H s c Q} => (hg {} (fun _ => none) 0 [] []).2) hsub h
  refine tSq_mono (fun acc H' f => ?_) rd
  obtain ⟨f1, f2, f3⟩ := f
  intro D L got hD
  have keep : ∀ q, TupH X.K H' q → TupH X.K (upd H' D (TuSetO X.prog X.w D L)) q := fun q x => x.sub fun a o e => by rw [upd_ne (ne_of_none e hD)]; exact e
  exact ⟨D, L, rfl, upd_same, fun q m => ⟨keep q (f1 q (got.sub q m)).1, (f1 q (got.sub q m)).2⟩, Nat.lt_of_le_of_lt got.len f2, fun p M hp pm hk => f3 D L p M got hD hp pm hk⟩
end
end DL
namespace DL
open PySem PySem.Spec PyProof.Rows L2
theorem pick_to1 (items : Array Value) : slicePick items none (some 0) (some (-1)) = (items.toList.drop 1).reverse.toArray := by
  have fr := filter_range items.toList
  have hl : items.toList.length = items.size := rfl
  have bd : sliceBounds none (some 0) (some (-1)) items.size = ((items.size : Int) - 1, (if items.size = 0 then -1 else 0), -1) := by
    unfold sliceBounds
    by_cases h : items.size = 0
    · simp only [h]
      rfl
    · have : (0 : Int) ≤ (items.size : Int) - 1 := by omega
      simp [h]
      omega
  unfold slicePick
  rw [bd]
  dsimp only
  congr 1
  have rg : sliceRange ((items.size : Int) - 1) (if items.size = 0 then -1 else 0) (-1) = ((List.range (items.size - 1)).map Nat.succ).reverse := by
    unfold sliceRange
    have h1 : ¬ ((-1 : Int) > 0) := by decide
    rw [if_neg h1]
    refine List.ext_getElem? fun i => ?_
    have cnt : (if (items.size : Int) - 1 > (if items.size = 0 then -1 else 0) then ((items.size : Int) - 1 - (if items.size = 0 then -1 else 0) - -1 - 1) / (- -1) else 0).toNat = items.size - 1 := by
      rw [show (- -1 : Int) = 1 by decide, Int.ediv_one]
      by_cases h : items.size = 0
      · simp [h]
      · simp only [h, if_false]
        split <;> omega
    dsimp only
    rw [cnt, List.getElem?_map]
    by_cases hi : i < items.size - 1
    · rw [List.getElem?_range hi, List.getElem?_reverse (by simpa using hi), List.getElem?_map, List.length_map, List.length_range, List.getElem?_range (by omega)]
      simp only [Option.map_some]
      congr 1
      omega
    · rw [List.getElem?_eq_none (by simpa using hi), List.getElem?_eq_none (by simpa using hi)]
      rfl
  rw [rg, List.filterMap_reverse]
  congr 1
  cases hn : items.size with
  | zero =>
    have : items.toList = [] := List.length_eq_zero_iff.mp (by rw [hl, hn])
    rw [this]; rfl
  | succ n =>
    rw [hl, hn, List.range_succ_eq_map] at fr
    have e : items.toList[0]? = some (items.toList[0]'(by rw [hl, hn]; omega)) := List.getElem?_eq_getElem _
    rw [List.filterMap_cons_some e] at fr
    rw [← fr, List.drop_succ_cons, List.drop_zero, Nat.add_sub_cancel]
    exact fm_congr fun i _ => by simp
theorem vals_drop1 : ∀ {xs : List V} {its : List Value}, Vals xs its → Vals (xs.drop 1) (its.drop 1)
  | _, _, .nil => .nil
  | _, _, .cons _ t => t
theorem isl_drop1 {K : PySem.W.Frag} {mg : Str → Option Value} {H : Hp} : ∀ {ds : List D} {vs : List V}, IsL K mg H ds vs → IsL K mg H (ds.drop 1) (vs.drop 1)
  | [], _, h => by cases h; rfl
  | d :: ds, _, h => by
    obtain ⟨v, r, rfl, _, t⟩ := h
    exact t
section
variable {X : Cx} [DL.TC]
section
variable {X : Cx} [DL.TC]
/-- the slice object of [:0:-1] comes to lie somewhere -/
theorem slice_to0 {k k2 : Nat} {p0 p1 p2 p3 : Pos} {pins : List (Addr × Obj)} {s : Shared} {σ : L2.St} {H : Hp} {Q : Value → Shared → Prop} (I : L2.Inv X pins σ H s)
    (h : ∀ (t u : Tok) (sl : Addr) (s' : Shared), L2.Inv X pins σ H s' → s'.heap.IsSliceOf sl .none (.int 0 u) (.int (-1) t) → Q (.ref sl) s') :
    wpAny (model X.prog X.w) X.A (eval (.Slice none (some (.Constant (.int 0) k2 p0)) (some (.UnaryOp .USub (.Constant (.int 1) k p1) p2)) p3) X.env) Q X.xe s := by
  have zero : PE X (.Constant (.int 0) k2 p0) _ := pe_int
  have minus : PE X (.UnaryOp .USub (.Constant (.int 1) k p1) p2) _ := pe_un un_neg pe_int
  apply wpAny_Slice
  simp only [evalPart_none, evalPart_some]
  refine wpAny_pure (wpAny_mono (zero.run pins s σ H (fun x H' => x = .int 0 ∧ H' = H) I ⟨rfl, rfl⟩) (fun v0 s0 got => ?_) fun _ _ z => z)
  obtain ⟨_, H0, I0, rel0, rfl, same0⟩ := got
  rw [same0] at I0
  obtain ⟨u, rfl⟩ := rel0
  refine wpAny_mono (minus.run pins s0 σ H (fun x H' => x = .int (-1) ∧ H' = H) I0 ⟨1, rfl, rfl, rfl⟩) (fun v1 s1 got => ?_) fun _ _ z => z
  obtain ⟨_, H1, I1, rel1, rfl, same1⟩ := got
  rw [same1] at I1
  obtain ⟨t, rfl⟩ := rel1
  exact h t u _ _ (I1.kept (t' := s1.toks) fun b o e => Heap.get?_push_of_some _ e) (Heap.IsSliceOf.new ..)
/-- xs[:0:-1] -/
theorem pe_to1 {e : Expr} {te : TE} {k k2 : Nat} {p0 p1 p2 p3 pos : Pos} (he : PE X e te) : PE X (.Subscript e (.Slice none (some (.Constant (.int 0) k2 p0)) (some (.UnaryOp .USub (.Constant (.int 1) k p1) p2)) p3) pos)
    (fun σ H Q => te σ H fun x H1 => ∃ a xs, x = .ref a ∧ SqL X.K H1 a xs ∧ ∀ p, H1 p = none → Q (.ref p) (upd H1 p (.lst (xs.drop 1).reverse))) where
  run pins s σ H Q I h := Subscript_ (wpAny_mono (he.run pins s σ H _ I h) (fun v s1 ⟨x, H1, I1, rel, a, xs, ex, seq, q⟩ => slice_to0 I1 fun t u sl s2 I2 at_ => by
    subst ex
    cases rel
    obtain ⟨its, vals, lies, le⟩ := I2.list seq
    have same := vals.length
    refine tail_any (ops := [.ref a, .ref sl]) lies.isList.typeIs PySem.slot_list_getitem.lookup (wpAny_getItem_list_slice lies.isList at_ .none (.int _ _) (.int _ _) (by decide) ?_ (by rw [List.size_toArray]; omega)) (by with_unfolding_all rfl)
    rw [pick_to1]
    exact ⟨.ref _, _, I2.laid (t' := s2.toks) (o := .lst (xs.drop 1).reverse) (fun b o e => Heap.get?_push_of_some _ e) (Nat.le_refl _) ⟨by rw [List.length_reverse, List.length_drop]; omega, _, 0, (vals_drop1 vals).reverse, Heap.get?_push_size _ rfl⟩, rfl, q _ (I2.hok.fresh (Nat.le_refl _))⟩) fun _ _ z => z)
end
end
section
variable {X : Cx} {fx : Fx} {m : Type → Type} [Mo m] {G : List Sl} {e : Expr} {pos p0 p1 p2 p3 : Pos} {x : m D} [DL.TC]
def revTo1D : D → Option D
  | .lst ds => some (.lst (ds.drop 1).reverse)
  | _ => none
theorem de_revTo1 {k k2 : Nat} (he : PE X e (tE X.K X.mg fx G x)) : PE X (.Subscript e (.Slice none (some (.Constant (.int 0) k2 p0)) (some (.UnaryOp .USub (.Constant (.int 1) k p1) p2)) p3) pos) (tE X.K X.mg fx G (do let d ← x; ask (revTo1D d))) :=
  peI (pe_to1 he) fun σ H Q ⟨Hf, s, h⟩ => (h.bind.mono fun v H1 ⟨d, Hf1, s1, sb, r, h1⟩ => by
    obtain ⟨e, q0, q⟩ := h1.ask
    cases d with
    | lst ds =>
      cases q0
      obtain ⟨hz, a, vs, rfl, t, l⟩ := r
      refine ⟨a, vs, rfl, .inl (.inl (h1.1.top _ _ t)), fun p hp => q _ _ _ (.new h1.1.top hp) ⟨by rw [List.length_reverse, List.length_drop]; omega, p, _, rfl, upd_same, ((isl_drop1 l).reverse).mono (Ste.new (bag := []) h1.1.top hp).sub⟩⟩
    | _ => cases q0).to
end
end DL
namespace FN
open DL
def b__law_texts_372f (a0 : D) : R (Fl Unit Empty) := (do let v7 ← (mkL (do let r6 ← (do let r1 ← (pure a0); DL.ask (itD r1)); lcF (fun d => some d) (fun (c3 : D) => pure true) (fun (c3 : D) => (do let x4 ← (pure (.str [46])); let _ ← DL.ask (strOf x4); let y5 ← (pure c3); DL.ask (joinD x4 y5))) r6)); pure (.rt v7))
theorem e__law_texts_372f (a0 : D) : b__law_texts_372f a0 = (do let r6 ← (DL.ask (itD a0)); let v7 ← (lcF (fun d => some d) (fun (c3 : D) => pure true) (fun (c3 : D) => (do let _ ← DL.ask (strOf (.str [46])); DL.ask (joinD (.str [46]) c3))) r6); pure (.rt (.lst v7))) := by
  unfold b__law_texts_372f; simp only [pure_bind, bind_assoc, mkL]
def m__law_texts_372f : List D → R D := apR1 fun a0 => (runR false (b__law_texts_372f a0))
theorem n__law_texts_372f : ∀ ds : List D, m__law_texts_372f ds ≠ .stuck → ds.length = 1 := apR1_len _
def k__law_turned_2db7_0 (a0 : D) : R (Fl (Unit) (Empty)) := (do let v14 ← (mkL (do let r13 ← (do let r2 ← (do let x1 ← (pure a0); DL.ask (revD x1)); DL.ask (itD r2)); lcF (fun d => some d) (fun (c4 : D) => pure true) (fun (c4 : D) => (do let x11 ← (do let x7 ← (pure c4); let l8 ← (pure none); let u9 ← (do let x5 ← (pure (.int 1)); let i6 ← DL.ask (intOf x5); pure (some i6)); DL.ask (sliceD x7 l8 u9)); let y12 ← (do let x10 ← (pure c4); DL.ask (revTo1D x10)); DL.ask (addD x11 y12))) r13)); pure (.rt v14))
def b__law_turned_2db7 (a0 : D) : R (Fl Unit Empty) := (k__law_turned_2db7_0 a0)
theorem e__law_turned_2db7 (a0 : D) : b__law_turned_2db7 a0 = (do let r2 ← (DL.ask (revD a0)); let r13 ← (DL.ask (itD r2)); let v14 ← (lcF (fun d => some d) (fun (c4 : D) => pure true) (fun (c4 : D) => (do let i6 ← DL.ask (intOf (.int 1)); let x11 ← (DL.ask (sliceD c4 none (some i6))); let y12 ← (DL.ask (revTo1D c4)); DL.ask (addD x11 y12))) r13); pure (.rt (.lst v14))) := by
  unfold b__law_turned_2db7; simp only [k__law_turned_2db7_0, pure_bind, bind_assoc, mkL]
def m__law_turned_2db7 : List D → R D := apR1 fun a0 => (runR false (b__law_turned_2db7 a0))
theorem n__law_turned_2db7 : ∀ ds : List D, m__law_turned_2db7 ds ≠ .stuck → ds.length = 1 := apR1_len _
def b_Groups_len_7d19 (a0 : D) : R (Fl Unit Empty) := (do let v5 ← (do let r4 ← (do let x2 ← (do let x1 ← (pure a0); DL.ask (fldD ["Groups"] "groups" x1)); let r3 ← pure []; pure (x2 :: r3)); DL.ask (lenD r4)); pure (.rt v5))
def m_Groups_len_7d19 : List D → R D := apR1 fun a0 => (runR false (b_Groups_len_7d19 a0))
def b_Groups_eq_0dba (a0 a1 : D) : R (Fl Unit Empty) := (do let v6 ← (andV (do let x1 ← (pure a1); DL.ask (isiT [("Groups", true)] noneOfB x1)) (do let x4 ← (do let x2 ← (pure a0); DL.ask (fldD ["Groups"] "groups" x2)); let y5 ← (do let x3 ← (pure a1); DL.ask (fldD ["Groups"] "groups" x3)); DL.ask (eqD x4 y5))); pure (.rt v6))
def m_Groups_eq_0dba : List D → R D := apR2 fun a0 a1 => (runR false (b_Groups_eq_0dba a0 a1))
def k__law_groups_b486_0 (v27 : D) (q25 : List D × List D) : M (Fl (List D × List D) (List D × List D)) := (do let t53 ← (Mo.noex (do let x46 ← (pure v27); let y47 ← (pure (.lst q25.1)); DL.ask ((notInD x46 y47).bind bOf))); seqF (if t53 = true then (do let v49 ← (pure v27); let v50 ← DL.ask (apd q25.1 v49); (do let v51 ← (pure v27); let v52 ← DL.ask (apd q25.2 v51); (pure (.nx (v50, v52))))) else (pure (.nx (q25.1, q25.2)))) fun (q48 : List D × List D) => (pure (.nx (q48.1, q48.2))))
def k__law_groups_b486_1 (a1 : D) (q25 : List D × List D) : M (Fl (List D × List D) (List D × List D)) := (do let v27 ← (do let r44 ← (do let x42 ← (mkL (do let r41 ← (do let r35 ← (do let x33 ← (do let x31 ← (pure (.int 1)); let y32 ← (do let r30 ← (do let x28 ← (pure (.int 3)); let r29 ← pure []; pure (x28 :: r29)); m__law_take_bb49 r30); DL.ask (addD x31 y32)); let r34 ← pure []; pure (x33 :: r34)); DL.ask (rng1 r35)); lcF (fun d => some d) (fun (c37 : D) => pure true) (fun (c37 : D) => (do let r40 ← (do let x38 ← (pure a1); let r39 ← pure []; pure (x38 :: r39)); m__law_of_8ba0 r40)) r41)); let r43 ← pure []; pure (x42 :: r43)); DL.ask (tupleD r44)); (k__law_groups_b486_0 v27 q25))
def k__law_groups_b486_2 (q54 : List D × List D) (q13 : List D × List D) : M (Fl (List D × List D) (List D × List D)) := (do let t63 ← (do let x58 ← (do let r57 ← (do let x55 ← (pure (.lst q54.2)); let r56 ← pure []; pure (x55 :: r56)); DL.ask (lenD r57)); let y59 ← (pure (.int 1)); DL.ask ((gtD x58 y59).bind bOf)); seqF (if t63 = true then (do let v61 ← (pure (.lst q54.2)); let v62 ← DL.ask (apd q13.2 v61); (pure (.nx v62))) else (pure (.nx q13.2))) fun (q60 : List D) => (pure (.nx (q54.1, q60))))
def k__law_groups_b486_3 (a1 : D) (q13 : List D × List D) (v15 : List D) : M (Fl (List D × List D) (List D × List D)) := (do let r64 ← (do let r24 ← (do let x22 ← (do let x20 ← (pure (.int 2)); let y21 ← (do let r19 ← (do let x17 ← (pure (.int 3)); let r18 ← pure []; pure (x17 :: r18)); m__law_take_bb49 r19); DL.ask (addD x20 y21)); let r23 ← pure []; pure (x22 :: r23)); DL.ask (rng1 r24)); seqF (forF (fun d => some d) (fun (q25 : List D × List D) (c26 : D) => (k__law_groups_b486_1 a1 q25)) r64 (q13.1, v15)) fun (q54 : List D × List D) => (k__law_groups_b486_2 q54 q13))
def k__law_groups_b486_4 (a2 : D) (a1 : D) (v1 : List D) (v2 : List D) : M (Fl (Unit) (Empty)) := (do let r67 ← (do let r12 ← (do let x10 ← (do let r9 ← (do let x7 ← (do let x5 ← (pure a2); let y6 ← (pure (.int 1)); DL.ask (addD x5 y6)); let r8 ← pure []; pure (x7 :: r8)); m__law_take_bb49 r9); let r11 ← pure []; pure (x10 :: r11)); DL.ask (rng1 r12)); seqF (forF (fun d => some d) (fun (q13 : List D × List D) (c14 : D) => (do let v15 ← (do let r16 ← pure []; DL.ask (szL r16)); (k__law_groups_b486_3 a1 q13 v15))) r67 (v1, v2)) fun (q65 : List D × List D) => (do let v66 ← (pure (.lst q65.2)); pure (.rt v66)))
def b__law_groups_b486 (a1 a2 : D) : M (Fl Unit Empty) := (do let v1 ← (do let r3 ← pure []; DL.ask (szL r3)); let v2 ← (do let r4 ← pure []; DL.ask (szL r4)); (k__law_groups_b486_4 a2 a1 v1 v2))
theorem e__law_groups_b486 (a1 a2 : D) : b__law_groups_b486 a1 a2 = (do let v1 ← (DL.ask (szL [])); let v2 ← (DL.ask (szL [])); let x7 ← (DL.ask (addD a2 (.int 1))); let x10 ← (m__law_take_bb49 [x7]); let r67 ← (DL.ask (rng1 [x10])); seqF (forF (fun d => some d) (fun (q13 : List D × List D) (c14 : D) => (do let v15 ← (DL.ask (szL [])); let y21 ← (m__law_take_bb49 [(.int 3)]); let x22 ← (DL.ask (addD (.int 2) y21)); let r64 ← (DL.ask (rng1 [x22])); seqF (forF (fun d => some d) (fun (q25 : List D × List D) (c26 : D) => (do let y32 ← (m__law_take_bb49 [(.int 3)]); let x33 ← (DL.ask (addD (.int 1) y32)); let r41 ← (DL.ask (rng1 [x33])); let x42 ← (lcF (fun d => some d) (fun (c37 : D) => pure true) (fun (c37 : D) => (m__law_of_8ba0 [a1])) r41); let v27 ← (DL.ask (tupleD [(.lst x42)])); let t53 ← (Mo.noex (DL.ask ((notInD v27 (.lst q25.1)).bind bOf))); seqF (if t53 = true then (do let v50 ← DL.ask (apd q25.1 v27); let v52 ← DL.ask (apd q25.2 v27); (pure (.nx (v50, v52)))) else (pure (.nx (q25.1, q25.2)))) fun (q48 : List D × List D) => (pure (.nx (q48.1, q48.2))))) r64 (q13.1, v15)) fun (q54 : List D × List D) => (do let x58 ← (DL.ask (lenD [(.lst q54.2)])); let t63 ← (DL.ask ((gtD x58 (.int 1)).bind bOf)); seqF (if t63 = true then (do let v62 ← DL.ask (apd q13.2 (.lst q54.2)); (pure (.nx v62))) else (pure (.nx q13.2))) fun (q60 : List D) => (pure (.nx (q54.1, q60)))))) r67 (v1, v2)) fun (q65 : List D × List D) => (pure (.rt (.lst q65.2)))) := by
  unfold b__law_groups_b486; simp only [k__law_groups_b486_0, k__law_groups_b486_1, k__law_groups_b486_2, k__law_groups_b486_3, k__law_groups_b486_4, pure_bind, bind_assoc, mkL]
def m__law_groups_b486 : List D → M D := apM2 fun a1 a2 => (runM false (b__law_groups_b486 a1 a2))
theorem n__law_groups_b486 : ∀ ds s, m__law_groups_b486 ds s ≠ .stuck → ds.length = 2 := apM2_len _
def k_Groups_translated_fd84_0 (a1 : D) (a0 : D) : R (Fl (Unit) (Empty)) := (do let t14 ← (DL.notM (do let x4 ← (do let r3 ← (do let x1 ← (pure a1); let r2 ← pure []; pure (x1 :: r2)); Mo.lift (m_is_host_45ba r3)); DL.ask (truD x4))); seqF (if t14 = true then (do let v6 ← (pure a1); raiseX "BadHost" "host" v6) else (pure (.nx ()))) fun (q5 : Unit) => (do let v13 ← (do let r12 ← (do let x10 ← (do let x7 ← (pure a0); DL.ask (fldD ["Groups"] "hosts" x7)); let r11 ← (do let x8 ← (pure a1); let r9 ← pure []; pure (x8 :: r9)); pure (x10 :: r11)); Mo.lift (m_moved_8ac7 r12)); pure (.rt v13)))
def b_Groups_translated_fd84 (a0 a1 : D) : R (Fl Unit Empty) := (k_Groups_translated_fd84_0 a1 a0)
theorem e_Groups_translated_fd84 (a0 a1 : D) : b_Groups_translated_fd84 a0 a1 = (do let t14 ← (DL.notM (do let x4 ← (Mo.lift (m_is_host_45ba [a1])); DL.ask (truD x4))); seqF (if t14 = true then (raiseX "BadHost" "host" a1) else (pure (.nx ()))) fun (q5 : Unit) => (do let x10 ← (DL.ask (fldD ["Groups"] "hosts" a0)); let v13 ← (Mo.lift (m_moved_8ac7 [x10, a1])); pure (.rt v13))) := by
  unfold b_Groups_translated_fd84; simp only [k_Groups_translated_fd84_0, pure_bind, bind_assoc, mkL]
def m_Groups_translated_fd84 : List D → R D := apR2 fun a0 a1 => (runR false (b_Groups_translated_fd84 a0 a1))
theorem n_Groups_translated_fd84 : ∀ ds : List D, m_Groups_translated_fd84 ds ≠ .stuck → ds.length = 2 := apR2_len _
def k_Groups_origins_646d_0 (c14 : D) (a1 : D) (q13 : List D) : R (Fl (List D) (List D)) := (do let v24 ← (mkL (do let r46 ← (do let r26 ← (pure c14); DL.ask (itD r26)); lcF (fun d => some d) (fun (c28 : D) => pure true) (fun (c28 : D) => (do let x44 ← (do let x41 ← (pure a1); let l42 ← (pure none); let u43 ← (do let x39 ← (do let x37 ← (do let r31 ← (do let x29 ← (pure a1); let r30 ← pure []; pure (x29 :: r30)); DL.ask (lenD r31)); let y38 ← (do let r36 ← (do let x34 ← (do let x32 ← (pure c14); let y33 ← (pure (.int 0)); DL.ask (ixD x32 y33)); let r35 ← pure []; pure (x34 :: r35)); DL.ask (lenD r36)); DL.ask (subD x37 y38)); let i40 ← DL.ask (intOf x39); pure (some i40)); DL.ask (sliceD x41 l42 u43)); let y45 ← (pure c28); DL.ask (addD x44 y45))) r46)); let v25 ← DL.ask (extI q13 [v24]); (pure (.nx v25)))
def k_Groups_origins_646d_1 (a1 : D) (c14 : D) (q13 : List D) : R (Fl (List D) (List D)) := (do let t47 ← (do let x22 ← (do let r21 ← (do let x19 ← (pure a1); let r20 ← (do let x17 ← (do let x15 ← (pure c14); let y16 ← (pure (.int 0)); DL.ask (ixD x15 y16)); let r18 ← pure []; pure (x17 :: r18)); pure (x19 :: r20)); Mo.lift (m_ends_with_d715 r21)); DL.ask (truD x22)); seqF (if t47 = true then (k_Groups_origins_646d_0 c14 a1 q13) else (pure (.nx q13))) fun (q23 : List D) => (pure (.nx q23)))
def k_Groups_origins_646d_2 (q48 : List D) (a0 : D) (a1 : D) : R (Fl (Unit) (Empty)) := (do let v49 ← (do let r66 ← (do let r50 ← (pure (.lst q48)); DL.ask (itD r50)); let r67 ← DL.ask (fewL r66); let r68 ← lcF (fun d => some d) (fun (c52 : D) => (DL.andM (do let x56 ← (do let r55 ← (do let x53 ← (pure c52); let r54 ← pure []; pure (x53 :: r54)); DL.ask (lenD r55)); let y57 ← (pure c_MOST_LABELS); DL.ask ((leD x56 y57).bind bOf)) (do let x64 ← (do let r63 ← (do let x61 ← (do let x58 ← (pure a0); DL.ask (fldD ["Groups"] "hosts" x58)); let r62 ← (do let x59 ← (pure c52); let r60 ← pure []; pure (x59 :: r60)); pure (x61 :: r62)); Mo.lift (m_moved_8ac7 r63)); let y65 ← (pure a1); DL.ask ((eqD x64 y65).bind bOf)))) (fun (c52 : D) => (do let y69 ← (pure c52); DL.ask (okTx y69))) r67; DL.ask (setSortT r68)); (do let v71 ← (do let x70 ← (pure v49); DL.ask (sortedKD m_host_key_aabf x70)); pure (.rt v71)))
def k_Groups_origins_646d_3 (a1 : D) (a0 : D) : R (Fl (Unit) (Empty)) := (do let v7 ← (do let r10 ← (do let x8 ← (pure a1); let r9 ← pure []; pure (x8 :: r9)); DL.ask (szL r10)); (do let r72 ← (do let r12 ← (do let x11 ← (pure a0); DL.ask (fldD ["Groups"] "hosts" x11)); DL.ask (itD r12)); seqF (forF (fun d => some d) (fun (q13 : List D) (c14 : D) => (k_Groups_origins_646d_1 a1 c14 q13)) r72 v7) fun (q48 : List D) => (k_Groups_origins_646d_2 q48 a0 a1)))
def b_Groups_origins_646d (a0 a1 : D) : R (Fl Unit Empty) := (do let t73 ← (DL.notM (do let x4 ← (do let r3 ← (do let x1 ← (pure a1); let r2 ← pure []; pure (x1 :: r2)); Mo.lift (m_is_host_45ba r3)); DL.ask (truD x4))); seqF (if t73 = true then (do let v6 ← (pure a1); raiseX "BadHost" "host" v6) else (pure (.nx ()))) fun (q5 : Unit) => (k_Groups_origins_646d_3 a1 a0))
theorem e_Groups_origins_646d (a0 a1 : D) : b_Groups_origins_646d a0 a1 = (do let t73 ← (DL.notM (do let x4 ← (Mo.lift (m_is_host_45ba [a1])); DL.ask (truD x4))); seqF (if t73 = true then (raiseX "BadHost" "host" a1) else (pure (.nx ()))) fun (q5 : Unit) => (do let v7 ← (DL.ask (szL [a1])); let r12 ← (DL.ask (fldD ["Groups"] "hosts" a0)); let r72 ← (DL.ask (itD r12)); seqF (forF (fun d => some d) (fun (q13 : List D) (c14 : D) => (do let x17 ← (DL.ask (ixD c14 (.int 0))); let x22 ← (Mo.lift (m_ends_with_d715 [a1, x17])); let t47 ← (DL.ask (truD x22)); seqF (if t47 = true then (do let r46 ← (DL.ask (itD c14)); let v24 ← (lcF (fun d => some d) (fun (c28 : D) => pure true) (fun (c28 : D) => (do let x37 ← (DL.ask (lenD [a1])); let x34 ← (DL.ask (ixD c14 (.int 0))); let y38 ← (DL.ask (lenD [x34])); let x39 ← (DL.ask (subD x37 y38)); let i40 ← DL.ask (intOf x39); let x44 ← (DL.ask (sliceD a1 none (some i40))); DL.ask (addD x44 c28))) r46); let v25 ← DL.ask (extI q13 [(.lst v24)]); (pure (.nx v25))) else (pure (.nx q13))) fun (q23 : List D) => (pure (.nx q23)))) r72 v7) fun (q48 : List D) => (do let r66 ← (DL.ask (itD (.lst q48))); let r67 ← DL.ask (fewL r66); let r68 ← lcF (fun d => some d) (fun (c52 : D) => (DL.andM (do let x56 ← (DL.ask (lenD [c52])); DL.ask ((leD x56 c_MOST_LABELS).bind bOf)) (do let x61 ← (DL.ask (fldD ["Groups"] "hosts" a0)); let x64 ← (Mo.lift (m_moved_8ac7 [x61, c52])); DL.ask ((eqD x64 a1).bind bOf)))) (fun (c52 : D) => (DL.ask (okTx c52))) r67; let v49 ← (DL.ask (setSortT r68)); let v71 ← (DL.ask (sortedKD m_host_key_aabf v49)); pure (.rt v71)))) := by
  unfold b_Groups_origins_646d; simp only [k_Groups_origins_646d_0, k_Groups_origins_646d_1, k_Groups_origins_646d_2, k_Groups_origins_646d_3, pure_bind, bind_assoc, mkL]
def m_Groups_origins_646d : List D → R D := apR2 fun a0 a1 => (runR false (b_Groups_origins_646d a0 a1))
theorem n_Groups_origins_646d : ∀ ds : List D, m_Groups_origins_646d ds ≠ .stuck → ds.length = 2 := apR2_len _
def k_Groups_member_6374_0 (a0 : D) (a1 : D) : R (Fl (Unit) (Empty)) := (do let v7 ← (do let r13 ← (do let x11 ← (do let x8 ← (pure a0); DL.ask (fldD ["Groups"] "hosts" x8)); let r12 ← (do let x9 ← (pure a1); let r10 ← pure []; pure (x9 :: r10)); pure (x11 :: r12)); Mo.lift (m_member_and_head_c6a4 r13)); (do let v21 ← (iteM (do let x14 ← (pure v7); let y15 ← (pure .non); DL.ask ((isD x14 y15).bind bOf)) (pure .non) (do let r20 ← (do let x18 ← (do let x16 ← (pure v7); let y17 ← (pure (.int 0)); DL.ask (ixD x16 y17)); let r19 ← pure []; pure (x18 :: r19)); Mo.lift (m_host_text_f5b6 r20))); pure (.rt v21)))
def b_Groups_member_6374 (a0 a1 : D) : R (Fl Unit Empty) := (do let t22 ← (DL.notM (do let x4 ← (do let r3 ← (do let x1 ← (pure a1); let r2 ← pure []; pure (x1 :: r2)); Mo.lift (m_is_host_45ba r3)); DL.ask (truD x4))); seqF (if t22 = true then (do let v6 ← (pure a1); raiseX "BadHost" "host" v6) else (pure (.nx ()))) fun (q5 : Unit) => (k_Groups_member_6374_0 a0 a1))
theorem e_Groups_member_6374 (a0 a1 : D) : b_Groups_member_6374 a0 a1 = (do let t22 ← (DL.notM (do let x4 ← (Mo.lift (m_is_host_45ba [a1])); DL.ask (truD x4))); seqF (if t22 = true then (raiseX "BadHost" "host" a1) else (pure (.nx ()))) fun (q5 : Unit) => (do let x11 ← (DL.ask (fldD ["Groups"] "hosts" a0)); let v7 ← (Mo.lift (m_member_and_head_c6a4 [x11, a1])); let v21 ← (iteM (DL.ask ((isD v7 .non).bind bOf)) (pure .non) (do let x18 ← (DL.ask (ixD v7 (.int 0))); Mo.lift (m_host_text_f5b6 [x18]))); pure (.rt v21))) := by
  unfold b_Groups_member_6374; simp only [k_Groups_member_6374_0, pure_bind, bind_assoc, mkL]
def m_Groups_member_6374 : List D → R D := apR2 fun a0 a1 => (runR false (b_Groups_member_6374 a0 a1))
theorem n_Groups_member_6374 : ∀ ds : List D, m_Groups_member_6374 ds ≠ .stuck → ds.length = 2 := apR2_len _
def k__law_right_14ba_0 (v1 : D) (a3 : D) (a2 : D) : R (Fl (Unit) (Empty)) := (do let t47 ← (DL.orM (do let x28 ← (pure v1); let y29 ← (pure a3); DL.ask ((neO [("Groups", m_Groups_eq_0dba)] x28 y29).bind bOf)) (do let x43 ← (mkL (do let r41 ← (do let r30 ← (pure a2); DL.ask (itD r30)); lcF (fun d => some d) (fun (c32 : D) => (do let x40 ← (do let r39 ← (do let x37 ← (pure a3); let r38 ← (do let x35 ← (do let x33 ← (pure c32); let y34 ← (pure (.int 0)); DL.ask (ixD x33 y34)); let r36 ← pure []; pure (x35 :: r36)); pure (x37 :: r38)); Mo.lift (m__law_ends_f9cd r39)); DL.ask (truD x40))) (fun (c32 : D) => (pure c32)) r41)); let y44 ← (mkL (do let r42 ← pure []; DL.ask (szL r42))); DL.ask ((neD x43 y44).bind bOf))); seqF (if t47 = true then (do let v46 ← (pure (.bl false)); pure (.rt v46)) else (pure (.nx ()))) fun (q45 : Unit) => (pure (.nx ())))
def k__law_right_14ba_1 (v1 : D) (a3 : D) (v48 : D) (v54 : D) : R (Fl (Unit) (Empty)) := (do let t97 ← (do let x93 ← (pure v1); let y94 ← (do let x91 ← (do let x86 ← (pure a3); let l87 ← (pure none); let u88 ← (do let x84 ← (do let x82 ← (do let r78 ← (do let x76 ← (pure a3); let r77 ← pure []; pure (x76 :: r77)); DL.ask (lenD r78)); let y83 ← (do let r81 ← (do let x79 ← (pure v48); let r80 ← pure []; pure (x79 :: r80)); DL.ask (lenO [("Groups", m_Groups_len_7d19)] r81)); DL.ask (subD x82 y83)); let i85 ← DL.ask (intOf x84); pure (some i85)); DL.ask (sliceD x86 l87 u88)); let y92 ← (do let x89 ← (pure v54); let y90 ← (pure (.int 0)); DL.ask (ixD x89 y90)); DL.ask (addD x91 y92)); DL.ask ((neO [("Groups", m_Groups_eq_0dba)] x93 y94).bind bOf)); seqF (if t97 = true then (do let v96 ← (pure (.bl false)); pure (.rt v96)) else (pure (.nx ()))) fun (q95 : Unit) => (pure (.nx ())))
def k__law_right_14ba_2 (a3 : D) (v48 : D) (v54 : D) (v1 : D) : R (Fl (Unit) (Empty)) := (do let t98 ← (DL.orM (DL.notM (do let x68 ← (do let r67 ← (do let x65 ← (pure a3); let r66 ← (do let x63 ← (pure v48); let r64 ← pure []; pure (x63 :: r64)); pure (x65 :: r66)); Mo.lift (m__law_ends_f9cd r67)); DL.ask (truD x68))) (do let x72 ← (do let r71 ← (do let x69 ← (pure v54); let r70 ← pure []; pure (x69 :: r70)); DL.ask (lenO [("Groups", m_Groups_len_7d19)] r71)); let y73 ← (pure (.int 1)); DL.ask ((neD x72 y73).bind bOf))); seqF (if t98 = true then (do let v75 ← (pure (.bl false)); pure (.rt v75)) else (pure (.nx ()))) fun (q74 : Unit) => (k__law_right_14ba_1 v1 a3 v48 v54))
def k__law_right_14ba_3 (v2 : D) (a2 : D) (a3 : D) (v1 : D) : R (Fl (Unit) (Empty)) := (do let v48 ← (do let r53 ← (do let x51 ← (mkL (do let x49 ← (pure v2); let _ ← DL.ask (strOf x49); let y50 ← (pure (.str [46])); DL.ask (splitD x49 y50))); let r52 ← pure []; pure (x51 :: r52)); DL.ask (tupleD r53)); (do let v54 ← mkL (do let r62 ← (do let r55 ← (pure a2); DL.ask (itD r55)); lcF (fun d => some d) (fun (c57 : D) => (do let x58 ← (pure v48); let y59 ← (pure c57); DL.ask ((inD x58 y59).bind bOf))) (fun (c57 : D) => (do let x60 ← (pure c57); let y61 ← (pure (.int 0)); DL.ask (ixD x60 y61))) r62); (k__law_right_14ba_2 a3 v48 v54 v1)))
def k__law_right_14ba_4 (a3 : D) (a0 : D) (a4 : D) (v1 : D) : R (Fl (Unit) (Empty)) := (do let t125 ← (DL.andM (do let x102 ← (do let r101 ← (do let x99 ← (pure a3); let r100 ← pure []; pure (x99 :: r100)); DL.ask (lenD r101)); let y103 ← (pure (.int 2)); DL.ask ((gtD x102 y103).bind bOf)) (do let x120 ← (do let x112 ← (pure a0); let _ ← DL.ask (insOk ["Groups"] "translated" x112); let r113 ← (do let x110 ← (do let x108 ← (do let r106 ← (do let x104 ← (pure a4); let r105 ← pure []; pure (x104 :: r105)); let r107 ← DL.ask (szL r106); pure (.tup r107)); let y109 ← (pure a3); DL.ask (addD x108 y109)); let r111 ← pure []; pure (x110 :: r111)); Mo.lift (dispM [("Groups", m_Groups_translated_fd84)] x112 r113)); let y121 ← (do let x118 ← (do let r116 ← (do let x114 ← (pure a4); let r115 ← pure []; pure (x114 :: r115)); let r117 ← DL.ask (szL r116); pure (.tup r117)); let y119 ← (pure v1); DL.ask (addD x118 y119)); DL.ask ((neD x120 y121).bind bOf))); seqF (if t125 = true then (do let v123 ← (pure (.bl false)); pure (.rt v123)) else (pure (.nx ()))) fun (q122 : Unit) => (do let v124 ← (pure (.bl true)); pure (.rt v124)))
def k__law_right_14ba_5 (a1 : D) (a3 : D) (v1 : D) (v2 : D) (a2 : D) (a0 : D) (a4 : D) : R (Fl (Unit) (Empty)) := (do let t127 ← (DL.orM (do let x15 ← (do let x13 ← (pure a1); let _ ← DL.ask (insOk ["Groups"] "translated" x13); let r14 ← (do let x11 ← (pure a3); let r12 ← pure []; pure (x11 :: r12)); Mo.lift (dispM [("Groups", m_Groups_translated_fd84)] x13 r14)); let y16 ← (pure v1); DL.ask ((neO [("Groups", m_Groups_eq_0dba)] x15 y16).bind bOf)) (do let x21 ← (do let x19 ← (pure a1); let _ ← DL.ask (insOk ["Groups"] "member" x19); let r20 ← (do let x17 ← (pure a3); let r18 ← pure []; pure (x17 :: r18)); Mo.lift (dispM [("Groups", m_Groups_member_6374)] x19 r20)); let y22 ← (pure v2); DL.ask ((neO [("Groups", m_Groups_eq_0dba)] x21 y22).bind bOf))); seqF (if t127 = true then (do let v24 ← (pure (.bl false)); pure (.rt v24)) else (pure (.nx ()))) fun (q23 : Unit) => (do let t126 ← (do let x25 ← (pure v2); let y26 ← (pure .non); DL.ask ((isD x25 y26).bind bOf)); seqF (if t126 = true then (k__law_right_14ba_0 v1 a3 a2) else (k__law_right_14ba_3 v2 a2 a3 v1)) fun (q27 : Unit) => (k__law_right_14ba_4 a3 a0 a4 v1)))
def k__law_right_14ba_6 (a0 : D) (a3 : D) (a1 : D) (a2 : D) (a4 : D) : R (Fl (Unit) (Empty)) := (do let v1 ← (do let x5 ← (pure a0); let _ ← DL.ask (insOk ["Groups"] "translated" x5); let r6 ← (do let x3 ← (pure a3); let r4 ← pure []; pure (x3 :: r4)); Mo.lift (dispM [("Groups", m_Groups_translated_fd84)] x5 r6)); let v2 ← (do let x9 ← (pure a0); let _ ← DL.ask (insOk ["Groups"] "member" x9); let r10 ← (do let x7 ← (pure a3); let r8 ← pure []; pure (x7 :: r8)); Mo.lift (dispM [("Groups", m_Groups_member_6374)] x9 r10)); (k__law_right_14ba_5 a1 a3 v1 v2 a2 a0 a4))
def b__law_right_14ba (a0 a1 a2 a3 a4 : D) : R (Fl Unit Empty) := (k__law_right_14ba_6 a0 a3 a1 a2 a4)
theorem e__law_right_14ba (a0 a1 a2 a3 a4 : D) : b__law_right_14ba a0 a1 a2 a3 a4 = (do let _ ← DL.ask (insOk ["Groups"] "translated" a0); let v1 ← (Mo.lift (dispM [("Groups", m_Groups_translated_fd84)] a0 [a3])); let _ ← DL.ask (insOk ["Groups"] "member" a0); let v2 ← (Mo.lift (dispM [("Groups", m_Groups_member_6374)] a0 [a3])); let t127 ← (DL.orM (do let _ ← DL.ask (insOk ["Groups"] "translated" a1); let x15 ← (Mo.lift (dispM [("Groups", m_Groups_translated_fd84)] a1 [a3])); DL.ask ((neO [("Groups", m_Groups_eq_0dba)] x15 v1).bind bOf)) (do let _ ← DL.ask (insOk ["Groups"] "member" a1); let x21 ← (Mo.lift (dispM [("Groups", m_Groups_member_6374)] a1 [a3])); DL.ask ((neO [("Groups", m_Groups_eq_0dba)] x21 v2).bind bOf))); seqF (if t127 = true then (pure (.rt (.bl false))) else (pure (.nx ()))) fun (q23 : Unit) => (do let t126 ← (DL.ask ((isD v2 .non).bind bOf)); seqF (if t126 = true then (do let t47 ← (DL.orM (DL.ask ((neO [("Groups", m_Groups_eq_0dba)] v1 a3).bind bOf)) (do let r41 ← (DL.ask (itD a2)); let x43 ← (lcF (fun d => some d) (fun (c32 : D) => (do let x35 ← (DL.ask (ixD c32 (.int 0))); let x40 ← (Mo.lift (m__law_ends_f9cd [a3, x35])); DL.ask (truD x40))) (fun (c32 : D) => (pure c32)) r41); let y44 ← (DL.ask (szL [])); DL.ask ((neD (.lst x43) (.lst y44)).bind bOf))); seqF (if t47 = true then (pure (.rt (.bl false))) else (pure (.nx ()))) fun (q45 : Unit) => (pure (.nx ()))) else (do let _ ← DL.ask (strOf v2); let x51 ← (DL.ask (splitD v2 (.str [46]))); let v48 ← (DL.ask (tupleD [(.lst x51)])); let r62 ← (DL.ask (itD a2)); let v54 ← (lcF (fun d => some d) (fun (c57 : D) => (DL.ask ((inD v48 c57).bind bOf))) (fun (c57 : D) => (DL.ask (ixD c57 (.int 0)))) r62); let t98 ← (DL.orM (DL.notM (do let x68 ← (Mo.lift (m__law_ends_f9cd [a3, v48])); DL.ask (truD x68))) (do let x72 ← (DL.ask (lenO [("Groups", m_Groups_len_7d19)] [(.lst v54)])); DL.ask ((neD x72 (.int 1)).bind bOf))); seqF (if t98 = true then (pure (.rt (.bl false))) else (pure (.nx ()))) fun (q74 : Unit) => (do let x82 ← (DL.ask (lenD [a3])); let y83 ← (DL.ask (lenO [("Groups", m_Groups_len_7d19)] [v48])); let x84 ← (DL.ask (subD x82 y83)); let i85 ← DL.ask (intOf x84); let x91 ← (DL.ask (sliceD a3 none (some i85))); let y92 ← (DL.ask (ixD (.lst v54) (.int 0))); let y94 ← (DL.ask (addD x91 y92)); let t97 ← (DL.ask ((neO [("Groups", m_Groups_eq_0dba)] v1 y94).bind bOf)); seqF (if t97 = true then (pure (.rt (.bl false))) else (pure (.nx ()))) fun (q95 : Unit) => (pure (.nx ()))))) fun (q27 : Unit) => (do let t125 ← (DL.andM (do let x102 ← (DL.ask (lenD [a3])); DL.ask ((gtD x102 (.int 2)).bind bOf)) (do let _ ← DL.ask (insOk ["Groups"] "translated" a0); let r107 ← DL.ask (szL [a4]); let x110 ← (DL.ask (addD (.tup r107) a3)); let x120 ← (Mo.lift (dispM [("Groups", m_Groups_translated_fd84)] a0 [x110])); let r117 ← DL.ask (szL [a4]); let y121 ← (DL.ask (addD (.tup r117) v1)); DL.ask ((neD x120 y121).bind bOf))); seqF (if t125 = true then (pure (.rt (.bl false))) else (pure (.nx ()))) fun (q122 : Unit) => (pure (.rt (.bl true)))))) := by
  unfold b__law_right_14ba; simp only [k__law_right_14ba_0, k__law_right_14ba_1, k__law_right_14ba_2, k__law_right_14ba_3, k__law_right_14ba_4, k__law_right_14ba_5, k__law_right_14ba_6, pure_bind, bind_assoc, mkL]
def m__law_right_14ba : List D → R D := apR5 fun a0 a1 a2 a3 a4 => (runR false (b__law_right_14ba a0 a1 a2 a3 a4))
theorem n__law_right_14ba : ∀ ds : List D, m__law_right_14ba ds ≠ .stuck → ds.length = 5 := apR5_len _
def k__law_made_groups_3031_0 (v1 : D) : R (Fl (Unit) (Empty)) := (do let v26 ← (iteM (do let x16 ← (pure v1); let y17 ← (mkL (do let r15 ← pure []; DL.ask (szL r15))); DL.ask ((eqD x16 y17).bind bOf)) (do let r18 ← pure []; let o19 ← Mo.lift (starD 0 m_Groups_init_8f72 r18); pure (D.ins "Groups" ["hosts", "groups"] o19)) (do let r24 ← (do let x22 ← (do let x20 ← (pure v1); let y21 ← (pure (.int 0)); DL.ask (ixD x20 y21)); let r23 ← pure []; pure (x22 :: r23)); let o25 ← Mo.lift (starD 0 m_Groups_init_8f72 r24); pure (D.ins "Groups" ["hosts", "groups"] o25))); pure (.rt v26))
def k__law_made_groups_3031_1 (v1 : D) : R (Fl (Unit) (Empty)) := (do let v43 ← (do let r41 ← (do let x39 ← (do let x33 ← (pure v1); let y34 ← (pure (.int 0)); DL.ask (ixD x33 y34)); let r40 ← (do let x37 ← (do let x35 ← (pure v1); let y36 ← (pure (.int 1)); DL.ask (ixD x35 y36)); let r38 ← pure []; pure (x37 :: r38)); pure (x39 :: r40)); let o42 ← Mo.lift (starD 0 m_Groups_init_8f72 r41); pure (D.ins "Groups" ["hosts", "groups"] o42)); pure (.rt v43))
def k__law_made_groups_3031_2 (v1 : D) : R (Fl (Unit) (Empty)) := (do let v64 ← (do let r62 ← (do let x60 ← (do let x50 ← (pure v1); let y51 ← (pure (.int 0)); DL.ask (ixD x50 y51)); let r61 ← (do let x58 ← (do let x52 ← (pure v1); let y53 ← (pure (.int 1)); DL.ask (ixD x52 y53)); let r59 ← (do let x56 ← (do let x54 ← (pure v1); let y55 ← (pure (.int 2)); DL.ask (ixD x54 y55)); let r57 ← pure []; pure (x56 :: r57)); pure (x58 :: r59)); pure (x60 :: r61)); let o63 ← Mo.lift (starD 0 m_Groups_init_8f72 r62); pure (D.ins "Groups" ["hosts", "groups"] o63)); pure (.rt v64))
def k__law_made_groups_3031_3 (v1 : D) : R (Fl (Unit) (Empty)) := (do let v83 ← (do let r81 ← (do let x79 ← (do let x65 ← (pure v1); let y66 ← (pure (.int 0)); DL.ask (ixD x65 y66)); let r80 ← (do let x77 ← (do let x67 ← (pure v1); let y68 ← (pure (.int 1)); DL.ask (ixD x67 y68)); let r78 ← (do let x75 ← (do let x69 ← (pure v1); let y70 ← (pure (.int 2)); DL.ask (ixD x69 y70)); let r76 ← (do let x73 ← (do let x71 ← (pure v1); let y72 ← (pure (.int 3)); DL.ask (ixD x71 y72)); let r74 ← pure []; pure (x73 :: r74)); pure (x75 :: r76)); pure (x77 :: r78)); pure (x79 :: r80)); let o82 ← Mo.lift (starD 0 m_Groups_init_8f72 r81); pure (D.ins "Groups" ["hosts", "groups"] o82)); pure (.rt v83))
def k__law_made_groups_3031_4 (v1 : D) : R (Fl (Unit) (Empty)) := (do let t85 ← (do let x30 ← (do let r29 ← (do let x27 ← (pure v1); let r28 ← pure []; pure (x27 :: r28)); DL.ask (lenD r29)); let y31 ← (pure (.int 2)); DL.ask ((eqD x30 y31).bind bOf)); seqF (if t85 = true then (k__law_made_groups_3031_1 v1) else (pure (.nx ()))) fun (q32 : Unit) => (do let t84 ← (do let x47 ← (do let r46 ← (do let x44 ← (pure v1); let r45 ← pure []; pure (x44 :: r45)); DL.ask (lenD r46)); let y48 ← (pure (.int 3)); DL.ask ((eqD x47 y48).bind bOf)); seqF (if t84 = true then (k__law_made_groups_3031_2 v1) else (pure (.nx ()))) fun (q49 : Unit) => (k__law_made_groups_3031_3 v1)))
def k__law_made_groups_3031_5 (a0 : D) : R (Fl (Unit) (Empty)) := (do let v1 ← mkL (do let r8 ← (do let r2 ← (pure a0); DL.ask (itD r2)); lcF (fun d => some d) (fun (c4 : D) => pure true) (fun (c4 : D) => (do let r7 ← (do let x5 ← (pure c4); let r6 ← pure []; pure (x5 :: r6)); Mo.lift (m__law_texts_372f r7))) r8); (do let t86 ← (do let x12 ← (do let r11 ← (do let x9 ← (pure v1); let r10 ← pure []; pure (x9 :: r10)); DL.ask (lenD r11)); let y13 ← (pure (.int 2)); DL.ask ((ltD x12 y13).bind bOf)); seqF (if t86 = true then (k__law_made_groups_3031_0 v1) else (pure (.nx ()))) fun (q14 : Unit) => (k__law_made_groups_3031_4 v1)))
def b__law_made_groups_3031 (a0 : D) : R (Fl Unit Empty) := (k__law_made_groups_3031_5 a0)
theorem e__law_made_groups_3031 (a0 : D) : b__law_made_groups_3031 a0 = (do let r8 ← (DL.ask (itD a0)); let v1 ← (lcF (fun d => some d) (fun (c4 : D) => pure true) (fun (c4 : D) => (Mo.lift (m__law_texts_372f [c4]))) r8); let x12 ← (DL.ask (lenD [(.lst v1)])); let t86 ← (DL.ask ((ltD x12 (.int 2)).bind bOf)); seqF (if t86 = true then (do let v26 ← (iteM (do let y17 ← (DL.ask (szL [])); DL.ask ((eqD (.lst v1) (.lst y17)).bind bOf)) (do let o19 ← Mo.lift (starD 0 m_Groups_init_8f72 []); pure (D.ins "Groups" ["hosts", "groups"] o19)) (do let x22 ← (DL.ask (ixD (.lst v1) (.int 0))); let o25 ← Mo.lift (starD 0 m_Groups_init_8f72 [x22]); pure (D.ins "Groups" ["hosts", "groups"] o25))); pure (.rt v26)) else (pure (.nx ()))) fun (q14 : Unit) => (do let x30 ← (DL.ask (lenD [(.lst v1)])); let t85 ← (DL.ask ((eqD x30 (.int 2)).bind bOf)); seqF (if t85 = true then (do let x39 ← (DL.ask (ixD (.lst v1) (.int 0))); let x37 ← (DL.ask (ixD (.lst v1) (.int 1))); let o42 ← Mo.lift (starD 0 m_Groups_init_8f72 [x39, x37]); pure (.rt (D.ins "Groups" ["hosts", "groups"] o42))) else (pure (.nx ()))) fun (q32 : Unit) => (do let x47 ← (DL.ask (lenD [(.lst v1)])); let t84 ← (DL.ask ((eqD x47 (.int 3)).bind bOf)); seqF (if t84 = true then (do let x60 ← (DL.ask (ixD (.lst v1) (.int 0))); let x58 ← (DL.ask (ixD (.lst v1) (.int 1))); let x56 ← (DL.ask (ixD (.lst v1) (.int 2))); let o63 ← Mo.lift (starD 0 m_Groups_init_8f72 [x60, x58, x56]); pure (.rt (D.ins "Groups" ["hosts", "groups"] o63))) else (pure (.nx ()))) fun (q49 : Unit) => (do let x79 ← (DL.ask (ixD (.lst v1) (.int 0))); let x77 ← (DL.ask (ixD (.lst v1) (.int 1))); let x75 ← (DL.ask (ixD (.lst v1) (.int 2))); let x73 ← (DL.ask (ixD (.lst v1) (.int 3))); let o82 ← Mo.lift (starD 0 m_Groups_init_8f72 [x79, x77, x75, x73]); pure (.rt (D.ins "Groups" ["hosts", "groups"] o82)))))) := by
  unfold b__law_made_groups_3031; simp only [k__law_made_groups_3031_0, k__law_made_groups_3031_1, k__law_made_groups_3031_2, k__law_made_groups_3031_3, k__law_made_groups_3031_4, k__law_made_groups_3031_5, pure_bind, bind_assoc, mkL]
def m__law_made_groups_3031 : List D → R D := apR1 fun a0 => (runR false (b__law_made_groups_3031 a0))
theorem n__law_made_groups_3031 : ∀ ds : List D, m__law_made_groups_3031 ds ≠ .stuck → ds.length = 1 := apR1_len _
def k_law_e89f_0 (c16 : D × D) (v9 : D) (c57 : D) (v5 : D) : M (Fl (Unit) (Unit)) := (do let t75 ← (DL.notM (do let x72 ← (do let r71 ← (do let x69 ← (pure c16.1); let r70 ← (do let x67 ← (pure c16.2); let r68 ← (do let x65 ← (pure v9); let r66 ← (do let x63 ← (pure c57); let r64 ← (do let x61 ← (do let r60 ← (do let x58 ← (pure v5); let r59 ← pure []; pure (x58 :: r59)); m__law_of_8ba0 r60); let r62 ← pure []; pure (x61 :: r62)); pure (x63 :: r64)); pure (x65 :: r66)); pure (x67 :: r68)); pure (x69 :: r70)); Mo.lift (m__law_right_14ba r71)); DL.ask (truD x72))); seqF (if t75 = true then (do let v74 ← (pure (.bl false)); pure (.rt v74)) else (pure (.nx ()))) fun (q73 : Unit) => (pure (.nx ())))
def k_law_e89f_1 (v44 : D) (c101 : D) (c16 : D × D) (v77 : D) (c93 : D) : M (Fl (Unit) (Unit)) := (do let t122 ← (do let x118 ← (do let x110 ← (do let x102 ← (pure v44); let y103 ← (pure c101); DL.ask (ixD x102 y103)); let y111 ← (do let x108 ← (pure c16.1); let _ ← DL.ask (insOk ["Groups"] "origins" x108); let r109 ← (do let x106 ← (do let x104 ← (pure v77); let y105 ← (pure c93); DL.ask (ixD x104 y105)); let r107 ← pure []; pure (x106 :: r107)); Mo.lift (dispM [("Groups", m_Groups_origins_646d)] x108 r109)); DL.ask (inD x110 y111)); let y119 ← (do let x116 ← (do let x112 ← (pure v77); let y113 ← (pure c101); DL.ask (ixD x112 y113)); let y117 ← (do let x114 ← (pure v77); let y115 ← (pure c93); DL.ask (ixD x114 y115)); DL.ask (eqD x116 y117)); DL.ask ((neD x118 y119).bind bOf)); seqF (if t122 = true then (do let v121 ← (pure (.bl false)); pure (.rt v121)) else (pure (.nx ()))) fun (q120 : Unit) => (pure (.nx ())))
def k_law_e89f_2 (v44 : D) (c16 : D × D) (v77 : D) (c93 : D) : M (Fl (Unit) (Unit)) := (do let r124 ← (do let r99 ← (do let x97 ← (do let r96 ← (do let x94 ← (pure v44); let r95 ← pure []; pure (x94 :: r95)); DL.ask (lenO [("Groups", m_Groups_len_7d19)] r96)); let r98 ← pure []; pure (x97 :: r98)); DL.ask (rng1 r99)); seqF (forF (fun d => some d) (fun (q100 : Unit) (c101 : D) => (k_law_e89f_1 v44 c101 c16 v77 c93)) r124 ()) fun (q123 : Unit) => (pure (.nx ())))
def k_law_e89f_3 (v44 : D) (c16 : D × D) (v77 : D) : M (Fl (Unit) (Empty)) := (do let r127 ← (do let r91 ← (do let x89 ← (do let r88 ← (do let x86 ← (pure v44); let r87 ← pure []; pure (x86 :: r87)); DL.ask (lenO [("Groups", m_Groups_len_7d19)] r88)); let r90 ← pure []; pure (x89 :: r90)); DL.ask (rng1 r91)); seqF (forF (fun d => some d) (fun (q92 : Unit) (c93 : D) => (k_law_e89f_2 v44 c16 v77 c93)) r127 ()) fun (q125 : Unit) => (do let v126 ← (pure (.bl true)); pure (.rt v126)))
def k_law_e89f_4 (v44 : D) (c16 : D × D) : M (Fl (Unit) (Empty)) := (do let v77 ← mkL (do let r85 ← (do let r78 ← (pure v44); DL.ask (itD r78)); lcF (fun d => some d) (fun (c80 : D) => pure true) (fun (c80 : D) => (do let x83 ← (pure c16.1); let _ ← DL.ask (insOk ["Groups"] "translated" x83); let r84 ← (do let x81 ← (pure c80); let r82 ← pure []; pure (x81 :: r82)); Mo.lift (dispM [("Groups", m_Groups_translated_fd84)] x83 r84))) r85); (k_law_e89f_3 v44 c16 v77))
def k_law_e89f_5 (v32 : D) (c16 : D × D) (v9 : D) (v5 : D) : M (Fl (Unit) (Empty)) := (do let v44 ← (do let x53 ← (pure v32); let y54 ← (mkL (do let r52 ← (do let r45 ← (pure v32); DL.ask (itD r45)); lcF (fun d => some d) (fun (c47 : D) => pure true) (fun (c47 : D) => (do let x50 ← (pure c16.1); let _ ← DL.ask (insOk ["Groups"] "translated" x50); let r51 ← (do let x48 ← (pure c47); let r49 ← pure []; pure (x48 :: r49)); Mo.lift (dispM [("Groups", m_Groups_translated_fd84)] x50 r51))) r52)); DL.ask (addD x53 y54)); (do let r128 ← (do let r55 ← (pure v44); DL.ask (itD r55)); seqF (forF (fun d => some d) (fun (q56 : Unit) (c57 : D) => (k_law_e89f_0 c16 v9 c57 v5)) r128 ()) fun (q76 : Unit) => (k_law_e89f_4 v44 c16)))
def k_law_e89f_6 (v5 : D) (c16 : D × D) (v9 : D) : M (Fl (Unit) (Empty)) := (do let v32 ← mkL (do let r43 ← (do let r35 ← (do let x33 ← (pure (.int 8)); let r34 ← pure []; pure (x33 :: r34)); DL.ask (rng1 r35)); lcF (fun d => some d) (fun (c37 : D) => pure true) (fun (c37 : D) => (do let r42 ← (do let x40 ← (pure v5); let r41 ← (do let x38 ← (pure (.int 5)); let r39 ← pure []; pure (x38 :: r39)); pure (x40 :: r41)); m__law_host_9bb9 r42)) r43); (k_law_e89f_5 v32 c16 v9 v5))
def k_law_e89f_7 (v9 : D) (v5 : D) : M (Fl (Unit) (Empty)) := (do let v15 ← (do let r30 ← (do let x28 ← (do let r19 ← (do let x17 ← (pure v9); let r18 ← pure []; pure (x17 :: r18)); Mo.lift (m__law_made_groups_3031 r19)); let r29 ← (do let x26 ← (do let r25 ← (do let x23 ← (do let r22 ← (do let x20 ← (pure v9); let r21 ← pure []; pure (x20 :: r21)); Mo.lift (m__law_turned_2db7 r22)); let r24 ← pure []; pure (x23 :: r24)); Mo.lift (m__law_made_groups_3031 r25)); let r27 ← pure []; pure (x26 :: r27)); pure (x28 :: r29)); let r31 ← DL.ask (szL r30); pure (.tup r31)); let c16 ← DL.ask (un2 v15); (k_law_e89f_6 v5 c16 v9))
def k_law_e89f_8 (a0 : D) : R (Fl (Unit) (Empty)) := (do let i2 ← DL.ask (scrOf a0); let v1 ← Mo.noex (m__law_bag_d7b5 [.scr i2]); withBagW v1 (do let v5 ← (do let r8 ← (do let x6 ← (pure (.int 20)); let r7 ← pure []; pure (x6 :: r7)); m__law_pool_b280 r8); (do let v9 ← (do let r14 ← (do let x12 ← (pure v5); let r13 ← (do let x10 ← (pure (.int 4)); let r11 ← pure []; pure (x10 :: r11)); pure (x12 :: r13)); m__law_groups_b486 r14); (k_law_e89f_7 v9 v5))))
def b_law_e89f (a0 : D) : R (Fl Unit Empty) := (k_law_e89f_8 a0)
theorem e_law_e89f (a0 : D) : b_law_e89f a0 = (do let i2 ← DL.ask (scrOf a0); let v1 ← Mo.noex (m__law_bag_d7b5 [.scr i2]); withBagW v1 (do let v5 ← (m__law_pool_b280 [(.int 20)]); let v9 ← (m__law_groups_b486 [v5, (.int 4)]); let x28 ← (Mo.lift (m__law_made_groups_3031 [v9])); let x23 ← (Mo.lift (m__law_turned_2db7 [v9])); let x26 ← (Mo.lift (m__law_made_groups_3031 [x23])); let r31 ← DL.ask (szL [x28, x26]); let c16 ← DL.ask (un2 (.tup r31)); let r43 ← (DL.ask (rng1 [(.int 8)])); let v32 ← (lcF (fun d => some d) (fun (c37 : D) => pure true) (fun (c37 : D) => (m__law_host_9bb9 [v5, (.int 5)])) r43); let r52 ← (DL.ask (itD (.lst v32))); let y54 ← (lcF (fun d => some d) (fun (c47 : D) => pure true) (fun (c47 : D) => (do let _ ← DL.ask (insOk ["Groups"] "translated" c16.1); Mo.lift (dispM [("Groups", m_Groups_translated_fd84)] c16.1 [c47]))) r52); let v44 ← (DL.ask (addD (.lst v32) (.lst y54))); let r128 ← (DL.ask (itD v44)); seqF (forF (fun d => some d) (fun (q56 : Unit) (c57 : D) => (do let t75 ← (DL.notM (do let x61 ← (m__law_of_8ba0 [v5]); let x72 ← (Mo.lift (m__law_right_14ba [c16.1, c16.2, v9, c57, x61])); DL.ask (truD x72))); seqF (if t75 = true then (pure (.rt (.bl false))) else (pure (.nx ()))) fun (q73 : Unit) => (pure (.nx ())))) r128 ()) fun (q76 : Unit) => (do let r85 ← (DL.ask (itD v44)); let v77 ← (lcF (fun d => some d) (fun (c80 : D) => pure true) (fun (c80 : D) => (do let _ ← DL.ask (insOk ["Groups"] "translated" c16.1); Mo.lift (dispM [("Groups", m_Groups_translated_fd84)] c16.1 [c80]))) r85); let x89 ← (DL.ask (lenO [("Groups", m_Groups_len_7d19)] [v44])); let r127 ← (DL.ask (rng1 [x89])); seqF (forF (fun d => some d) (fun (q92 : Unit) (c93 : D) => (do let x97 ← (DL.ask (lenO [("Groups", m_Groups_len_7d19)] [v44])); let r124 ← (DL.ask (rng1 [x97])); seqF (forF (fun d => some d) (fun (q100 : Unit) (c101 : D) => (do let x110 ← (DL.ask (ixD v44 c101)); let _ ← DL.ask (insOk ["Groups"] "origins" c16.1); let x106 ← (DL.ask (ixD (.lst v77) c93)); let y111 ← (Mo.lift (dispM [("Groups", m_Groups_origins_646d)] c16.1 [x106])); let x118 ← (DL.ask (inD x110 y111)); let x116 ← (DL.ask (ixD (.lst v77) c101)); let y117 ← (DL.ask (ixD (.lst v77) c93)); let y119 ← (DL.ask (eqD x116 y117)); let t122 ← (DL.ask ((neD x118 y119).bind bOf)); seqF (if t122 = true then (pure (.rt (.bl false))) else (pure (.nx ()))) fun (q120 : Unit) => (pure (.nx ())))) r124 ()) fun (q123 : Unit) => (pure (.nx ())))) r127 ()) fun (q125 : Unit) => (pure (.rt (.bl true)))))) := by
  unfold b_law_e89f; simp only [k_law_e89f_0, k_law_e89f_1, k_law_e89f_2, k_law_e89f_3, k_law_e89f_4, k_law_e89f_5, k_law_e89f_6, k_law_e89f_7, k_law_e89f_8, pure_bind, bind_assoc, mkL]
def m_law_e89f : List D → R D := apR1 fun a0 => (runR false (b_law_e89f a0))
end FN
namespace FN
open DL PySem PySem.W
def glD (g : List Hst) : D := .lst (g.map hD)
def txL (g : List Hst) : D := .lst (g.map txD)
theorem txts_ok {g : List Hst} (hg : ∀ m ∈ g, MemOk m) : m__law_texts_372f [glD g] = .ok (txL g) := by
  have il : itD (glD g) = some (g.map hD) := rfl
  have lc : (lcF (fun d => some d) (fun (c7 : D) => pure true) (fun (c7 : D) => (do let _ ← DL.ask (strOf (.str [46])); DL.ask (joinD (.str [46]) c7))) (g.map hD) : R (List D)) = .ok (g.map txD) := by
    clear il
    induction g with
    | nil => rfl
    | cons m g ih =>
      have mk := hg m (.head _)
      have j : joinD (.str [46]) (hD m) = some (txD m) := (join_row2 (S := [46]) (row_of (A := m) (by have := mk.2.2; omega) mk.1) (by simp)).1
      have ih' := ih fun x k => hg x (.tail _ k)
      rw [List.map_cons, lcF]
      show ((Mo.noex (do let _ ← DL.ask (strOf (.str [46])); DL.ask (joinD (.str [46]) (hD m)) : R D)) >>= fun y => (lcF (fun d => some d) (fun (c7 : D) => pure true) (fun (c7 : D) => (do let _ ← DL.ask (strOf (.str [46])); DL.ask (joinD (.str [46]) c7))) (g.map hD) : R (List D)) >>= fun r => pure (y :: r)) = _
      rw [ih', j]
      rfl
  unfold m__law_texts_372f apR1
  simp only [e__law_texts_372f, il, askR, pure_bind]
  rw [lc]
  rfl
theorem made72 {kin : List (List Hst)} (h : KinOk kin) (hl : kin.length ≤ 4) : m__law_made_groups_3031 [.lst (kin.map glD)] = .ok (gpsD kin) := by
  have gi := groups_init h
  have il : itD (.lst (kin.map glD)) = some (kin.map glD) := rfl
  have lc : (lcF (fun d => some d) (fun (c4 : D) => pure true) (fun (c4 : D) => (Mo.lift (m__law_texts_372f [c4]))) (kin.map glD) : R (List D)) = .ok (kin.map txL) := by
    have hg := h.1
    clear gi il hl h
    induction kin with
    | nil => rfl
    | cons g kin ih =>
      have ih' := ih fun x k => hg x (.tail _ k)
      have tj := txts_ok (hg g (.head _)).1
      rw [List.map_cons, lcF]
      show ((Mo.noex (Mo.lift (m__law_texts_372f [glD g]) : R D)) >>= fun y => (lcF (fun d => some d) (fun (c4 : D) => pure true) (fun (c4 : D) => (Mo.lift (m__law_texts_372f [c4]))) (kin.map glD) : R (List D)) >>= fun r => pure (y :: r)) = _
      rw [ih', tj]
      rfl
  have ll : lenD [.lst (kin.map txL)] = some (.int (kin.length : Int)) := by
    show some (D.int ((kin.map txL).length : Int)) = _
    rw [List.length_map]
  have e := fun (i j : Int) => (show (eqD (.int i) (.int j)).bind bOf = some (decide (i = j)) from rfl)
  have e2 := fun (i j : Int) => (show (ltD (.int i) (.int j)).bind bOf = some (decide (i < j)) from rfl)
  have s0 : szL [] = some [] := sz_ok (by simp)
  have st : starD 0 m_Groups_init_8f72 (kin.map txL) = .ok [.tup (kin.map grD), .tup (kin.map grT)] := by
    rw [star0 (by rw [List.length_map]; omega)]; exact gi
  unfold m__law_made_groups_3031 apR1
  simp only [e__law_made_groups_3031, il, askR, pure_bind]
  rw [lc]
  simp only [okpR, pure_bind, ll, e, e2, askR, lift_pR, s0]
  match kin, hl with
  | [], _ =>
    have st' : starD 0 m_Groups_init_8f72 [] = .ok [.tup ([].map grD), .tup ([].map grT)] := st
    have d0 : decide ((([] : List (List Hst)).length : Int) < 2) = true := rfl
    have en : (eqD (.lst (([] : List (List Hst)).map txL)) (.lst [])).bind bOf = some true := by rw [List.map_nil, eq_nic (n := 3) (m := 3) rfl rfl (by omega) (by omega)]; rfl
    simp only [d0, if_true, iteM, en, askR, pure_bind, st']
    rfl
  | [a], _ =>
    have i0 : ixD (.lst ([a].map txL)) (.int 0) = some (txL a) := rfl
    have st' : starD 0 m_Groups_init_8f72 [txL a] = .ok [.tup ([a].map grD), .tup ([a].map grT)] := st
    have d0 : decide ((([a] : List (List Hst)).length : Int) < 2) = true := rfl
    have na : nic 5 (.lst ([a].map txL)) = true := by
      rw [nic_lst]
      refine nicL_iff.mpr fun d m => ?_
      obtain ⟨g, hg, rfl⟩ := List.mem_map.mp m
      show nic 4 (.lst (g.map txD)) = true
      rw [nic_lst]
      refine nicL_iff.mpr fun d m => ?_
      obtain ⟨x, hx, rfl⟩ := List.mem_map.mp m
      have mk := (h.1 g hg).1 x hx
      exact nic_mono 0 3 _ (by omega) (by
        show (joinN [46] x).all (fun c => decide (c < 1114112)) = true
        exact List.all_eq_true.mpr fun c m => decide_eq_true (join_tx (row_of (A := x) (by have := mk.2.2; omega) mk.1) (by omega) c m))
    have en : (eqD (.lst ([a].map txL)) (.lst [])).bind bOf = some false := by
      rw [eq_nic (n := 5) (m := 3) na rfl (by omega) (by omega)]
      rfl
    simp only [d0, if_true, iteM, en, askR, pure_bind, Bool.false_eq_true, if_false, i0, st']
    rfl
  | [a, b], _ =>
    have i0 : ixD (.lst ([a, b].map txL)) (.int 0) = some (txL a) := rfl
    have i1 : ixD (.lst ([a, b].map txL)) (.int 1) = some (txL b) := rfl
    have st' : starD 0 m_Groups_init_8f72 [txL a, txL b] = .ok [.tup ([a, b].map grD), .tup ([a, b].map grT)] := st
    have d0 : decide ((([a, b] : List (List Hst)).length : Int) < 2) = false := rfl
    have d2 : decide ((([a, b] : List (List Hst)).length : Int) = 2) = true := rfl
    simp only [d0, d2, if_true, Bool.false_eq_true, if_false, sqp, i0, i1, askR, pure_bind, st']
    rfl
  | [a, b, c], _ =>
    have i0 : ixD (.lst ([a, b, c].map txL)) (.int 0) = some (txL a) := rfl
    have i1 : ixD (.lst ([a, b, c].map txL)) (.int 1) = some (txL b) := rfl
    have i2 : ixD (.lst ([a, b, c].map txL)) (.int 2) = some (txL c) := rfl
    have st' : starD 0 m_Groups_init_8f72 [txL a, txL b, txL c] = .ok [.tup ([a, b, c].map grD), .tup ([a, b, c].map grT)] := st
    have d0 : decide ((([a, b, c] : List (List Hst)).length : Int) < 2) = false := rfl
    have d2 : decide ((([a, b, c] : List (List Hst)).length : Int) = 2) = false := rfl
    have d3 : decide ((([a, b, c] : List (List Hst)).length : Int) = 3) = true := rfl
    simp only [d0, d2, d3, if_true, Bool.false_eq_true, if_false, sqp, i0, i1, i2, askR, pure_bind, st']
    rfl
  | [a, b, c, d], _ =>
    have i0 : ixD (.lst ([a, b, c, d].map txL)) (.int 0) = some (txL a) := rfl
    have i1 : ixD (.lst ([a, b, c, d].map txL)) (.int 1) = some (txL b) := rfl
    have i2 : ixD (.lst ([a, b, c, d].map txL)) (.int 2) = some (txL c) := rfl
    have i3 : ixD (.lst ([a, b, c, d].map txL)) (.int 3) = some (txL d) := rfl
    have st' : starD 0 m_Groups_init_8f72 [txL a, txL b, txL c, txL d] = .ok [.tup ([a, b, c, d].map grD), .tup ([a, b, c, d].map grT)] := st
    have d0 : decide ((([a, b, c, d] : List (List Hst)).length : Int) < 2) = false := rfl
    have d2 : decide ((([a, b, c, d] : List (List Hst)).length : Int) = 2) = false := rfl
    have d3 : decide ((([a, b, c, d] : List (List Hst)).length : Int) = 3) = false := rfl
    simp only [d0, d2, d3, Bool.false_eq_true, if_false, sqp, i0, i1, i2, i3, askR, pure_bind, st']
    rfl
theorem best_mem {kin : List (List Hst)} {h : Hst} (hk : ∀ g ∈ kin, GrOk g) : ∀ x, bestN kin h = some x → MemOk x.1 := by
  have one : ∀ (g0 : Hst) (ms : List Hst) (q : Best), (∀ m ∈ ms, MemOk m) → (∀ x, q = some x → MemOk x.1) → ∀ x, ms.foldl (stepM h g0) q = some x → MemOk x.1 := by
    intro g0 ms
    induction ms with
    | nil => intro q _ hq; exact hq
    | cons m ms ih =>
      intro q hm hq
      refine ih _ (fun x k => hm x (.tail _ k)) ?_
      unfold stepM
      by_cases c : endsB h m = true ∧ bestLen q < m.length
      · rw [if_pos c]
        intro x e
        cases e
        exact hm m (.head _)
      · rw [if_neg c]; exact hq
  have all : ∀ (ks : List (List Hst)) (q : Best), (∀ g ∈ ks, GrOk g) → (∀ x, q = some x → MemOk x.1) → ∀ x, ks.foldl (stepG h) q = some x → MemOk x.1 := by
    intro ks
    induction ks with
    | nil => intro q _ hq; exact hq
    | cons g ks ih =>
      intro q hg hq
      refine ih _ (fun x m => hg x (.tail _ m)) ?_
      unfold stepG
      exact one _ g q (hg g (.head _)).1 hq
  exact all kin none hk fun x e => by cases e
theorem gl_head {g : List Hst} (k : GrOk g) : ∃ g0 gs, g = g0 :: gs ∧ ixD (glD g) (.int 0) = some (hD g0) ∧ g.headD [] = g0 ∧ MemOk g0 := by
  cases g with
  | nil => have := k.2.1; simp at this
  | cons g0 gs => exact ⟨g0, gs, rfl, by
    show ((L2.ixN ((g0 :: gs).map hD).length 0).bind fun j => ((g0 :: gs).map hD)[j]?) = _
    rw [ixN_ok (by omega) (by simp)]
    rfl, rfl, k.1 g0 (.head _)⟩
end FN
namespace FN
open DL PySem PySem.W
theorem translated_ok {kin : List (List Hst)} {h : Hst} (hk : ∀ g ∈ kin, GrOk g) (k : HkH h) : dispM [("Groups", m_Groups_translated_fd84)] (gpsD kin) [hD h] = .ok (hD (movedN kin h)) := by
  have f : fldD ["Groups"] "hosts" (gpsD kin) = some (.tup (kin.map grD)) := rfl
  have mo := moved_ok (gd := .tup (kin.map grD)) (h := h) rfl hk k.1 (by have := k.2.2; omega)
  show m_Groups_translated_fd84 [gpsD kin, hD h] = _
  unfold m_Groups_translated_fd84 apR2
  simp only [e_Groups_translated_fd84, host_true k, lift_pR, okpR, pure_bind, tru_bl, askR, DL.notM, Bool.not_true, Bool.false_eq_true, if_false, sqp, f, mo]
  rfl
def MemP (ws : List (List Nat)) (h : Hst) : Prop := MemOk h ∧ ∀ z ∈ h, z ∈ ws
def GI72 (ws : List (List Nat)) (n : Nat) (q : List D × List D) : Prop := ∃ (U : List Hst) (F : List (List Hst)), q = (U.map hD, F.map glD) ∧ (∀ h ∈ U, MemP ws h) ∧ (∀ g ∈ F, GrOk g) ∧ F.flatten.Nodup ∧ (∀ h ∈ F.flatten, h ∈ U) ∧ U.length ≤ 4 * n ∧ F.length ≤ n
def GJ72 (ws : List (List Nat)) (F : List (List Hst)) (n j : Nat) (q : List D × List D) : Prop := ∃ (U g : List Hst), q = (U.map hD, g.map hD) ∧ (∀ h ∈ U, MemP ws h) ∧ (∀ h ∈ g, h ∈ U) ∧ (F.flatten ++ g).Nodup ∧ (∀ h ∈ F.flatten, h ∈ U) ∧ U.length ≤ 4 * n + j ∧ g.length ≤ j
theorem groups_okW72 {ws : List (List Nat)} (hL : Lab8 ws) {n : Int} (h0 : 0 ≤ n) (h1 : n ≤ 4) : Bk 100 (m__law_groups_b486 [.lst (ws.map .str), .int n]) fun d => ∃ kin : List (List Hst), d = .lst (kin.map glD) ∧ KinOk kin ∧ ∀ g ∈ kin, ∀ m ∈ g, ∀ z ∈ m, z ∈ ws := by
  have s0 : szL [] = some [] := sz_ok (by simp)
  refine bk_runM ?_
  simp only [e__law_groups_b486, s0, add_ii, askM, pure_bind]
  refine bk_then (take_okW (n := n + 1) (by omega) (by omega)) ?_
  rintro d ⟨m, rfl, m0, m1⟩
  rw [rng1_ok (by omega) (by omega)]
  simp only [askM, pure_bind]
  refine bk_seqP (K1 := 80) (GI72 ws m.toNat) (bk_for (n := 4) 20 (GI72 ws) _ _ ⟨[], [], rfl, by simp, by simp, by simp, by simp, by simp, by simp⟩ (fun k d q hd hq => ⟨d, rfl, ?_⟩) (fun q hq => by rw [range_len] at hq; exact hq) (by rw [range_len]; omega)) ?_
  · obtain ⟨U, F, rfl, u1, f1, f2, f3, u2, f4⟩ := hq
    have hk := (range_get hd).1
    refine bk_then (take_okW (n := 3) (by omega) (by omega)) ?_
    rintro d ⟨t, rfl, t0, t1⟩
    simp only [add_ii, askM, pure_bind]
    rw [rng1_ok (by omega) (by omega)]
    simp only [askM, pure_bind]
    refine bk_seqP (K1 := 16) (GJ72 ws F k 4) (bk_for (n := 4) 4 (GJ72 ws F k) _ _ ⟨U, [], rfl, u1, by simp, by simpa using f2, f3, by omega, by simp⟩ (fun j d q hd2 hq => ⟨d, rfl, ?_⟩) (fun q hq => ?_) (by rw [range_len]; omega)) ?_
    · obtain ⟨U, g, rfl, u1, g1, g2, f3, u2, g3⟩ := hq
      have hj := (range_get hd2).1
      refine bk_then (take_okW (n := 3) (by omega) (by omega)) ?_
      rintro d ⟨u, rfl, v0, v1⟩
      simp only [add_ii, askM, pure_bind]
      rw [rng1_ok (by omega) (by omega)]
      simp only [askM, pure_bind]
      refine bk_then (K1 := 3) (bk_lc (P := fun _ r => ∃ z, r = .str z ∧ (isLab 20 z = true ∧ z ∈ ws)) 1 _ (fun d _ => ⟨d, rfl, bk_mono (of_okW (fun e => hL.1 (List.map_eq_nil_iff.mp e)) (by rw [List.length_map]; have := hL.2.1; omega)) (fun d m => by
        obtain ⟨z, mz, rfl⟩ := List.mem_map.mp m
        exact ⟨z, rfl, hL.2.2 z mz, mz⟩)⟩) (n := 3) (by rw [range_len]; omega) (by omega)) ?_
      intro rs hrs
      obtain ⟨A, rfl, al, hA⟩ := all2_P hrs
      rw [range_len] at al
      have mk : MemP ws A := ⟨⟨fun z m => (hA z m).1, by omega, by omega⟩, fun z m => (hA z m).2⟩
      have ni := notin_hosts (m := A) (T := U) (fun z m => (hA z m).1) fun t m => (u1 t m).1.1
      have ni' : (notInD (.tup (A.map .str)) (.lst (U.map hD))).bind bOf = some (!decide (A ∈ U)) := ni
      simp only [tup_lst, ni', askM, noexM, pure_bind]
      by_cases c : A ∈ U
      · simp only [decide_eq_true c, Bool.not_true, Bool.false_eq_true, if_false]
        exact bk_seqP (K1 := 0) (GJ72 ws F k (j + 1)) (bk_pure ⟨U, g, rfl, u1, g1, g2, f3, by omega, by omega⟩) fun q hq => bk_pure hq
      · simp only [decide_eq_false c, Bool.not_false, if_true]
        rw [apd_ok (by rw [List.length_map]; omega), apd_ok (by rw [List.length_map]; omega)]
        simp only [askM, pure_bind]
        refine bk_seqP (K1 := 0) (GJ72 ws F k (j + 1)) (bk_pure ⟨U ++ [A], g ++ [A], by simp [hD], fun h m => ?_, fun h m => ?_, ?_, fun h m => List.mem_append_left _ (f3 h m), by simp; omega, by simp; omega⟩) fun q hq => bk_pure hq
        · rcases List.mem_append.mp m with m | m
          · exact u1 h m
          · rw [List.mem_singleton.mp m]; exact mk
        · rcases List.mem_append.mp m with m | m
          · exact List.mem_append_left _ (g1 h m)
          · exact List.mem_append_right _ m
        · rw [← List.append_assoc, List.nodup_append]
          refine ⟨g2, by simp, fun x hx y hy => ?_⟩
          have ey : y = A := by simpa using hy
          rw [ey]
          intro e
          refine c ?_
          rw [← e]
          rcases List.mem_append.mp hx with z | z
          · exact f3 x z
          · exact g1 x z
    · obtain ⟨U, g, e, u1, g1, g2, f3, u2, g3⟩ := hq
      rw [range_len] at u2 g3
      exact ⟨U, g, e, u1, g1, g2, f3, by omega, by omega⟩
    rintro q ⟨U, g, rfl, u1, g1, g2, f3, u2, g3⟩
    have ll : lenD [.lst (g.map hD)] = some (.int (g.length : Int)) := by
      show some (D.int ((g.map hD).length : Int)) = _
      rw [List.length_map]
    simp only [ll, gt_l, Option.bind_some, bOf_bl, askM, pure_bind]
    refine bk_seqP (K1 := 0) (fun L => GI72 ws (k + 1) (U.map hD, L)) ?_ (fun q hq => bk_pure hq)
    by_cases c : (1 : Int) < (g.length : Int)
    · simp only [decide_eq_true c, if_true]
      rw [apd_ok (by rw [List.length_map]; omega)]
      simp only [askM, pure_bind]
      refine bk_pure ⟨U, F ++ [g], by simp [glD], u1, fun x m => ?_, by simpa using g2, fun h m => ?_, by omega, by simp; omega⟩
      · rcases List.mem_append.mp m with m | m
        · exact f1 x m
        · rw [List.mem_singleton.mp m]
          exact ⟨fun y hy => (u1 y (g1 y hy)).1, by omega, by omega⟩
      · rw [List.flatten_append] at m
        rcases List.mem_append.mp m with m | m
        · exact f3 h m
        · exact g1 h (by simpa using m)
    · simp only [decide_eq_false c, Bool.false_eq_true, if_false]
      exact bk_pure ⟨U, F, rfl, u1, f1, f2, f3, by omega, by omega⟩
  rintro q ⟨U, F, rfl, u1, f1, f2, f3, u2, f4⟩
  exact bk_pure ⟨F, rfl, ⟨f1, f2, by omega⟩, fun g hg m hm => (u1 m (f3 m (List.mem_flatten.mpr ⟨g, hg, hm⟩))).2⟩
end FN
namespace FN
open DL PySem PySem.W
theorem lc_filt {α : Type} {xt : D → R Bool} {xe : D → R D} (g f : α → D) (p : α → Bool) : ∀ (as : List α), (∀ a ∈ as, xt (g a) = .ok (p a)) → (∀ a ∈ as, xe (g a) = .ok (f a)) → (lcF (fun d => some d) xt xe (as.map g) : R (List D)) = .ok ((as.filter p).map f)
  | [], _, _ => rfl
  | a :: as, h1, h2 => by
    have ih := lc_filt g f p as (fun x m => h1 x (.tail _ m)) (fun x m => h2 x (.tail _ m))
    have e1 := h1 a (.head _)
    have e2 := h2 a (.head _)
    rw [List.map_cons, lcF, List.filter_cons]
    show ((Mo.noex (xt (g a)) : R Bool) >>= fun b => if b = true then ((Mo.noex (xe (g a)) : R D) >>= fun y => (lcF (fun d => some d) xt xe (as.map g) : R (List D)) >>= fun r => pure (y :: r)) else lcF (fun d => some d) xt xe (as.map g)) = _
    rw [ih, e1, e2]
    cases p a <;> rfl
theorem lc_mapR {α : Type} {xe : D → R D} (g f : α → D) (as : List α) (h2 : ∀ a ∈ as, xe (g a) = .ok (f a)) : (lcF (fun d => some d) (fun _ => pure true) xe (as.map g) : R (List D)) = .ok (as.map f) := by
  rw [lc_filt g f (fun _ => true) as (fun _ _ => rfl) h2, List.filter_eq_self.mpr (fun _ _ => rfl)]
theorem for_foldI {α β γ τ ι : Type} {u : D → Option γ} {xb : α → γ → R (Fl α α)} (f : ι → D) (enc : τ → α) (step : τ → ι → τ) (I : τ → List ι → Prop)
    (hs : ∀ s i is, I s (i :: is) → (∃ c, u (f i) = some c ∧ xb (enc s) c = .ok (.nx (enc (step s i)))) ∧ I (step s i) is) :
    ∀ (is : List ι) (s : τ), I s is → ∀ {a0 : α}, a0 = enc s → (forF u xb (is.map f) a0 : R (Fl α β)) = .ok (.nx (enc (is.foldl step s)))
  | [], s, _, _, e0 => by rw [e0]; rfl
  | i :: is, s, h, _, e0 => by
    rw [e0]
    obtain ⟨⟨c, hu, hx⟩, hi⟩ := hs s i is h
    have ih := for_foldI (β := β) f enc step I hs is (step s i) hi rfl
    rw [List.map_cons, forF, hu, List.foldl_cons]
    show ((xb (enc s) c) >>= _) = _
    rw [hx]
    exact ih
theorem foldl_flat {α β : Type} (f : α → List β) : ∀ (as : List α) (acc : List β), as.foldl (fun acc a => acc ++ f a) acc = acc ++ as.flatMap f
  | [], acc => by simp
  | a :: as, acc => by rw [List.foldl_cons, foldl_flat f as, List.flatMap_cons, List.append_assoc]
theorem flat_len {α β : Type} {f : α → List β} {n : Nat} : ∀ {as : List α}, (∀ a ∈ as, (f a).length ≤ n) → (as.flatMap f).length ≤ n * as.length
  | [], _ => by simp
  | a :: as, h => by
    have := flat_len (as := as) fun x m => h x (.tail _ m)
    have := h a (.head _)
    rw [List.flatMap_cons, List.length_append, List.length_cons, Nat.mul_succ]
    omega
theorem neH {a b : Hst} (ha : Labs a) (hb : Labs b) : neD (hD a) (hD b) = some (.bl (!decide (a = b))) := by
  show neD (.tup (a.map .str)) (.tup (b.map .str)) = _
  rw [ne_nic (n := 3) (m := 3) (labs_tup ha) (labs_tup hb) (by omega) (by omega)]
  show some (D.bl (!deqL (a.map .str) (b.map .str))) = _
  rw [deqL_strs]
theorem sort_hosts {T : List Hst} (hT : T.length ≤ 1000000) (hl : ∀ h ∈ T, h.length ≤ 1000) : sortedKD m_host_key_aabf (.lst (T.map hD)) = some (.lst ((srtH T).map hD)) :=
  sortedKD_map (enc := hD) (kd := fun h => keyW h.reverse) (key := fun h => kP h.reverse) (lt := hltB) (fun a m => host_key_ok (by have := hl a m; omega)) (fun a _ => kP_py _) (fun a _ b _ => kP_lt _ _) (keysOk_tup (fun _ _ _ _ => kP_alike _ _) (fun _ _ => rfl) fun a _ => by have := kP_depth a.reverse; omega) hT
end FN
namespace FN
open DL PySem PySem.W
theorem best_same {kin kin' : List (List Hst)} (K : KinOk kin) (K' : KinOk kin') (e : ∀ x, x ∈ pairsN kin' ↔ x ∈ pairsN kin) (h : Hst) : bestN kin' h = bestN kin h := by
  cases hb : bestN kin h with
  | none =>
    cases hb' : bestN kin' h with
    | none => rfl
    | some y =>
      obtain ⟨y1, y2, _⟩ := best_some hb'
      have := best_none K hb y ((e y).mp y1)
      rw [y2] at this; cases this
  | some x =>
    obtain ⟨x1, x2, x3⟩ := best_some hb
    exact best_is K' ((e x).mpr x1) x2 fun y y1 y2 => x3 y ((e y).mp y1) y2
theorem moved_same {kin kin' : List (List Hst)} (K : KinOk kin) (K' : KinOk kin') (e : ∀ x, x ∈ pairsN kin' ↔ x ∈ pairsN kin) (h : Hst) : movedN kin' h = movedN kin h := by
  unfold movedN
  rw [best_same K K' e]
def turnG (g : List Hst) : List Hst := g.take 1 ++ (g.drop 1).reverse
def turnK (kin : List (List Hst)) : List (List Hst) := kin.reverse.map turnG
theorem turn_perm (g : List Hst) : (turnG g).Perm g := by
  unfold turnG
  have := (List.reverse_perm (g.drop 1)).append_left (g.take 1)
  rwa [List.take_append_drop] at this
theorem turn_head (g : List Hst) : (turnG g).headD [] = g.headD [] := by
  cases g <;> rfl
theorem turn_kin {kin : List (List Hst)} (K : KinOk kin) : KinOk (turnK kin) := by
  refine ⟨fun g m => ?_, ?_, by unfold turnK; rw [List.length_map, List.length_reverse]; exact K.2.2⟩
  · obtain ⟨g', m', rfl⟩ := List.mem_map.mp m
    have k := K.1 g' (List.mem_reverse.mp m')
    have p := turn_perm g'
    exact ⟨fun x hx => k.1 x (p.mem_iff.mp hx), by rw [p.length_eq]; exact k.2.1, by rw [p.length_eq]; exact k.2.2⟩
  · have f : ∀ L : List (List Hst), ((L.map turnG).flatten).Perm L.flatten := by
      intro L
      induction L with
      | nil => exact List.Perm.refl _
      | cons g L ih => exact (turn_perm g).append ih
    exact ((f kin.reverse).trans (List.reverse_perm kin).flatten).nodup_iff.mpr K.2.1
theorem turn_pairs {kin : List (List Hst)} (x : Hst × Hst) : x ∈ pairsN (turnK kin) ↔ x ∈ pairsN kin := by
  rw [mem_pairs, mem_pairs]
  constructor
  · rintro ⟨g, m, h1, h2⟩
    obtain ⟨g', m', rfl⟩ := List.mem_map.mp m
    exact ⟨g', List.mem_reverse.mp m', (turn_perm g').mem_iff.mp h1, by rw [h2, turn_head]⟩
  · rintro ⟨g, m, h1, h2⟩
    exact ⟨turnG g, List.mem_map.mpr ⟨g, List.mem_reverse.mpr m, rfl⟩, (turn_perm g).mem_iff.mpr h1, by rw [h2, turn_head]⟩
theorem turned_ok {kin : List (List Hst)} (K : KinOk kin) : m__law_turned_2db7 [.lst (kin.map glD)] = .ok (.lst ((turnK kin).map glD)) := by
  have rv : revD (.lst (kin.map glD)) = some (.lst (kin.reverse.map glD)) := by
    show some (D.lst (kin.map glD).reverse) = _
    rw [List.map_reverse]
  have il : itD (.lst (kin.reverse.map glD)) = some (kin.reverse.map glD) := rfl
  have lm := lc_mapR (xe := fun (c4 : D) => (do let i6 ← DL.ask (intOf (.int 1)); let x11 ← (DL.ask (sliceD c4 none (some i6))); let y12 ← (DL.ask (revTo1D c4)); DL.ask (addD x11 y12))) glD (fun g => glD (turnG g)) kin.reverse (fun g m => by
    have k := K.1 g (List.mem_reverse.mp m)
    have sl : sliceD (glD g) none (some 1) = some (.lst ((g.take 1).map hD)) := by
      show some (D.lst (cutL (g.map hD) none (some ((1 : Nat) : Int)))) = _
      rw [cut_toD, List.map_take]
    have rt : revTo1D (glD g) = some (.lst (((g.drop 1).reverse).map hD)) := by
      show some (D.lst ((g.map hD).drop 1).reverse) = _
      rw [← List.map_drop, List.map_reverse]
    have ad : addD (.lst ((g.take 1).map hD)) (.lst (((g.drop 1).reverse).map hD)) = some (glD (turnG g)) := by
      rw [add_ll (by have := k.2.2; simp; omega), ← List.map_append]; rfl
    simp only [int_of, sl, rt, ad, askR, pure_bind]
    rfl)
  unfold m__law_turned_2db7 apR1
  simp only [e__law_turned_2db7, rv, il, askR, pure_bind, lm, okpR]
  unfold turnK
  rw [List.map_map]
  rfl
def memE : Best → D
  | none => .non
  | some x => txD x.1
theorem member_meth {kin : List (List Hst)} {h : Hst} (K : KinOk kin) (k : HkH h) : dispM [("Groups", m_Groups_member_6374)] (gpsD kin) [hD h] = .ok (memE (bestN kin h)) := by
  have f : fldD ["Groups"] "hosts" (gpsD kin) = some (.tup (kin.map grD)) := rfl
  have mo := member_ok (gd := .tup (kin.map grD)) (h := h) rfl K.1 k.1
  have bm := best_mem (h := h) K.1
  show m_Groups_member_6374 [gpsD kin, hD h] = _
  unfold m_Groups_member_6374 apR2
  simp only [e_Groups_member_6374, host_true k, lift_pR, okpR, pure_bind, tru_bl, askR, DL.notM, Bool.not_true, Bool.false_eq_true, if_false, sqp, f, mo]
  cases hb : bestN kin h with
  | none => rfl
  | some x =>
    have isn : (isD (encB (some x)) .non).bind bOf = some false := rfl
    have i0 : ixD (encB (some x)) (.int 0) = some (hD x.1) := rfl
    have ht := host_text_ok (bm x hb)
    simp only [isn, i0, ht, iteM, askR, pure_bind, Bool.false_eq_true, if_false, lift_pR, okpR]
    rfl
theorem ends_cons {w : List Nat} {h m : Hst} (l : m.length ≤ h.length) : endsB (w :: h) m = endsB h m := by
  rw [Bool.eq_iff_iff, endsB_iff, endsB_iff]
  constructor
  · rintro ⟨p, e⟩
    cases p with
    | nil =>
      have := congrArg List.length e
      simp at this
      omega
    | cons a p =>
      rw [List.cons_append] at e
      exact ⟨p, (List.cons.inj e).2⟩
  · rintro ⟨p, rfl⟩
    exact ⟨w :: p, rfl⟩
theorem best_cons {kin : List (List Hst)} (K : KinOk kin) {w : List Nat} {h : Hst} (l : 3 ≤ h.length) : bestN kin (w :: h) = bestN kin h := by
  have e : ∀ y ∈ pairsN kin, endsB (w :: h) y.1 = endsB h y.1 := fun y m => ends_cons (by have := (pair_mem K m).1.2.2; omega)
  cases hb : bestN kin h with
  | none =>
    cases hb' : bestN kin (w :: h) with
    | none => rfl
    | some y =>
      obtain ⟨y1, y2, _⟩ := best_some hb'
      rw [e y y1, best_none K hb y y1] at y2; cases y2
  | some x =>
    obtain ⟨x1, x2, x3⟩ := best_some hb
    exact best_is K x1 (by rw [e x x1]; exact x2) fun y y1 y2 => x3 y y1 (by rw [← e y y1]; exact y2)
theorem moved_cons {kin : List (List Hst)} (K : KinOk kin) {w : List Nat} {h : Hst} (l : 3 ≤ h.length) : movedN kin (w :: h) = w :: movedN kin h := by
  cases hb : bestN kin h with
  | none => rw [moved_none hb, moved_none (by rw [best_cons K l]; exact hb)]
  | some x =>
    obtain ⟨p, e⟩ := endsB_iff.mp (best_some hb).2.1
    rw [moved_some hb e, moved_some (p := w :: p) (by rw [best_cons K l]; exact hb) (by rw [e]; rfl)]
    rfl
theorem one_group {kin : List (List Hst)} (K : KinOk kin) {x : Hst × Hst} (hx : x ∈ pairsN kin) : ∃ g, kin.filter (fun g => decide (x.1 ∈ g)) = [g] ∧ g.headD [] = x.2 := by
  obtain ⟨g, hg, m, e⟩ := mem_pairs.mp hx
  have nd := K.2.1
  clear K
  induction kin with
  | nil => cases hg
  | cons a kin ih =>
    rw [List.flatten_cons, List.nodup_append] at nd
    obtain ⟨n1, n2, n3⟩ := nd
    rw [List.filter_cons]
    by_cases c : x.1 ∈ a
    · have none' : kin.filter (fun g => decide (x.1 ∈ g)) = [] := List.filter_eq_nil_iff.mpr fun b hb q => n3 x.1 c x.1 (List.mem_flatten.mpr ⟨b, hb, of_decide_eq_true q⟩) rfl
      rw [if_pos (decide_eq_true c), none']
      refine ⟨a, rfl, ?_⟩
      rcases List.mem_cons.mp hg with rfl | hg
      · exact e.symm
      · exact (n3 x.1 c x.1 (List.mem_flatten.mpr ⟨g, hg, m⟩) rfl).elim
    · rw [if_neg (by simpa using c)]
      rcases List.mem_cons.mp hg with rfl | hg
      · exact (c m).elim
      · exact ih (mem_pairs.mpr ⟨g, hg, m, e⟩) hg n2
end FN
namespace FN
open DL PySem PySem.W
theorem eqH {a b : Hst} (ha : Labs a) (hb : Labs b) : eqD (hD a) (hD b) = some (.bl (decide (a = b))) := eqT ha hb
theorem txD_split {x : Hst} (m : MemOk x) : splitD (txD x) (.str [46]) = some (x.map .str) := split_labs m.1 m.2.1 (by have := m.2.2; omega)
theorem ne_tx {a b : Hst} : neD (txD a) (txD b) = some (.bl (!decide (joinN [46] a = joinN [46] b))) := rfl
theorem right_ok74 {kin : List (List Hst)} {h : Hst} {w : List Nat} (K : KinOk kin) (k : Labs h ∧ 1 ≤ h.length ∧ h.length ≤ 8) (hw : isLab 20 w = true) : m__law_right_14ba [gpsD kin, gpsD (turnK kin), .lst (kin.map glD), hD h, .str w] = .ok (.bl true) := by
  obtain ⟨k1, k2, k3⟩ := k
  have K' := turn_kin K
  obtain ⟨m1, m2, m3⟩ := moved_facts K.1 k1 k2
  have hk : HkH h := ⟨k1, k2, by omega⟩
  have i1 : insOk ["Groups"] "translated" (gpsD kin) = some () := rfl
  have i2 : insOk ["Groups"] "member" (gpsD kin) = some () := rfl
  have i3 : insOk ["Groups"] "translated" (gpsD (turnK kin)) = some () := rfl
  have i4 : insOk ["Groups"] "member" (gpsD (turnK kin)) = some () := rfl
  have t1 := translated_ok K.1 hk
  have t2 := translated_ok K'.1 hk
  have e1 := member_meth K hk
  have e2 := member_meth K' hk
  rw [best_same K K' turn_pairs] at e2
  rw [moved_same K K' turn_pairs] at t2
  have n1 : (neO [("Groups", m_Groups_eq_0dba)] (hD (movedN kin h)) (hD (movedN kin h))).bind bOf = some false := by
    show (neD (hD (movedN kin h)) (hD (movedN kin h))).bind bOf = _
    rw [neH m1 m1, decide_eq_true rfl]; rfl
  have n2 : (neO [("Groups", m_Groups_eq_0dba)] (memE (bestN kin h)) (memE (bestN kin h))).bind bOf = some false := by
    show (neO [("Groups", m_Groups_eq_0dba)] (memE (bestN kin h)) (memE (bestN kin h))).bind bOf = _
    cases bestN kin h with
    | none => rfl
    | some x =>
      show (neD (txD x.1) (txD x.1)).bind bOf = _
      rw [ne_tx, decide_eq_true rfl]; rfl
  have s0 : szL [] = some [] := sz_ok (by simp)
  have s1 : szL [D.str w] = some [.str w] := sz_ok (by simp)
  have a1 : addD (.tup [.str w]) (hD h) = some (hD (w :: h)) := by
    show addD (.tup (_ : List D)) (.tup (_ : List D)) = _
    rw [add_tt (by simp; omega)]; rfl
  have a2 : addD (.tup [.str w]) (hD (movedN kin h)) = some (hD (w :: movedN kin h)) := by
    show addD (.tup (_ : List D)) (.tup (_ : List D)) = _
    rw [add_tt (by simp; omega)]; rfl
  have cl : ∀ {T : Hst}, Labs T → Labs (w :: T) := fun {T} q z m => by
    rcases List.mem_cons.mp m with rfl | m
    · exact hw
    · exact q z m
  have t3 : (2 : Int) < (h.length : Int) → dispM [("Groups", m_Groups_translated_fd84)] (gpsD kin) [hD (w :: h)] = .ok (hD (w :: movedN kin h)) := fun c => by
    have t3 := translated_ok K.1 (h := w :: h) ⟨cl k1, by simp, by simp; omega⟩
    rwa [moved_cons K (by omega)] at t3
  have n3 : (neD (hD (w :: movedN kin h)) (hD (w :: movedN kin h))).bind bOf = some false := by rw [neH (cl m1) (cl m1), decide_eq_true rfl]; rfl
  have tail : (do let t125 ← (DL.andM (do let x102 ← (DL.ask (lenD [hD h])); DL.ask ((gtD x102 (.int 2)).bind bOf)) (do let r107 ← DL.ask (szL [D.str w]); let x110 ← (DL.ask (addD (.tup r107) (hD h))); let x120 ← (dispM [("Groups", m_Groups_translated_fd84)] (gpsD kin) [x110]); let r117 ← DL.ask (szL [D.str w]); let y121 ← (DL.ask (addD (.tup r117) (hD (movedN kin h)))); DL.ask ((neD x120 y121).bind bOf))); seqF (if t125 = true then (pure (.rt (.bl false))) else (pure (.nx ()))) fun (q122 : Unit) => (pure (.rt (.bl true))) : R (Fl Unit Empty)) = pure (.rt (.bl true)) := by
    simp only [lenH, gt_l, Option.bind_some, bOf_bl, askR, pure_bind, DL.andM]
    by_cases c : (2 : Int) < (h.length : Int)
    · simp only [decide_eq_true c, if_true, s1, a1, a2, t3 c, okpR, askR, pure_bind, n3, Bool.false_eq_true, if_false, sqp]
    · simp only [decide_eq_false c, Bool.false_eq_true, if_false, pure_bind, sqp]
  unfold m__law_right_14ba apR5
  simp only [e__law_right_14ba, i1, i2, i3, i4, t1, t2, e1, e2, n1, n2, lift_pR, okpR, askR, pure_bind, DL.orM, Bool.false_eq_true, if_false, sqp]
  rw [tail]
  have ig : itD (.lst (kin.map glD)) = some (kin.map glD) := rfl
  cases hb : bestN kin h with
  | none =>
    have bn := best_none K hb
    have isn : (isD (memE none) .non).bind bOf = some true := rfl
    have nm : (neO [("Groups", m_Groups_eq_0dba)] (hD (movedN kin h)) (hD h)).bind bOf = some false := by
      show (neD (hD (movedN kin h)) (hD h)).bind bOf = _
      rw [neH m1 k1, moved_none hb, decide_eq_true rfl]; rfl
    have lf := lc_filt (xt := fun (c32 : D) => (do let x35 ← (DL.ask (ixD c32 (.int 0))); let x40 ← (m__law_ends_f9cd [hD h, x35]); DL.ask (truD x40))) (xe := fun c32 => pure c32) glD glD (fun _ => false) kin (fun g m => by
      obtain ⟨g0, gs, e, ix, e2, h0⟩ := gl_head (K.1 g m)
      have x1 : (g0, g.headD []) ∈ pairsN kin := mem_pairs.mpr ⟨g, m, by rw [e]; exact .head _, rfl⟩
      have en : m__law_ends_f9cd [hD h, hD g0] = .ok (.bl false) := by
        have := law_ends_okW k1 h0.1 (h := h) (A := g0)
        rwa [bn _ x1] at this
      simp only [ix, en, askR, okpR, pure_bind, tru_bl]) (fun _ _ => rfl)
    have fe : kin.filter (fun _ => false) = [] := List.filter_eq_nil_iff.mpr fun _ _ q => by cases q
    rw [fe] at lf
    have ne0 : (neD (.lst (([] : List (List Hst)).map glD)) (.lst [])).bind bOf = some false := rfl
    simp only [isn, nm, ig, lf, s0, ne0, askR, okpR, pure_bind, if_true, Bool.false_eq_true, if_false, sqp]
    rfl
  | some x =>
    obtain ⟨x1, x2, x3⟩ := best_some hb
    obtain ⟨q1, q2, q3⟩ := pair_mem K x1
    obtain ⟨p, ep⟩ := endsB_iff.mp x2
    obtain ⟨g, fg, hg⟩ := one_group K x1
    have isn : (isD (memE (some x)) .non).bind bOf = some false := rfl
    have so : strOf (memE (some x)) = some (joinN [46] x.1) := rfl
    have sp : splitD (memE (some x)) (.str [46]) = some (x.1.map .str) := txD_split q1
    have tl : tupleD [.lst (x.1.map .str)] = some (hD x.1) := rfl
    have lf := lc_filt (xt := fun (c57 : D) => (DL.ask ((inD (hD x.1) c57).bind bOf) : R Bool)) (xe := fun c57 => DL.ask (ixD c57 (.int 0))) glD (fun g => hD (g.headD [])) (fun g => decide (x.1 ∈ g)) kin (fun g m => by
      have gk := K.1 g m
      have := in_hosts (m := x.1) (T := g) q1.1 fun t ht => (gk.1 t ht).1
      show (DL.ask ((inD (hD x.1) (.lst (g.map hD))).bind bOf) : R Bool) = _
      rw [this]; rfl) (fun g m => by
      obtain ⟨g0, gs, e, ix, e2, h0⟩ := gl_head (K.1 g m)
      rw [ix, e2]; rfl)
    rw [fg] at lf
    have en : m__law_ends_f9cd [hD h, hD x.1] = .ok (.bl true) := by
      have := law_ends_okW (h := h) (A := x.1) k1 q1.1
      rwa [x2] at this
    have l1 : lenO [("Groups", m_Groups_len_7d19)] [.lst ([g].map fun g => hD (g.headD []))] = some (.int 1) := rfl
    have n1 : (neD (.int 1) (.int 1)).bind bOf = some false := rfl
    have l2 : lenO [("Groups", m_Groups_len_7d19)] [hD x.1] = some (.int (x.1.length : Int)) := lenH
    have ll : x.1.length ≤ h.length := by rw [ep, List.length_append]; omega
    have sl : sliceD (hD h) none (some ((h.length : Int) - (x.1.length : Int))) = some (hD p) := by
      show sliceD (.tup (h.map .str)) _ _ = _
      rw [slice_t, cut_take ll, ep, List.length_append, Nat.add_sub_cancel, List.take_left]; rfl
    have i0 : ixD (.lst ([g].map fun g => hD (g.headD []))) (.int 0) = some (hD x.2) := by rw [← hg]; rfl
    have ad : addD (hD p) (hD x.2) = some (hD (movedN kin h)) := by
      show addD (.tup (_ : List D)) (.tup (_ : List D)) = _
      have pl : p.length ≤ h.length := by rw [ep, List.length_append]; omega
      rw [add_tt (by have := q2.2.2; simp; omega), ← List.map_append, moved_some hb ep]; rfl
    simp only [isn, so, sp, tl, ig, lf, en, l1, n1, lenH, l2, sub_ii, int_of, sl, i0, ad, n1, askR, okpR, pure_bind, Bool.false_eq_true, if_false, sqp, tru_bl, DL.notM, Bool.not_true]
    have n4 : (neO [("Groups", m_Groups_eq_0dba)] (hD (movedN kin h)) (hD (movedN kin h))).bind bOf = some false := by
      show (neD (hD (movedN kin h)) (hD (movedN kin h))).bind bOf = _
      rw [neH m1 m1, decide_eq_true rfl]; rfl
    simp only [n4, askR, pure_bind, Bool.false_eq_true, if_false, sqp]
    rfl
end FN
namespace FN
open DL PySem PySem.W
def backN (t g0 m : Hst) : Hst := t.take (t.length - g0.length) ++ m
def foundG (t : Hst) (g : List Hst) : List Hst := if endsB t (g.headD []) = true then g.map (backN t (g.headD [])) else []
def foundN (kin : List (List Hst)) (t : Hst) : List Hst := t :: kin.flatMap (foundG t)
def origP (kin : List (List Hst)) (t x : Hst) : Bool := decide (x.length ≤ 20) && decide (movedN kin x = t)
def origN (kin : List (List Hst)) (t : Hst) : List Hst := srtH (sortT (ddT ((foundN kin t).filter (origP kin t))))
theorem mem_orig' {kin : List (List Hst)} {t x : Hst} : x ∈ origN kin t ↔ x ∈ foundN kin t ∧ x.length ≤ 20 ∧ movedN kin x = t := by
  unfold origN srtH sortT
  rw [List.mem_mergeSort, List.mem_mergeSort, mem_ddT, List.mem_filter]
  unfold origP
  rw [Bool.and_eq_true, decide_eq_true_eq, decide_eq_true_eq]
theorem mem_orig {kin : List (List Hst)} (K : KinOk kin) {t x : Hst} : x ∈ origN kin t ↔ x.length ≤ 20 ∧ movedN kin x = t := by
  rw [mem_orig']
  refine ⟨fun h => h.2, fun h => ⟨?_, h⟩⟩
  obtain ⟨_, h2⟩ := h
  cases hb : bestN kin x with
  | none =>
    rw [moved_none hb] at h2
    rw [h2]; exact .head _
  | some y =>
    obtain ⟨y1, y2, _⟩ := best_some hb
    obtain ⟨p, e⟩ := endsB_iff.mp y2
    rw [moved_some hb e] at h2
    obtain ⟨g, hg, m, ed⟩ := mem_pairs.mp y1
    refine .tail _ (List.mem_flatMap.mpr ⟨g, hg, ?_⟩)
    have en : endsB t (g.headD []) = true := endsB_iff.mpr ⟨p, by rw [← ed, h2]⟩
    unfold foundG
    rw [if_pos en]
    refine List.mem_map.mpr ⟨y.1, m, ?_⟩
    unfold backN
    rw [← h2, ← ed, List.length_append, Nat.add_sub_cancel, List.take_left, e]
theorem found_len {kin : List (List Hst)} (K : KinOk kin) (t : Hst) : (foundN kin t).length ≤ 17 := by
  have : (kin.flatMap (foundG t)).length ≤ 4 * kin.length := flat_len fun g m => by
    unfold foundG
    split
    · rw [List.length_map]; exact (K.1 g m).2.2
    · exact Nat.zero_le _
  have := K.2.2
  unfold foundN
  rw [List.length_cons]
  omega
theorem found_ok {kin : List (List Hst)} (K : KinOk kin) {t : Hst} (k1 : Labs t) (k2 : 1 ≤ t.length) {x : Hst} (h : x ∈ foundN kin t) : Labs x ∧ 1 ≤ x.length ∧ x.length ≤ t.length + 3 := by
  rcases List.mem_cons.mp h with rfl | h
  · exact ⟨k1, k2, by omega⟩
  · obtain ⟨g, hg, hx⟩ := List.mem_flatMap.mp h
    unfold foundG at hx
    split at hx
    · obtain ⟨m, hm, rfl⟩ := List.mem_map.mp hx
      have mk := (K.1 g hg).1 m hm
      unfold backN
      refine ⟨labs_app (labs_take _ k1) mk.1, ?_, ?_⟩
      · rw [List.length_append]; have := mk.2.1; omega
      · rw [List.length_append, List.length_take]; have := mk.2.2; omega
    · cases hx
theorem ddT_len : ∀ l : List (List (List Nat)), (ddT l).length ≤ l.length
  | [] => Nat.le_refl _
  | x :: r => by
    have := ddT_len r
    unfold ddT
    split <;> simp <;> omega
theorem origins_ok {kin : List (List Hst)} {t : Hst} (K : KinOk kin) (k : HkH t) : dispM [("Groups", m_Groups_origins_646d)] (gpsD kin) [hD t] = .ok (.lst ((origN kin t).map hD)) := by
  obtain ⟨k1, k2, k3⟩ := k
  have f : fldD ["Groups"] "hosts" (gpsD kin) = some (.tup (kin.map grD)) := rfl
  have it : itD (.tup (kin.map grD)) = some (kin.map grD) := rfl
  have itl : ∀ L : List D, itD (.lst L) = some L := fun _ => rfl
  have s1 : szL [hD t] = some [hD t] := sz_ok (by simp)
  have fl := found_len K t
  show m_Groups_origins_646d [gpsD kin, hD t] = _
  unfold m_Groups_origins_646d apR2
  simp only [e_Groups_origins_646d, host_true ⟨k1, k2, k3⟩, lift_pR, okpR, pure_bind, tru_bl, askR, DL.notM, Bool.not_true, Bool.false_eq_true, if_false, sqp, f, it, s1]
  rw [for_foldI (β := Empty) (a0 := [hD t]) grD (fun L : List Hst => L.map hD) (fun L g => L ++ foundG t g) (fun L gs => L.length + 4 * gs.length ≤ 100 ∧ ∀ g ∈ gs, GrOk g) (fun L g gs hI => ?_) kin [t] ⟨by have := K.2.2; simp only [List.length_cons, List.length_nil]; omega, K.1⟩ rfl]
  · have hc : kin.foldl (fun L g => L ++ foundG t g) [t] = foundN kin t := by rw [foldl_flat]; rfl
    have fw : fewL ((foundN kin t).map hD) = some ((foundN kin t).map hD) := if_pos (by rw [List.length_map]; omega)
    have lf := lc_filt (xt := fun (c52 : D) => (DL.andM (do let x56 ← (DL.ask (lenD [c52])); DL.ask ((leD x56 c_MOST_LABELS).bind bOf)) (do let x64 ← (m_moved_8ac7 [.tup (kin.map grD), c52]); DL.ask ((eqD x64 (hD t)).bind bOf)))) (xe := fun (c52 : D) => DL.ask (okTx c52)) hD hTx (origP kin t) (foundN kin t) (fun x m => by
      obtain ⟨x1, x2, x3⟩ := found_ok K k1 k2 m
      obtain ⟨m1, m2, m3⟩ := moved_facts K.1 x1 x2
      have mo := moved_ok (gd := .tup (kin.map grD)) rfl K.1 x1 (by omega)
      have le : (leD (.int (x.length : Int)) c_MOST_LABELS).bind bOf = some (decide (x.length ≤ 20)) := by
        show some (decide ((x.length : Int) ≤ 20)) = _
        congr 1
        rw [decide_eq_decide]; omega
      unfold origP
      simp only [lenH, le, mo, eqH m1 k1, askR, okpR, pure_bind, DL.andM, Option.bind_some, bOf_bl]
      cases decide (x.length ≤ 20) <;> rfl) (fun x m => by
      obtain ⟨x1, x2, x3⟩ := found_ok K k1 k2 m
      show (DL.ask ((strsD (x.map .str)).bind fun z => if z = [] then none else some (D.tup (x.map .str))) : R D) = _
      rw [strsD_map]
      show (DL.ask (if x = [] then none else some (D.tup (x.map .str))) : R D) = _
      rw [if_neg fun e => by rw [e] at x2; simp at x2]
      rfl)
    have ss : setSortT (((foundN kin t).filter (origP kin t)).map hTx) = some (.lst ((sortT (ddT ((foundN kin t).filter (origP kin t)))).map hD)) := by
      unfold setSortT
      rw [hsD_map]
      rfl
    have mm : ∀ x ∈ sortT (ddT ((foundN kin t).filter (origP kin t))), x ∈ foundN kin t := fun x m => by
      unfold sortT at m
      rw [List.mem_mergeSort, mem_ddT] at m
      exact (List.mem_filter.mp m).1
    have ln : (sortT (ddT ((foundN kin t).filter (origP kin t)))).length ≤ 1000000 := by
      have a := ddT_len ((foundN kin t).filter (origP kin t))
      have b := List.length_filter_le (origP kin t) (foundN kin t)
      unfold sortT
      rw [List.length_mergeSort]
      omega
    simp only [okpR, sqp, hc, itl, fw, askR, pure_bind, lf, ss, sort_hosts (T := sortT (ddT ((foundN kin t).filter (origP kin t)))) ln (fun h m => by have := (found_ok K k1 k2 (mm h m)).2.2; omega)]
    first
      | rfl
      | (have lo : lstOf (.lst ((srtH (sortT (ddT ((foundN kin t).filter (origP kin t))))).map hD)) = some ((srtH (sortT (ddT ((foundN kin t).filter (origP kin t))))).map hD) := rfl
         simp only [lo, askR, pure_bind]
         rfl)
  · obtain ⟨hl, hg⟩ := hI
    have gk := hg g (.head _)
    have g4 := gk.2.2
    rw [List.length_cons] at hl
    obtain ⟨g0, gs', e, ix, e2, h0⟩ := grp_head gk
    have en : m_ends_with_d715 [hD t, hD g0] = .ok (.bl (endsB t g0)) := ends_ok k1 h0.1
    have ig : itD (grD g) = some (g.map hD) := rfl
    have fg : (foundG t g).length ≤ 4 := by
      unfold foundG
      split
      · rw [List.length_map]; exact g4
      · exact Nat.zero_le _
    refine ⟨⟨grD g, rfl, ?_⟩, by rw [List.length_append]; omega, fun x m => hg x (.tail _ m)⟩
    simp only [ix, en, askR, okpR, pure_bind, tru_bl]
    cases hb : endsB t g0 with
    | false =>
      have e3 : foundG t g = [] := if_neg (by rw [e2, hb]; simp)
      simp only [Bool.false_eq_true, if_false, sqp, e3, List.append_nil]
    | true =>
      have e3 : foundG t g = g.map (backN t g0) := by
        unfold foundG
        rw [e2, if_pos hb]
      obtain ⟨p, ep⟩ := endsB_iff.mp hb
      have le : g0.length ≤ t.length := by rw [ep, List.length_append]; omega
      have sl : sliceD (hD t) none (some ((t.length : Int) - (g0.length : Int))) = some (hD (t.take (t.length - g0.length))) := by
        show sliceD (.tup (t.map .str)) _ _ = _
        rw [slice_t, cut_take le]; rfl
      have lm := lc_mapR (xe := fun (c28 : D) => (do let x37 ← (DL.ask (lenD [hD t])); let y38 ← (DL.ask (lenD [hD g0])); let x39 ← (DL.ask (subD x37 y38)); let i40 ← DL.ask (intOf x39); let x44 ← (DL.ask (sliceD (hD t) none (some i40))); DL.ask (addD x44 c28))) hD (fun m => hD (backN t g0 m)) g (fun m hm => by
        have mk := gk.1 m hm
        have ad : addD (hD (t.take (t.length - g0.length))) (hD m) = some (hD (backN t g0 m)) := by
          show addD (.tup (_ : List D)) (.tup (_ : List D)) = _
          rw [add_tt (by have := mk.2.2; simp; omega), ← List.map_append]; rfl
        simp only [lenH, sub_ii, int_of, sl, ad, askR, pure_bind]
        rfl)
      have ex : extI (L.map hD) [.lst (g.map fun m => hD (backN t g0 m))] = some (L.map hD ++ g.map fun m => hD (backN t g0 m)) := if_pos (by rw [sizeLine_eq, List.length_map, List.length_map]; omega)
      simp only [if_true, ig, askR, pure_bind, lm, okpR, ex, sqp, e3]
      rw [List.map_append, List.map_map]
      rfl
end FN
namespace FN
open DL PySem PySem.W
theorem sqM {α β γ : Type} {a : α} {k : α → M (Fl γ β)} : seqF (pure (Fl.nx a) : M (Fl α β)) k = k a := rfl
theorem in_hostsD {m : Hst} {T : List Hst} (hm : Labs m) (hT : ∀ t ∈ T, Labs t) : inD (hD m) (.lst (T.map hD)) = some (.bl (decide (m ∈ T))) := by
  have h := in_hosts hm hT
  unfold inD at h ⊢
  cases e : inP (hD m) (.lst (T.map hD)) with
  | none => rw [e] at h; cases h
  | some b =>
    rw [e] at h
    have h' : some b = some (decide (m ∈ T)) := h
    cases h'
    rfl
theorem all2_H {P : Hst → Prop} : ∀ {ds rs : List D}, All2 (fun _ r => ∃ A, r = hD A ∧ P A) ds rs → ∃ MS : List Hst, rs = MS.map hD ∧ MS.length = ds.length ∧ ∀ A ∈ MS, P A
  | _, _, .nil => ⟨[], rfl, rfl, by simp⟩
  | _, _, .cons ⟨A, e, hA⟩ t => by
    obtain ⟨MS, rfl, hl, hM⟩ := all2_H t
    subst e
    exact ⟨A :: MS, rfl, by simp [hl], fun x m => by
      rcases List.mem_cons.mp m with rfl | m
      · exact hA
      · exact hM x m⟩
def H8 (h : Hst) : Prop := Labs h ∧ 1 ≤ h.length ∧ h.length ≤ 8
theorem ix_hosts {T : List Hst} {i : Nat} (h : i < T.length) : ixD (.lst (T.map hD)) (.int ((0 : Int) + (i : Int))) = some (hD T[i]) := ix_map h
theorem law_ok74 {ns : List Int} (hn : ns.length ≤ 63) : OkR (m_law_e89f [.scr ns]) fun d => d = .bl true := by
  unfold m_law_e89f apR1
  refine okr_runR ?_
  have sc : scrOf (.scr ns) = some ns := rfl
  simp only [e_law_e89f, sc, askR, pure_bind]
  obtain ⟨d, e, l, y, rfl, hl, y0, y1⟩ := bag_okW ns hn
  rw [e]
  simp only [noex_R, R.bind_eq, R.bd]
  refine okr_bagW (K := 10000) hl y0 y1 ?_
  refine bk_then pool_okX ?_
  rintro d ⟨ws, rfl, hL⟩
  refine bk_then (groups_okW72 hL (n := 4) (by omega) (by omega)) ?_
  rintro d ⟨kin, rfl, hK, _⟩
  have K' := turn_kin hK
  simp only [made72 hK hK.2.2, turned_ok hK, made72 K' K'.2.2, lift_M, askM, pure_bind, sz2, un2_2]
  rw [rng1_ok (j := 8) (by omega) (by omega)]
  simp only [askM, pure_bind]
  refine bk_then (K1 := 2400) (bk_lc (P := fun _ r => ∃ A, r = hD A ∧ Labs A ∧ 1 ≤ A.length ∧ A.length ≤ 5) 300 _ (fun d _ => ⟨d, rfl, bk_mono (host_okW hL (m := 5) (by omega) (by omega)) fun d hd => ?_⟩) (n := 8) (by rw [range_len]; omega) (by omega)) ?_
  · obtain ⟨A, rfl, a1, a2, a3⟩ := hd
    exact ⟨A, rfl, a1, a2, by omega⟩
  intro rs hrs
  obtain ⟨MS, rfl, ml, hM⟩ := all2_H hrs
  rw [range_len] at ml
  have io1 : insOk ["Groups"] "translated" (gpsD kin) = some () := rfl
  have io2 : insOk ["Groups"] "origins" (gpsD kin) = some () := rfl
  have itl : ∀ L : List D, itD (.lst L) = some L := fun _ => rfl
  have tr : ∀ T : List Hst, (∀ h ∈ T, H8 h) → (lcF (fun d => some d) (fun (c47 : D) => pure true) (fun (c47 : D) => (Mo.lift (dispM [("Groups", m_Groups_translated_fd84)] (gpsD kin) [c47]) : M D)) (T.map hD) : M (List D)) = pure ((T.map (movedN kin)).map hD) := fun T hT => by
    rw [lc_mapG hD (fun h => hD (movedN kin h)) T fun h m => ?_, List.map_map]
    · rfl
    · obtain ⟨h1, h2, h3⟩ := hT h m
      rw [translated_ok hK.1 ⟨h1, h2, by omega⟩]
      rfl
  simp only [itl, io1, askM, pure_bind]
  rw [tr MS fun h m => ⟨(hM h m).1, (hM h m).2.1, by have := (hM h m).2.2; omega⟩]
  have ad : addD (.lst (MS.map hD)) (.lst ((MS.map (movedN kin)).map hD)) = some (.lst ((MS ++ MS.map (movedN kin)).map hD)) := by
    rw [add_ll (by simp; omega), ← List.map_append]
  simp only [pure_bind, ad, askM, itl]
  obtain ⟨HS, eHS⟩ : ∃ HS, HS = MS ++ MS.map (movedN kin) := ⟨_, rfl⟩
  have hH : ∀ h ∈ HS, H8 h := fun h m => by
    rw [eHS] at m
    rcases List.mem_append.mp m with m | m
    · exact ⟨(hM h m).1, (hM h m).2.1, by have := (hM h m).2.2; omega⟩
    · obtain ⟨g, hg, rfl⟩ := List.mem_map.mp m
      obtain ⟨a, b, c⟩ := hM g hg
      obtain ⟨m1, m2, m3⟩ := moved_facts hK.1 a b
      exact ⟨m1, m3, by omega⟩
  have hlen : HS.length = 16 := by rw [eHS, List.length_append, List.length_map]; omega
  rw [← eHS]
  refine bk_seqP (K1 := 16) (fun _ => True) (bk_forU 1 _ (fun d hd => ?_) trivial (n := 16) (by rw [List.length_map]; omega) (by omega)) ?_
  · obtain ⟨h, m, rfl⟩ := List.mem_map.mp hd
    refine ⟨hD h, rfl, ?_⟩
    refine bk_then (K1 := 1) (P := fun b => b = false) ?_ (fun b hb => by
      subst hb
      simp only [Bool.false_eq_true, if_false, sqM]
      exact bk_pure trivial)
    unfold DL.notM
    refine bk_then (K1 := 1) (P := fun b => b = true) (bk_then (K1 := 1) (of_labW hL) ?_) (fun b hb => by
      subst hb
      exact bk_pure rfl)
    rintro d ⟨z, rfl, hz⟩
    simp only [right_ok74 hK (hH h m) hz, lift_M, pure_bind, tru_bl, askM]
    exact bk_pure rfl
  intro _ _
  rw [tr HS hH]
  have lo : lenO [("Groups", m_Groups_len_7d19)] [.lst (HS.map hD)] = some (.int 16) := by
    show some (D.int ((HS.map hD).length : Int)) = _
    rw [List.length_map, hlen]; rfl
  simp only [pure_bind, lo, askM]
  rw [rng1_ok (j := 16) (by omega) (by omega)]
  simp only [askM, pure_bind]
  refine bk_seqP (K1 := 0) (fun _ => True) (bk_forU 0 _ (fun d hd => ?_) trivial (Nat.le_refl _) (by omega)) (fun _ _ => bk_pure rfl)
  obtain ⟨i, hi, rfl⟩ := range_mem hd
  refine ⟨.int ((0 : Int) + (i : Int)), rfl, ?_⟩
  refine bk_seqP (K1 := 0) (fun _ => True) (bk_forU 0 _ (fun d hd => ?_) trivial (Nat.le_refl _) (by omega)) (fun _ _ => bk_pure trivial)
  obtain ⟨j, hj, rfl⟩ := range_mem hd
  refine ⟨.int ((0 : Int) + (j : Int)), rfl, ?_⟩
  have hi' : i < HS.length := by rw [hlen]; omega
  have hj' : j < HS.length := by rw [hlen]; omega
  obtain ⟨a1, a2, a3⟩ := hH HS[i] (List.getElem_mem _)
  obtain ⟨b1, b2, b3⟩ := hH HS[j] (List.getElem_mem _)
  obtain ⟨m1, m2, m3⟩ := moved_facts hK.1 a1 a2
  obtain ⟨n1, n2, n3⟩ := moved_facts hK.1 b1 b2
  have x1 := ix_hosts (T := HS) hj'
  have x2 : ixD (.lst ((HS.map (movedN kin)).map hD)) (.int ((0 : Int) + (i : Int))) = some (hD (movedN kin HS[i])) := by
    rw [ix_hosts (T := HS.map (movedN kin)) (by rw [List.length_map]; exact hi'), List.getElem_map]
  have x3 : ixD (.lst ((HS.map (movedN kin)).map hD)) (.int ((0 : Int) + (j : Int))) = some (hD (movedN kin HS[j])) := by
    rw [ix_hosts (T := HS.map (movedN kin)) (by rw [List.length_map]; exact hj'), List.getElem_map]
  have oo := origins_ok hK (t := movedN kin HS[i]) ⟨m1, m3, by omega⟩
  have io := in_hostsD (m := HS[j]) (T := origN kin (movedN kin HS[i])) b1 fun t ht => (found_ok hK m1 m3 (mem_orig'.mp ht).1).1
  have eo := eqH n1 m1
  have ag : decide (HS[j] ∈ origN kin (movedN kin HS[i])) = decide (movedN kin HS[j] = movedN kin HS[i]) := by
    rw [decide_eq_decide, mem_orig hK]
    exact ⟨fun h => h.2, fun h => ⟨by omega, h⟩⟩
  rw [ag] at io
  have nb : ∀ b : Bool, (neD (.bl b) (.bl b)).bind bOf = some false := fun b => by cases b <;> rfl
  simp only [x1, x2, x3, io2, oo, io, eo, nb, lift_M, askM, pure_bind, Bool.false_eq_true, if_false, sqM]
  exact bk_pure trivial
theorem law_e89f_true (ns : List Int) (hn : ns.length ≤ 63) : m_law_e89f [.scr ns] = .ok (.bl true) := by
  obtain ⟨d, e, rfl⟩ := law_ok74 hn
  exact e
end FN
namespace K74
open PySem L2 DL FN
abbrev N_is_label : List Str := ["thing", "sign"]
theorem sc_is_label : FnScope N_is_label ["thing"] (defScope s_is_label) := ⟨rfl, rfl, rfl, by decide +kernel, rfl, by decide +kernel, by decide +kernel⟩
abbrev N_row_key : List Str := ["row", "label"]
theorem sc_row_key : FnScope N_row_key ["row"] (defScope s_row_key) := ⟨rfl, rfl, rfl, by decide +kernel, rfl, by decide +kernel, by decide +kernel⟩
abbrev N_ends_with : List Str := ["host", "labels"]
theorem sc_ends_with : FnScope N_ends_with ["host", "labels"] (defScope s_ends_with) := ⟨rfl, rfl, rfl, by decide +kernel, rfl, by decide +kernel, by decide +kernel⟩
abbrev N__law_bag : List Str := ["_law_script", "_law_seed", "_law_cell"]
theorem sc__law_bag : FnScope N__law_bag ["_law_script"] (defScope s__law_bag) := ⟨rfl, rfl, rfl, by decide +kernel, rfl, by decide +kernel, by decide +kernel⟩
abbrev N__law_take : List Str := ["_law_bag_here", "_law_many", "_law_mixed", "_law_digit"]
theorem sc__law_take : FnScope N__law_take ["_law_bag_here", "_law_many"] (defScope s__law_take) := ⟨rfl, rfl, rfl, by decide +kernel, rfl, by decide +kernel, by decide +kernel⟩
abbrev N__law_ends : List Str := ["_law_host_here", "_law_labels"]
theorem sc__law_ends : FnScope N__law_ends ["_law_host_here", "_law_labels"] (defScope s__law_ends) := ⟨rfl, rfl, rfl, by decide +kernel, rfl, by decide +kernel, by decide +kernel⟩
abbrev N__law_texts : List Str := ["_law_group", "_law_host_here"]
theorem sc__law_texts : FnScope N__law_texts ["_law_group"] (defScope s__law_texts) := ⟨rfl, rfl, rfl, by decide +kernel, rfl, by decide +kernel, by decide +kernel⟩
abbrev N__law_turned : List Str := ["_law_groups_here", "_law_group"]
theorem sc__law_turned : FnScope N__law_turned ["_law_groups_here"] (defScope s__law_turned) := ⟨rfl, rfl, rfl, by decide +kernel, rfl, by decide +kernel, by decide +kernel⟩
abbrev N_Groups_len : List Str := ["self"]
theorem sc_Groups_len : FnScope N_Groups_len ["self"] (defScope s_Groups_len) := ⟨rfl, rfl, rfl, by decide +kernel, rfl, by decide +kernel, by decide +kernel⟩
abbrev N_Groups_eq : List Str := ["self", "other"]
theorem sc_Groups_eq : FnScope N_Groups_eq ["self", "other"] (defScope s_Groups_eq) := ⟨rfl, rfl, rfl, by decide +kernel, rfl, by decide +kernel, by decide +kernel⟩
abbrev N_is_path : List Str := ["thing", "label"]
theorem sc_is_path : FnScope N_is_path ["thing"] (defScope s_is_path) := ⟨rfl, rfl, rfl, by decide +kernel, rfl, by decide +kernel, by decide +kernel⟩
abbrev N_host_key : List Str := ["host"]
theorem sc_host_key : FnScope N_host_key ["host"] (defScope s_host_key) := ⟨rfl, rfl, rfl, by decide +kernel, rfl, by decide +kernel, by decide +kernel⟩
abbrev N_member_and_head : List Str := ["groups", "host", "best", "group", "member"]
theorem sc_member_and_head : FnScope N_member_and_head ["groups", "host"] (defScope s_member_and_head) := ⟨rfl, rfl, rfl, by decide +kernel, rfl, by decide +kernel, by decide +kernel⟩
abbrev N__law_of : List Str := ["_law_bag_here", "_law_some"]
theorem sc__law_of : FnScope N__law_of ["_law_bag_here", "_law_some"] (defScope s__law_of) := ⟨rfl, rfl, rfl, by decide +kernel, rfl, by decide +kernel, by decide +kernel⟩
abbrev N__law_label : List Str := ["_law_bag_here", "_law_most", "_law_signs", "_law_k"]
theorem sc__law_label : FnScope N__law_label ["_law_bag_here", "_law_most"] (defScope s__law_label) := ⟨rfl, rfl, rfl, by decide +kernel, rfl, by decide +kernel, by decide +kernel⟩
abbrev N_is_host : List Str := ["thing"]
theorem sc_is_host : FnScope N_is_host ["thing"] (defScope s_is_host) := ⟨rfl, rfl, rfl, by decide +kernel, rfl, by decide +kernel, by decide +kernel⟩
abbrev N_moved : List Str := ["groups", "host", "found", "member", "head"]
theorem sc_moved : FnScope N_moved ["groups", "host"] (defScope s_moved) := ⟨rfl, rfl, rfl, by decide +kernel, rfl, by decide +kernel, by decide +kernel⟩
abbrev N__law_pool : List Str := ["_law_bag_here", "_law_longest", "_law_most", "_law_k"]
theorem sc__law_pool : FnScope N__law_pool ["_law_bag_here", "_law_longest"] (defScope s__law_pool) := ⟨rfl, rfl, rfl, by decide +kernel, rfl, by decide +kernel, by decide +kernel⟩
abbrev N__law_host : List Str := ["_law_bag_here", "_law_pool_here", "_law_most", "_law_found", "_law_k"]
theorem sc__law_host : FnScope N__law_host ["_law_bag_here", "_law_pool_here", "_law_most"] (defScope s__law_host) := ⟨rfl, rfl, rfl, by decide +kernel, rfl, by decide +kernel, by decide +kernel⟩
abbrev N__law_groups : List Str := ["_law_bag_here", "_law_pool_here", "_law_most", "_law_k", "_law_used", "_law_groups_here", "_law_group", "_law_j", "_law_host_here", "_law_i"]
theorem sc__law_groups : FnScope N__law_groups ["_law_bag_here", "_law_pool_here", "_law_most"] (defScope s__law_groups) := ⟨rfl, rfl, rfl, by decide +kernel, rfl, by decide +kernel, by decide +kernel⟩
abbrev N_host_of : List Str := ["text"]
theorem sc_host_of : FnScope N_host_of ["text"] (defScope s_host_of) := ⟨rfl, rfl, rfl, by decide +kernel, rfl, by decide +kernel, by decide +kernel⟩
abbrev N_host_text : List Str := ["host"]
theorem sc_host_text : FnScope N_host_text ["host"] (defScope s_host_text) := ⟨rfl, rfl, rfl, by decide +kernel, rfl, by decide +kernel, by decide +kernel⟩
abbrev N_Groups_translated : List Str := ["self", "host"]
theorem sc_Groups_translated : FnScope N_Groups_translated ["self", "host"] (defScope s_Groups_translated) := ⟨rfl, rfl, rfl, by decide +kernel, rfl, by decide +kernel, by decide +kernel⟩
abbrev N_Groups_origins : List Str := ["self", "host", "found", "group", "one", "member"]
theorem sc_Groups_origins : FnScope N_Groups_origins ["self", "host"] (defScope s_Groups_origins) := ⟨rfl, rfl, rfl, by decide +kernel, rfl, by decide +kernel, by decide +kernel⟩
abbrev N_checked_group : List Str := ["group", "taken", "hosts", "text", "host", "at"]
theorem sc_checked_group : FnScope N_checked_group ["group", "taken"] (defScope s_checked_group) := ⟨rfl, rfl, rfl, by decide +kernel, rfl, by decide +kernel, by decide +kernel⟩
abbrev N_Groups_member : List Str := ["self", "host", "found"]
theorem sc_Groups_member : FnScope N_Groups_member ["self", "host"] (defScope s_Groups_member) := ⟨rfl, rfl, rfl, by decide +kernel, rfl, by decide +kernel, by decide +kernel⟩
abbrev N__law_right : List Str := ["_law_made", "_law_turned_here", "_law_groups_here", "_law_host_here", "_law_label_here", "_law_told", "_law_member", "_law_part", "_law_first", "_law_group"]
theorem sc__law_right : FnScope N__law_right ["_law_made", "_law_turned_here", "_law_groups_here", "_law_host_here", "_law_label_here"] (defScope s__law_right) := ⟨rfl, rfl, rfl, by decide +kernel, rfl, by decide +kernel, by decide +kernel⟩
abbrev N_Groups_init : List Str := ["self", "groups", "group", "found", "taken", "hosts", "host"]
theorem sc_Groups_init : FnScope N_Groups_init ["self", "groups"] (defScope s_Groups_init) := ⟨rfl, rfl, rfl, by decide +kernel, rfl, by decide +kernel, by decide +kernel⟩
abbrev N__law_made_groups : List Str := ["_law_groups_here", "_law_some", "_law_group"]
theorem sc__law_made_groups : FnScope N__law_made_groups ["_law_groups_here"] (defScope s__law_made_groups) := ⟨rfl, rfl, rfl, by decide +kernel, rfl, by decide +kernel, by decide +kernel⟩
abbrev N_law : List Str := ["_law_script", "_law_bag_here", "_law_pool_here", "_law_groups_here", "_law_hosts", "_law_host_here", "_law_told", "_law_at", "_law_made", "_law_turned_here", "_law_k"]
theorem sc_law : FnScope N_law ["_law_script"] (defScope s_law) := ⟨rfl, rfl, rfl, by decide +kernel, rfl, by decide +kernel, by decide +kernel⟩
structure Ad where
  a_is_label : Addr
  f_is_label : FuncData
  a_row_key : Addr
  f_row_key : FuncData
  a_ends_with : Addr
  f_ends_with : FuncData
  a__law_bag : Addr
  f__law_bag : FuncData
  a__law_take : Addr
  f__law_take : FuncData
  a__law_ends : Addr
  f__law_ends : FuncData
  a__law_texts : Addr
  f__law_texts : FuncData
  a__law_turned : Addr
  f__law_turned : FuncData
  a_Groups_len : Addr
  f_Groups_len : FuncData
  a_Groups_eq : Addr
  f_Groups_eq : FuncData
  a_is_path : Addr
  f_is_path : FuncData
  a_host_key : Addr
  f_host_key : FuncData
  a_member_and_head : Addr
  f_member_and_head : FuncData
  a__law_of : Addr
  f__law_of : FuncData
  a__law_label : Addr
  f__law_label : FuncData
  a_is_host : Addr
  f_is_host : FuncData
  a_moved : Addr
  f_moved : FuncData
  a__law_pool : Addr
  f__law_pool : FuncData
  a__law_host : Addr
  f__law_host : FuncData
  a__law_groups : Addr
  f__law_groups : FuncData
  a_host_of : Addr
  f_host_of : FuncData
  a_host_text : Addr
  f_host_text : FuncData
  a_Groups_translated : Addr
  f_Groups_translated : FuncData
  a_Groups_origins : Addr
  f_Groups_origins : FuncData
  a_checked_group : Addr
  f_checked_group : FuncData
  a_Groups_member : Addr
  f_Groups_member : FuncData
  a__law_right : Addr
  f__law_right : FuncData
  a_Groups_init : Addr
  f_Groups_init : FuncData
  a__law_made_groups : Addr
  f__law_made_groups : FuncData
  a_law : Addr
  f_law : FuncData
  C_Groups : Addr
  x_BadGroup : Addr
  i_BadGroup : Addr
  x_BadHost : Addr
  i_BadHost : Addr
  x_Twice : Addr
  i_Twice : Addr
structure Txt (K : PySem.W.Frag) (mg : Str → Option Value) (A : Ad) : Prop where
  m_is_label : mg "is_label" = some (.ref A.a_is_label)
  F_is_label : Fun K "is_label" "is_label" s_is_label A.a_is_label A.f_is_label
  b_is_label : Binds K A.f_is_label ["thing"] []
  m_row_key : mg "row_key" = some (.ref A.a_row_key)
  F_row_key : Fun K "row_key" "row_key" s_row_key A.a_row_key A.f_row_key
  b_row_key : Binds K A.f_row_key ["row"] []
  m_ends_with : mg "ends_with" = some (.ref A.a_ends_with)
  F_ends_with : Fun K "ends_with" "ends_with" s_ends_with A.a_ends_with A.f_ends_with
  b_ends_with : Binds K A.f_ends_with ["host", "labels"] []
  m__law_bag : mg "_law_bag" = some (.ref A.a__law_bag)
  F__law_bag : Fun K "_law_bag" "_law_bag" s__law_bag A.a__law_bag A.f__law_bag
  b__law_bag : Binds K A.f__law_bag ["_law_script"] []
  m__law_take : mg "_law_take" = some (.ref A.a__law_take)
  F__law_take : Fun K "_law_take" "_law_take" s__law_take A.a__law_take A.f__law_take
  b__law_take : Binds K A.f__law_take ["_law_bag_here", "_law_many"] []
  m__law_ends : mg "_law_ends" = some (.ref A.a__law_ends)
  F__law_ends : Fun K "_law_ends" "_law_ends" s__law_ends A.a__law_ends A.f__law_ends
  b__law_ends : Binds K A.f__law_ends ["_law_host_here", "_law_labels"] []
  m__law_texts : mg "_law_texts" = some (.ref A.a__law_texts)
  F__law_texts : Fun K "_law_texts" "_law_texts" s__law_texts A.a__law_texts A.f__law_texts
  b__law_texts : Binds K A.f__law_texts ["_law_group"] []
  m__law_turned : mg "_law_turned" = some (.ref A.a__law_turned)
  F__law_turned : Fun K "_law_turned" "_law_turned" s__law_turned A.a__law_turned A.f__law_turned
  b__law_turned : Binds K A.f__law_turned ["_law_groups_here"] []
  F_Groups_len : Fun K "__len__" "Groups.__len__" s_Groups_len A.a_Groups_len A.f_Groups_len
  b_Groups_len : Binds K A.f_Groups_len ["self"] []
  F_Groups_eq : Fun K "__eq__" "Groups.__eq__" s_Groups_eq A.a_Groups_eq A.f_Groups_eq
  b_Groups_eq : Binds K A.f_Groups_eq ["self", "other"] []
  m_is_path : mg "is_path" = some (.ref A.a_is_path)
  F_is_path : Fun K "is_path" "is_path" s_is_path A.a_is_path A.f_is_path
  b_is_path : Binds K A.f_is_path ["thing"] []
  m_host_key : mg "host_key" = some (.ref A.a_host_key)
  F_host_key : Fun K "host_key" "host_key" s_host_key A.a_host_key A.f_host_key
  b_host_key : Binds K A.f_host_key ["host"] []
  m_member_and_head : mg "member_and_head" = some (.ref A.a_member_and_head)
  F_member_and_head : Fun K "member_and_head" "member_and_head" s_member_and_head A.a_member_and_head A.f_member_and_head
  b_member_and_head : Binds K A.f_member_and_head ["groups", "host"] []
  m__law_of : mg "_law_of" = some (.ref A.a__law_of)
  F__law_of : Fun K "_law_of" "_law_of" s__law_of A.a__law_of A.f__law_of
  b__law_of : Binds K A.f__law_of ["_law_bag_here", "_law_some"] []
  m__law_label : mg "_law_label" = some (.ref A.a__law_label)
  F__law_label : Fun K "_law_label" "_law_label" s__law_label A.a__law_label A.f__law_label
  b__law_label : Binds K A.f__law_label ["_law_bag_here", "_law_most"] []
  m_is_host : mg "is_host" = some (.ref A.a_is_host)
  F_is_host : Fun K "is_host" "is_host" s_is_host A.a_is_host A.f_is_host
  b_is_host : Binds K A.f_is_host ["thing"] []
  m_moved : mg "moved" = some (.ref A.a_moved)
  F_moved : Fun K "moved" "moved" s_moved A.a_moved A.f_moved
  b_moved : Binds K A.f_moved ["groups", "host"] []
  m__law_pool : mg "_law_pool" = some (.ref A.a__law_pool)
  F__law_pool : Fun K "_law_pool" "_law_pool" s__law_pool A.a__law_pool A.f__law_pool
  b__law_pool : Binds K A.f__law_pool ["_law_bag_here", "_law_longest"] []
  m__law_host : mg "_law_host" = some (.ref A.a__law_host)
  F__law_host : Fun K "_law_host" "_law_host" s__law_host A.a__law_host A.f__law_host
  b__law_host : Binds K A.f__law_host ["_law_bag_here", "_law_pool_here", "_law_most"] []
  m__law_groups : mg "_law_groups" = some (.ref A.a__law_groups)
  F__law_groups : Fun K "_law_groups" "_law_groups" s__law_groups A.a__law_groups A.f__law_groups
  b__law_groups : Binds K A.f__law_groups ["_law_bag_here", "_law_pool_here", "_law_most"] []
  m_host_of : mg "host_of" = some (.ref A.a_host_of)
  F_host_of : Fun K "host_of" "host_of" s_host_of A.a_host_of A.f_host_of
  b_host_of : Binds K A.f_host_of ["text"] []
  m_host_text : mg "host_text" = some (.ref A.a_host_text)
  F_host_text : Fun K "host_text" "host_text" s_host_text A.a_host_text A.f_host_text
  b_host_text : Binds K A.f_host_text ["host"] []
  F_Groups_translated : Fun K "translated" "Groups.translated" s_Groups_translated A.a_Groups_translated A.f_Groups_translated
  b_Groups_translated : Binds K A.f_Groups_translated ["self", "host"] []
  F_Groups_origins : Fun K "origins" "Groups.origins" s_Groups_origins A.a_Groups_origins A.f_Groups_origins
  b_Groups_origins : Binds K A.f_Groups_origins ["self", "host"] []
  m_checked_group : mg "checked_group" = some (.ref A.a_checked_group)
  F_checked_group : Fun K "checked_group" "checked_group" s_checked_group A.a_checked_group A.f_checked_group
  b_checked_group : Binds K A.f_checked_group ["group", "taken"] []
  F_Groups_member : Fun K "member" "Groups.member" s_Groups_member A.a_Groups_member A.f_Groups_member
  b_Groups_member : Binds K A.f_Groups_member ["self", "host"] []
  m__law_right : mg "_law_right" = some (.ref A.a__law_right)
  F__law_right : Fun K "_law_right" "_law_right" s__law_right A.a__law_right A.f__law_right
  b__law_right : Binds K A.f__law_right ["_law_made", "_law_turned_here", "_law_groups_here", "_law_host_here", "_law_label_here"] []
  F_Groups_init : Fun K "__init__" "Groups.__init__" s_Groups_init A.a_Groups_init A.f_Groups_init
  bs_Groups_init : ∀ us rest : List Value, us.length = 1 → bindArgs A.f_Groups_init ⟨us ++ rest, []⟩ = (newTuple rest >>= fun t => pure ((["self"] : List Str).zip us ++ [(("groups" : Str), t)]))
  m__law_made_groups : mg "_law_made_groups" = some (.ref A.a__law_made_groups)
  F__law_made_groups : Fun K "_law_made_groups" "_law_made_groups" s__law_made_groups A.a__law_made_groups A.f__law_made_groups
  b__law_made_groups : Binds K A.f__law_made_groups ["_law_groups_here"] []
  m_law : mg "law" = some (.ref A.a_law)
  F_law : Fun K "law" "law" s_law A.a_law A.f_law
  b_law : Binds K A.f_law ["_law_script"] []
  C_Groups : ClsN K mg "Groups" A.C_Groups
  na_Groups : ∀ f ∈ (["hosts", "groups"] : List Str), NoAttr K A.C_Groups f
  M_Groups : Mk K A.C_Groups A.a_Groups_init
  mt_Groups_member : Meth K A.C_Groups "member" A.a_Groups_member
  mt_Groups_origins : Meth K A.C_Groups "origins" A.a_Groups_origins
  mt_Groups_translated : Meth K A.C_Groups "translated" A.a_Groups_translated
  ln_Groups : PySem.W.findIn K (.ref A.C_Groups) "__len__" = some (some (.ref A.a_Groups_len)) ∧ PySem.W.isFn K (.ref A.a_Groups_len) = true
  eq_Groups : PySem.W.findIn K (.ref A.C_Groups) "__eq__" = some (some (.ref A.a_Groups_eq)) ∧ PySem.W.isFn K (.ref A.a_Groups_eq) = true ∧ (∀ T ∈ baseTys, PySem.W.notFirst K A.C_Groups (.type T) = true) ∧ (∀ c' ∈ (["Groups"] : List Str), ∀ C', mg c' = some (.ref C') → PySem.W.notFirst K A.C_Groups (.ref C') = true) ∧ PySem.W.findIn K (.ref A.C_Groups) "__ne__" = some (some (.builtin "object.__ne__"))
  is_Groups : IsT K mg (.ref A.C_Groups) [("Groups", true)] noneOfB
  x_BadGroup : PySem.OwnX.OwnTxt K mg "BadGroup" "group" "BadGroup.__init__" A.x_BadGroup A.i_BadGroup
  x_BadHost : PySem.OwnX.OwnTxt K mg "BadHost" "host" "BadHost.__init__" A.x_BadHost A.i_BadHost
  x_Twice : PySem.OwnX.OwnTxt K mg "Twice" "name" "Twice.__init__" A.x_Twice A.i_Twice
  z_abs : mg "abs" = none
  z_enumerate : mg "enumerate" = none
  z_int : mg "int" = none
  z_isinstance : mg "isinstance" = none
  z_len : mg "len" = none
  z_list : mg "list" = none
  z_range : mg "range" = none
  z_sorted : mg "sorted" = none
  z_str : mg "str" = none
  z_tuple : mg "tuple" = none
  c_CHARACTERS : GlobIs K mg "CHARACTERS" c_CHARACTERS
  c_LEAST_OF_GROUP : GlobIs K mg "LEAST_OF_GROUP" c_LEAST_OF_GROUP
  c_LONGEST_LABEL : GlobIs K mg "LONGEST_LABEL" c_LONGEST_LABEL
  c_MOST_GROUPS : GlobIs K mg "MOST_GROUPS" c_MOST_GROUPS
  c_MOST_LABELS : GlobIs K mg "MOST_LABELS" c_MOST_LABELS
  c_MOST_LABELS_OF_MEMBER : GlobIs K mg "MOST_LABELS_OF_MEMBER" c_MOST_LABELS_OF_MEMBER
  c_MOST_OF_GROUP : GlobIs K mg "MOST_OF_GROUP" c_MOST_OF_GROUP
section
variable {P : Program} {w : World} {K : PySem.W.Frag} {mg : Str → Option Value} {base : Heap} {A : Ad} [DL.TC]
theorem fo_groups (T : Txt K mg A) : FldOk K mg "groups" ["Groups"] := fun c hc => by
  simp only [List.mem_cons, List.not_mem_nil, or_false] at hc
  rcases hc with rfl
  · exact ⟨_, T.C_Groups.mg, T.C_Groups.cl, T.na_Groups _ (by decide +kernel)⟩
theorem fo_hosts (T : Txt K mg A) : FldOk K mg "hosts" ["Groups"] := fun c hc => by
  simp only [List.mem_cons, List.not_mem_nil, or_false] at hc
  rcases hc with rfl
  · exact ⟨_, T.C_Groups.mg, T.C_Groups.cl, T.na_Groups _ (by decide +kernel)⟩
theorem g_is_label (T : Txt K mg A) : FnG P w K mg base 1 A.a_is_label A.f_is_label ["thing"] (spR K mg false 1 m_is_label_344b) := by
  refine fnR (nr := false) (k := 0) T.F_is_label sc_is_label rfl (by decide) (fun cdv Ar outer s H Hf E ds C hl => ?_)
  match ds, hl with
  | [a0], _ => exact ⟨b_is_label_344b a0, (dss_if (exA := fun (q7 : Unit) => [.im a0, .un]) (dw_or (dt_not (dt_tru (de_isi "str" (de_var 0) (by rfl) T.z_isinstance (by rfl) T.z_str rfl))) (dw_or1 (dt_not (dt_chain (od_le C.rm.units) (od_le C.rm.units) de_int (de_callB oc_len (by rfl) T.z_len rfl (da_cons (de_var 0) da_nil)) (de_globI (by rfl) T.c_LONGEST_LABEL))))).pt (dss_ret de_bl) (dss_nil (a := ()) (And.intro (Or.inl rfl) (And.intro (Or.inr rfl) (trivial)))) fun q7 => (dss_ret (de_not (de_frz (df_lc [("sign", 1)] C (di_any (de_var 0)) (blkOk_by (N := N_is_label) (sc := defScope s_is_label) (by decide +kernel)) (fun s H A cl fp => (pgd_name (C.blk _ _ _ _ _) 1)) (fun s H A cl fp C10 c11 => (pts_test (dt_cmp (od_notIn (hu65 C10.rm)) (de_var 1) (de_globI (by rfl) T.c_CHARACTERS) (by rfl)))) (fun s H A cl fp C10 c11 => (de_var 1)) (by decide)))))), rfl⟩
theorem g_row_key (T : Txt K mg A) : FnG P w K mg base 1 A.a_row_key A.f_row_key ["row"] (spR K mg false 1 m_row_key_aaf9) := by
  refine fnR (nr := false) (k := 0) T.F_row_key sc_row_key rfl (by decide) (fun cdv Ar outer s H Hf E ds C hl => ?_)
  match ds, hl with
  | [a0], _ => exact ⟨b_row_key_aaf9 a0, (dss_ret (de_tup (da_cons (de_callB oc_len (by rfl) T.z_len rfl (da_cons (de_var 0) da_nil)) (da_cons (de_callTy oc_tuple (by rfl) T.z_tuple rfl (da_cons (de_frz (df_lc [("label", 1)] C (di_any (de_var 0)) (blkOk_by (N := N_row_key) (sc := defScope s_row_key) (by decide +kernel)) (fun s H A cl fp => (pgd_name (C.blk _ _ _ _ _) 1)) (fun s H A cl fp C5 c6 => pts_true) (fun s H A cl fp C5 c6 => (de_tup (da_cons (de_callB oc_len (by rfl) T.z_len rfl (da_cons (de_var 1) da_nil)) (da_cons (de_var 1) da_nil)))) (by decide))) da_nil)) da_nil)))), rfl⟩
theorem g_ends_with (T : Txt K mg A) : FnG P w K mg base 1 A.a_ends_with A.f_ends_with ["host", "labels"] (spR K mg false 2 m_ends_with_d715) := by
  refine fnR (nr := false) (k := 0) T.F_ends_with sc_ends_with rfl (by decide) (fun cdv Ar outer s H Hf E ds C hl => ?_)
  match ds, hl with
  | [a0, a1], _ => exact ⟨b_ends_with_d715 a0 a1, (dss_ret (de_and (de_cmp (od_ge C.rm.units) (de_callB oc_len (by rfl) T.z_len rfl (da_cons (de_var 0) da_nil)) (de_callB oc_len (by rfl) T.z_len rfl (da_cons (de_var 1) da_nil)) (by rfl)) (de_one (de_cmp (od_eq C.rm.units) (de_sl (de_var 0) (do_some (de_op od_sub (de_callB oc_len (by rfl) T.z_len rfl (da_cons (de_var 0) da_nil)) (de_callB oc_len (by rfl) T.z_len rfl (da_cons (de_var 1) da_nil)))) do_none) (de_var 1) (by rfl))))), rfl⟩
theorem g__law_bag (T : Txt K mg A) : FnG P w K mg base 1 A.a__law_bag A.f__law_bag ["_law_script"] (spR K mg false 1 m__law_bag_d7b5) := by
  refine fnR (nr := false) (k := 0) T.F__law_bag sc__law_bag rfl (by decide) (fun cdv Ar outer s H Hf E ds C hl => ?_)
  match ds, hl with
  | [a0], _ => exact ⟨b__law_bag_d7b5 a0, (dss_asg C 1 de_int fun v1 => (dss_for (exl := fun (q3 : D) => [.im a0, .im q3, .un]) v1 C (di_any (de_var 0)) (pgd_name C 2) (And.intro (Or.inl rfl) (And.intro (Or.inl rfl) (And.intro (Or.inr rfl) (trivial)))) (fun q3 c4 => (dss_if (exA := fun (q10 : D) => [.im a0, .im q10, .im c4]) (dt_cmp (od_lt C.rm.units) (de_callB oc_abs (by rfl) T.z_abs rfl (da_cons (de_var 2) da_nil)) (de_op od_powC de_int de_int) (by rfl)) (dss_asg C 1 (de_op od_mod (de_callTy oc_int (by rfl) T.z_int rfl (da_cons (de_op od_add (de_op od_add (de_op od_mul (de_var 1) de_int) (de_op od_mul (de_var 2) de_int)) de_int) da_nil)) de_int) fun v11 => (dss_nil (a := v11) (And.intro (Or.inl rfl) (And.intro (Or.inl rfl) (And.intro (Or.inl rfl) (trivial)))))) (dss_nil (a := q3) (And.intro (Or.inl rfl) (And.intro (Or.inl rfl) (And.intro (Or.inl rfl) (trivial))))) fun q10 => (dss_nil (a := q10) (And.intro (Or.inl rfl) (And.intro (Or.inl rfl) (And.intro (Or.inr rfl) (trivial))))))) fun q26 => (dss_ret (de_frz (df_list (da_cons (de_frz (df_lc [("_law_cell", 2)] C (di_any (de_var 0)) (blkOk_by (N := N__law_bag) (sc := defScope s__law_bag) (by decide +kernel)) (fun s H A cl fp => (pgd_name (C.blk _ _ _ _ _) 2)) (fun s H A cl fp C28 c29 => (pts_test (dt_cmp (od_ge C28.rm.units) (de_callB oc_abs (by rfl) T.z_abs rfl (da_cons (de_var 2) da_nil)) (de_op od_powC de_int de_int) (by rfl)))) (fun s H A cl fp C28 c29 => (de_callB oc_abs (by rfl) T.z_abs rfl (da_cons (de_var 2) da_nil))) (by decide))) (da_cons (de_var 1) (da_cons de_int da_nil)))))))), rfl⟩
theorem g__law_take (T : Txt K mg A) : FnG P w K mg base 1 A.a__law_take A.f__law_take ["_law_bag_here", "_law_many"] (spM K mg false (1 + 1) m__law_take_bb49) := by
  refine fnM (nr := false) (k := 0) T.F__law_take sc__law_take rfl (by decide) (fun cdv Ar outer s H Hf bag E ds C hl => ?_)
  match ds, hl with
  | [a1], _ => exact ⟨b__law_take_bb49 a1, (dss_bagWhile C (dw_and (dt_bagNe C 0) (dw_and1 (dt_cmp (od_eq C.rm.units) (de_bagHd 0) de_int (by rfl)))).pt (dss_bagPop 0 (dss_nil (a := ()) (And.intro (Or.inl rfl) (And.intro (Or.inl rfl) (And.intro (Or.inr rfl) (And.intro (Or.inr rfl) (trivial))))))) (dss_if (exA := fun (q3 : Unit) => [.bg, .im a1, .un, .un]) (dt_bagNe C 0) (dss_asg C 3 (de_op od_mod (de_callTy oc_int (by rfl) T.z_int rfl (da_cons (de_bagHd 0) da_nil)) (de_var 1)) fun v4 => (dss_bagSetHd 0 (de_op od_fdiv (de_bagHd 0) (de_var 1)) (dss_ret (de_var 3)))) (dss_nil (a := ()) (And.intro (Or.inl rfl) (And.intro (Or.inl rfl) (And.intro (Or.inr rfl) (And.intro (Or.inr rfl) (trivial)))))) fun q3 => (dss_bagSetZ 0 (de_op od_add (de_bagZ 0) de_int) (dss_asg C 2 (de_op od_mod (de_callTy oc_int (by rfl) T.z_int rfl (da_cons (de_op od_powC (de_op od_add (de_bagY3 0) (de_op od_mul de_int (de_bagZ 0))) de_int) da_nil)) de_int) fun v19 => (dss_asg C 2 (de_op od_mod (de_callTy oc_int (by rfl) T.z_int rfl (da_cons (de_op od_powC (de_op od_add (de_var 2) (de_op od_mul de_int (de_bagZ 0))) de_int) da_nil)) de_int) fun v31 => (dss_ret (de_op od_mod (de_callTy oc_int (by rfl) T.z_int rfl (da_cons (de_op od_fdiv (de_var 2) de_int) da_nil)) (de_var 1)))))))), rfl⟩
theorem g__law_ends (T : Txt K mg A) : FnG P w K mg base 1 A.a__law_ends A.f__law_ends ["_law_host_here", "_law_labels"] (spR K mg false 2 m__law_ends_f9cd) := by
  refine fnR (nr := false) (k := 0) T.F__law_ends sc__law_ends rfl (by decide) (fun cdv Ar outer s H Hf E ds C hl => ?_)
  match ds, hl with
  | [a0, a1], _ => exact ⟨b__law_ends_f9cd a0 a1, (dss_ret (de_and (de_cmp (od_ge C.rm.units) (de_callB oc_len (by rfl) T.z_len rfl (da_cons (de_var 0) da_nil)) (de_callB oc_len (by rfl) T.z_len rfl (da_cons (de_var 1) da_nil)) (by rfl)) (de_one (de_cmp (od_eq C.rm.units) (de_sl (de_var 0) (do_some (de_op od_sub (de_callB oc_len (by rfl) T.z_len rfl (da_cons (de_var 0) da_nil)) (de_callB oc_len (by rfl) T.z_len rfl (da_cons (de_var 1) da_nil)))) do_none) (de_var 1) (by rfl))))), rfl⟩
theorem g__law_texts (T : Txt K mg A) : FnG P w K mg base 1 A.a__law_texts A.f__law_texts ["_law_group"] (spR K mg false 1 m__law_texts_372f) := by
  refine fnR (nr := false) (k := 0) T.F__law_texts sc__law_texts rfl (by decide) (fun cdv Ar outer s H Hf E ds C hl => ?_)
  match ds, hl with
  | [a0], _ => exact ⟨b__law_texts_372f a0, (dss_ret (de_frz (df_lc [("_law_host_here", 1)] C (di_any (de_var 0)) (blkOk_by (N := N__law_texts) (sc := defScope s__law_texts) (by decide +kernel)) (fun s H A cl fp => (pgd_name (C.blk _ _ _ _ _) 1)) (fun s H A cl fp C2 c3 => pts_true) (fun s H A cl fp C2 c3 => (de_join (de_str [46]) (de_var 1))) (by decide)))), rfl⟩
theorem g__law_turned (T : Txt K mg A) : FnG P w K mg base 1 A.a__law_turned A.f__law_turned ["_law_groups_here"] (spR K mg false 1 m__law_turned_2db7) := by
  refine fnR (nr := false) (k := 0) T.F__law_turned sc__law_turned rfl (by decide) (fun cdv Ar outer s H Hf E ds C hl => ?_)
  match ds, hl with
  | [a0], _ => exact ⟨b__law_turned_2db7 a0, (pss_k (k__law_turned_2db7_0.eq_1 _) (dss_ret (de_frz (df_lc [("_law_group", 1)] C (di_any (de_rev (de_var 0))) (blkOk_by (N := N__law_turned) (sc := defScope s__law_turned) (by decide +kernel)) (fun s H A cl fp => (pgd_name (C.blk _ _ _ _ _) 1)) (fun s H A cl fp C3 c4 => pts_true) (fun s H A cl fp C3 c4 => (de_op od_add (de_sl (de_var 1) do_none (do_some de_int)) (de_revTo1 (de_var 1)))) (by decide))))), rfl⟩
theorem g_Groups_len (T : Txt K mg A) : FnG P w K mg base 1 A.a_Groups_len A.f_Groups_len ["self"] (spR K mg false 1 m_Groups_len_7d19) := by
  refine fnR (nr := false) (k := 0) T.F_Groups_len sc_Groups_len rfl (by decide) (fun cdv Ar outer s H Hf E ds C hl => ?_)
  match ds, hl with
  | [a0], _ => exact ⟨b_Groups_len_7d19 a0, (dss_ret (de_callB oc_len (by rfl) T.z_len rfl (da_cons (de_fld ["Groups"] (de_var 0) (fo_groups T)) da_nil))), rfl⟩
theorem ln_all (T : Txt K mg A) : ∀ q ∈ ([("Groups", m_Groups_len_7d19)] : List (Str × (List D → R D))), DunC P w K mg base 1 1 "__len__" q.1 q.2 := fun q hq => by
  simp only [List.mem_cons, List.not_mem_nil, or_false] at hq
  rcases hq with rfl
  · exact ⟨_, _, T.C_Groups, T.ln_Groups.1, T.ln_Groups.2, ((g_Groups_len T).pos T.b_Groups_len).mono (by decide)⟩
theorem g_Groups_eq (T : Txt K mg A) : FnG P w K mg base 1 A.a_Groups_eq A.f_Groups_eq ["self", "other"] (spR K mg false 2 m_Groups_eq_0dba) := by
  refine fnR (nr := false) (k := 0) T.F_Groups_eq sc_Groups_eq rfl (by decide) (fun cdv Ar outer s H Hf E ds C hl => ?_)
  match ds, hl with
  | [a0, a1], _ => exact ⟨b_Groups_eq_0dba a0 a1, (dss_ret (de_and (de_isT (.own _) T.is_Groups (de_var 1) (pe_own T.C_Groups.mg) (by rfl) T.z_isinstance) (de_one (de_cmp (od_eq C.rm.units) (de_fld ["Groups"] (de_var 0) (fo_groups T)) (de_fld ["Groups"] (de_var 1) (fo_groups T)) (by rfl))))), rfl⟩
theorem eq_all (T : Txt K mg A) : ∀ q ∈ ([("Groups", m_Groups_eq_0dba)] : List (Str × (List D → R D))), EqC P w K mg base 1 (([("Groups", m_Groups_eq_0dba)] : List (Str × (List D → R D))).map Prod.fst) q.1 q.2 := fun q hq => by
  simp only [List.mem_cons, List.not_mem_nil, or_false] at hq
  rcases hq with rfl
  · exact ⟨_, _, T.C_Groups, T.eq_Groups.1, T.eq_Groups.2.1, ((g_Groups_eq T).pos T.b_Groups_eq).mono (by decide), T.eq_Groups.2.2.1, T.eq_Groups.2.2.2.1, T.eq_Groups.2.2.2.2⟩
theorem g_is_path (T : Txt K mg A) : FnG P w K mg base 2 A.a_is_path A.f_is_path ["thing"] (spR K mg false 1 m_is_path_08e1) := by
  refine fnR (nr := false) (k := 1) T.F_is_path sc_is_path rfl (by decide) (fun cdv Ar outer s H Hf E ds C hl => ?_)
  match ds, hl with
  | [a0], _ => exact ⟨b_is_path_08e1 a0, (dss_if (exA := fun (q8 : Unit) => [.im a0, .un]) (dw_or (dt_not (dt_tru (de_isi "tuple" (de_var 0) (by rfl) T.z_isinstance (by rfl) T.z_tuple rfl))) (dw_or1 (dt_cmp (od_gt C.rm.units) (de_callB oc_len (by rfl) T.z_len rfl (da_cons (de_var 0) da_nil)) (de_globI (by rfl) T.c_MOST_LABELS) (by rfl)))).pt (dss_ret de_bl) (dss_nil (a := ()) (And.intro (Or.inl rfl) (And.intro (Or.inr rfl) (trivial)))) fun q8 => (dss_ret (de_not (de_frz (df_lc [("label", 1)] C (di_any (de_var 0)) (blkOk_by (N := N_is_path) (sc := defScope s_is_path) (by decide +kernel)) (fun s H A cl fp => (pgd_name (C.blk _ _ _ _ _) 1)) (fun s H A cl fp C11 c12 => (pts_test (dt_not (dt_tru (de_fn C11 (g_is_label T) T.m_is_label T.F_is_label.kp T.b_is_label (da_cons (de_var 1) da_nil) n_is_label_344b))))) (fun s H A cl fp C11 c12 => (de_var 1)) (by decide)))))), rfl⟩
theorem g_host_key (T : Txt K mg A) : FnG P w K mg base 2 A.a_host_key A.f_host_key ["host"] (spR K mg false 1 m_host_key_aabf) := by
  refine fnR (nr := false) (k := 1) T.F_host_key sc_host_key rfl (by decide) (fun cdv Ar outer s H Hf E ds C hl => ?_)
  match ds, hl with
  | [a0], _ => exact ⟨b_host_key_aabf a0, (dss_ret (de_fn C (g_row_key T) T.m_row_key T.F_row_key.kp T.b_row_key (da_cons (de_rev (de_var 0)) da_nil) n_row_key_aaf9)), rfl⟩
theorem g_member_and_head (T : Txt K mg A) : FnG P w K mg base 2 A.a_member_and_head A.f_member_and_head ["groups", "host"] (spR K mg false 2 m_member_and_head_c6a4) := by
  refine fnR (nr := false) (k := 1) T.F_member_and_head sc_member_and_head rfl (by decide) (fun cdv Ar outer s H Hf E ds C hl => ?_)
  match ds, hl with
  | [a0, a1], _ => exact ⟨b_member_and_head_c6a4 a0 a1, (dss_asg C 2 de_non fun v1 => (dss_for (exl := fun (q3 : D) => [.im a0, .im a1, .im q3, .un, .un]) v1 C (di_any (de_var 0)) (pgd_name C 3) (And.intro (Or.inl rfl) (And.intro (Or.inl rfl) (And.intro (Or.inl rfl) (And.intro (Or.inr rfl) (And.intro (Or.inr rfl) (trivial)))))) (fun q3 c4 => (dss_for (exl := fun (q6 : D) => [.im a0, .im a1, .im q6, .im c4, .un]) q3 C (di_any (de_var 3)) (pgd_name C 4) (And.intro (Or.inl rfl) (And.intro (Or.inl rfl) (And.intro (Or.inl rfl) (And.intro (Or.inl rfl) (And.intro (Or.inr rfl) (trivial)))))) (fun q6 c7 => (dss_if (exA := fun (q26 : D) => [.im a0, .im a1, .im q26, .im c4, .im c7]) (dw_and (dt_tru (de_fn C (g_ends_with T) T.m_ends_with T.F_ends_with.kp T.b_ends_with (da_cons (de_var 1) (da_cons (de_var 4) da_nil)) n_ends_with_d715)) (dw_and1 (dw_or (dt_cmp od_is (de_var 2) de_non (by rfl)) (dw_or1 (dt_cmp (od_gt C.rm.units) (de_callB oc_len (by rfl) T.z_len rfl (da_cons (de_var 4) da_nil)) (de_callB oc_len (by rfl) T.z_len rfl (da_cons (de_ix (de_var 2) de_int) da_nil)) (by rfl)))).pt)).pt (dss_asg C 2 (de_tup (da_cons (de_var 4) (da_cons (de_ix (de_var 3) de_int) da_nil))) fun v27 => (dss_nil (a := v27) (And.intro (Or.inl rfl) (And.intro (Or.inl rfl) (And.intro (Or.inl rfl) (And.intro (Or.inl rfl) (And.intro (Or.inl rfl) (trivial)))))))) (dss_nil (a := q6) (And.intro (Or.inl rfl) (And.intro (Or.inl rfl) (And.intro (Or.inl rfl) (And.intro (Or.inl rfl) (And.intro (Or.inl rfl) (trivial))))))) fun q26 => (dss_nil (a := q26) (And.intro (Or.inl rfl) (And.intro (Or.inl rfl) (And.intro (Or.inl rfl) (And.intro (Or.inl rfl) (And.intro (Or.inr rfl) (trivial))))))))) fun q37 => (dss_nil (a := q37) (And.intro (Or.inl rfl) (And.intro (Or.inl rfl) (And.intro (Or.inl rfl) (And.intro (Or.inr rfl) (And.intro (Or.inr rfl) (trivial))))))))) fun q39 => (dss_ret (de_var 2)))), rfl⟩
theorem g__law_of (T : Txt K mg A) : FnG P w K mg base 2 A.a__law_of A.f__law_of ["_law_bag_here", "_law_some"] (spM K mg false (1 + 1) m__law_of_8ba0) := by
  refine fnM (nr := false) (k := 1) T.F__law_of sc__law_of rfl (by decide) (fun cdv Ar outer s H Hf bag E ds C hl => ?_)
  match ds, hl with
  | [a1], _ => exact ⟨b__law_of_8ba0 a1, (dss_ret (de_ix (de_var 1) (de_fnM C 0 (g__law_take T) T.m__law_take T.F__law_take.kp T.b__law_take (da_cons (de_callB oc_len (by rfl) T.z_len rfl (da_cons (de_var 1) da_nil)) da_nil) n__law_take_bb49))), rfl⟩
theorem g__law_label (T : Txt K mg A) : FnG P w K mg base 2 A.a__law_label A.f__law_label ["_law_bag_here", "_law_most"] (spM K mg false (1 + 1) m__law_label_b886) := by
  refine fnM (nr := false) (k := 1) T.F__law_label sc__law_label rfl (by decide) (fun cdv Ar outer s H Hf bag E ds C hl => ?_)
  match ds, hl with
  | [a1], _ => exact ⟨b__law_label_b886 a1, (dss_asg C 2 (de_str [48, 49, 50, 51, 52, 53, 54, 55, 56, 57, 97, 98, 99, 100, 101, 102, 103, 104, 105, 106, 107, 108, 109, 110, 111, 112, 113, 114, 115, 116, 117, 118, 119, 120, 121, 122]) fun v1 => (dss_ret (de_join (de_str []) (de_frz (df_lc [("_law_k", 3)] C (di_range1 (by rfl) T.z_range (da_cons (de_op od_add de_int (de_fnM C 0 (g__law_take T) T.m__law_take T.F__law_take.kp T.b__law_take (da_cons (de_var 1) da_nil) n__law_take_bb49)) da_nil)) (blkOk_by (N := N__law_label) (sc := defScope s__law_label) (by decide +kernel)) (fun s H A cl fp => (pgd_name (C.blk _ _ _ _ _) 3)) (fun s H A cl fp C10 c11 => pts_true) (fun s H A cl fp C10 c11 => (de_ix (de_var 2) (de_fnM C10 0 (g__law_take T) T.m__law_take T.F__law_take.kp T.b__law_take (da_cons de_int da_nil) n__law_take_bb49))) (by decide)))))), rfl⟩
theorem g_is_host (T : Txt K mg A) : FnG P w K mg base 3 A.a_is_host A.f_is_host ["thing"] (spR K mg false 1 m_is_host_45ba) := by
  refine fnR (nr := false) (k := 2) T.F_is_host sc_is_host rfl (by decide) (fun cdv Ar outer s H Hf E ds C hl => ?_)
  match ds, hl with
  | [a0], _ => exact ⟨b_is_host_45ba a0, (dss_ret (de_and (de_fn C (g_is_path T) T.m_is_path T.F_is_path.kp T.b_is_path (da_cons (de_var 0) da_nil) n_is_path_08e1) (de_one (de_cmp (od_gt C.rm.units) (de_callB oc_len (by rfl) T.z_len rfl (da_cons (de_var 0) da_nil)) de_int (by rfl))))), rfl⟩
theorem g_moved (T : Txt K mg A) : FnG P w K mg base 3 A.a_moved A.f_moved ["groups", "host"] (spR K mg false 2 m_moved_8ac7) := by
  refine fnR (nr := false) (k := 2) T.F_moved sc_moved rfl (by decide) (fun cdv Ar outer s H Hf E ds C hl => ?_)
  match ds, hl with
  | [a0, a1], _ => exact ⟨b_moved_8ac7 a0 a1, (dss_asg C 2 (de_fn C (g_member_and_head T) T.m_member_and_head T.F_member_and_head.kp T.b_member_and_head (da_cons (de_var 0) (da_cons (de_var 1) da_nil)) n_member_and_head_c6a4) fun v1 => (dss_if (exA := fun (q9 : Unit) => [.im a0, .im a1, .im v1, .un, .un]) (dt_cmp od_is (de_var 2) de_non (by rfl)) (dss_ret (de_var 1)) (dss_nil (a := ()) (And.intro (Or.inl rfl) (And.intro (Or.inl rfl) (And.intro (Or.inl rfl) (And.intro (Or.inr rfl) (And.intro (Or.inr rfl) (trivial))))))) fun q9 => (dss_unp (pgd_tup2 C 3 4) (de_var 2) fun c12 => (dss_ret (de_op od_add (de_sl (de_var 1) do_none (do_some (de_op od_sub (de_callB oc_len (by rfl) T.z_len rfl (da_cons (de_var 1) da_nil)) (de_callB oc_len (by rfl) T.z_len rfl (da_cons (de_var 3) da_nil))))) (de_var 4)))))), rfl⟩
theorem g__law_pool (T : Txt K mg A) : FnG P w K mg base 3 A.a__law_pool A.f__law_pool ["_law_bag_here", "_law_longest"] (spM K mg false (1 + 1) m__law_pool_b280) := by
  refine fnM (nr := false) (k := 2) T.F__law_pool sc__law_pool rfl (by decide) (fun cdv Ar outer s H Hf bag E ds C hl => ?_)
  match ds, hl with
  | [a1], _ => exact ⟨b__law_pool_b280 a1, (dss_asg C 2 (de_ifExp (dt_cmp (od_eq C.rm.units) (de_fnM C 0 (g__law_take T) T.m__law_take T.F__law_take.kp T.b__law_take (da_cons de_int da_nil) n__law_take_bb49) de_int (by rfl)) (de_var 1) de_int) fun v1 => (dss_ret (de_frz (df_lc [("_law_k", 3)] C (di_range1 (by rfl) T.z_range (da_cons (de_op od_add de_int (de_fnM C 0 (g__law_take T) T.m__law_take T.F__law_take.kp T.b__law_take (da_cons de_int da_nil) n__law_take_bb49)) da_nil)) (blkOk_by (N := N__law_pool) (sc := defScope s__law_pool) (by decide +kernel)) (fun s H A cl fp => (pgd_name (C.blk _ _ _ _ _) 3)) (fun s H A cl fp C15 c16 => pts_true) (fun s H A cl fp C15 c16 => (de_fnM C15 0 (g__law_label T) T.m__law_label T.F__law_label.kp T.b__law_label (da_cons (de_var 2) da_nil) n__law_label_b886)) (by decide))))), rfl⟩
theorem g__law_host (T : Txt K mg A) : FnG P w K mg base 3 A.a__law_host A.f__law_host ["_law_bag_here", "_law_pool_here", "_law_most"] (spM K mg false (2 + 1) m__law_host_9bb9) := by
  refine fnM (nr := false) (k := 2) T.F__law_host sc__law_host rfl (by decide) (fun cdv Ar outer s H Hf bag E ds C hl => ?_)
  match ds, hl with
  | [a1, a2], _ => exact ⟨b__law_host_9bb9 a1 a2, (dss_asgOw C 3 (df_list da_nil) fun v1 => (dss_for (exl := fun (q11 : List D) => [.bg, .im a1, .im a2, .ow q11, .un]) v1 C (di_range1 (by rfl) T.z_range (da_cons (de_op od_add de_int (de_fnM C 0 (g__law_take T) T.m__law_take T.F__law_take.kp T.b__law_take (da_cons (de_var 2) da_nil) n__law_take_bb49)) da_nil)) (pgd_name C 4) (And.intro (Or.inl rfl) (And.intro (Or.inl rfl) (And.intro (Or.inl rfl) (And.intro (Or.inl rfl) (And.intro (Or.inr rfl) (trivial)))))) (fun q11 c12 => (dss_append 3 (de_ifExp (dt_cmp (od_eq C.rm.units) (de_fnM C 0 (g__law_take T) T.m__law_take T.F__law_take.kp T.b__law_take (da_cons de_int da_nil) n__law_take_bb49) de_int (by rfl)) (de_fnM C 0 (g__law_label T) T.m__law_label T.F__law_label.kp T.b__law_label (da_cons de_int da_nil) n__law_label_b886) (de_fnM C 0 (g__law_of T) T.m__law_of T.F__law_of.kp T.b__law_of (da_cons (de_var 1) da_nil) n__law_of_8ba0)) fun v14 => (dss_nil (a := v14) (And.intro (Or.inl rfl) (And.intro (Or.inl rfl) (And.intro (Or.inl rfl) (And.intro (Or.inl rfl) (And.intro (Or.inr rfl) (trivial))))))))) fun q26 => (dss_frz 3 rfl (dss_ret (de_callTy oc_tuple (by rfl) T.z_tuple rfl (da_cons (de_var 3) da_nil)))))), rfl⟩
theorem g__law_groups (T : Txt K mg A) : FnG P w K mg base 3 A.a__law_groups A.f__law_groups ["_law_bag_here", "_law_pool_here", "_law_most"] (spM K mg false (2 + 1) m__law_groups_b486) := by
  refine fnM (nr := false) (k := 2) T.F__law_groups sc__law_groups rfl (by decide) (fun cdv Ar outer s H Hf bag E ds C hl => ?_)
  match ds, hl with
  | [a1, a2], _ => exact ⟨b__law_groups_b486 a1 a2, (dss_parFF C 4 5 (df_list da_nil) (df_list da_nil) fun v1 v2 => (pss_k (k__law_groups_b486_4.eq_1 _ _ _ _) (dss_for (exl := fun (q13 : List D × List D) => [.bg, .im a1, .im a2, .un, .ow q13.1, .ow q13.2, .un, .un, .un, .un]) (v1, v2) C (di_range1 (by rfl) T.z_range (da_cons (de_fnM C 0 (g__law_take T) T.m__law_take T.F__law_take.kp T.b__law_take (da_cons (de_op od_add (de_var 2) de_int) da_nil) n__law_take_bb49) da_nil)) (pgd_name C 3) (And.intro (Or.inl rfl) (And.intro (Or.inl rfl) (And.intro (Or.inl rfl) (And.intro (Or.inr rfl) (And.intro (Or.inl rfl) (And.intro (Or.inl rfl) (And.intro (Or.inr rfl) (And.intro (Or.inr rfl) (And.intro (Or.inr rfl) (And.intro (Or.inr rfl) (trivial))))))))))) (fun q13 c14 => (dss_asgOw C 6 (df_list da_nil) fun v15 => (pss_k (k__law_groups_b486_3.eq_1 _ _ _) (dss_for (exl := fun (q25 : List D × List D) => [.bg, .im a1, .im a2, .im c14, .ow q25.1, .ow q13.2, .ow q25.2, .un, .un, .un]) (q13.1, v15) C (di_range1 (by rfl) T.z_range (da_cons (de_op od_add de_int (de_fnM C 0 (g__law_take T) T.m__law_take T.F__law_take.kp T.b__law_take (da_cons de_int da_nil) n__law_take_bb49)) da_nil)) (pgd_name C 7) (And.intro (Or.inl rfl) (And.intro (Or.inl rfl) (And.intro (Or.inl rfl) (And.intro (Or.inl rfl) (And.intro (Or.inl rfl) (And.intro (Or.inl rfl) (And.intro (Or.inl rfl) (And.intro (Or.inr rfl) (And.intro (Or.inr rfl) (And.intro (Or.inr rfl) (trivial))))))))))) (fun q25 c26 => (pss_k (k__law_groups_b486_1.eq_1 _ _) (dss_asg C 8 (de_callTy oc_tuple (by rfl) T.z_tuple rfl (da_cons (de_frz (df_lc [("_law_i", 9)] C (di_range1 (by rfl) T.z_range (da_cons (de_op od_add de_int (de_fnM C 0 (g__law_take T) T.m__law_take T.F__law_take.kp T.b__law_take (da_cons de_int da_nil) n__law_take_bb49)) da_nil)) (blkOk_by (N := N__law_groups) (sc := defScope s__law_groups) (by decide +kernel)) (fun s H A cl fp => (pgd_name (C.blk _ _ _ _ _) 9)) (fun s H A cl fp C36 c37 => pts_true) (fun s H A cl fp C36 c37 => (de_fnM C36 0 (g__law_of T) T.m__law_of T.F__law_of.kp T.b__law_of (da_cons (de_var 1) da_nil) n__law_of_8ba0)) (by decide))) da_nil)) fun v27 => (pss_k (k__law_groups_b486_0.eq_1 _ _) (dss_if (exA := fun (q48 : List D × List D) => [.bg, .im a1, .im a2, .im c14, .ow q48.1, .ow q13.2, .ow q48.2, .im c26, .im v27, .un]) (dt_thaw 4 (dt_cmp (od_notIn (hu65 C.rm)) (de_var 8) (de_var 4) (by rfl))) (dss_append 4 (de_var 8) fun v50 => (dss_append 6 (de_var 8) fun v52 => (dss_nil (a := (v50, v52)) (And.intro (Or.inl rfl) (And.intro (Or.inl rfl) (And.intro (Or.inl rfl) (And.intro (Or.inl rfl) (And.intro (Or.inl rfl) (And.intro (Or.inl rfl) (And.intro (Or.inl rfl) (And.intro (Or.inl rfl) (And.intro (Or.inl rfl) (And.intro (Or.inr rfl) (trivial)))))))))))))) (dss_nil (a := (q25.1, q25.2)) (And.intro (Or.inl rfl) (And.intro (Or.inl rfl) (And.intro (Or.inl rfl) (And.intro (Or.inl rfl) (And.intro (Or.inl rfl) (And.intro (Or.inl rfl) (And.intro (Or.inl rfl) (And.intro (Or.inl rfl) (And.intro (Or.inl rfl) (And.intro (Or.inr rfl) (trivial)))))))))))) fun q48 => (dss_nil (a := (q48.1, q48.2)) (And.intro (Or.inl rfl) (And.intro (Or.inl rfl) (And.intro (Or.inl rfl) (And.intro (Or.inl rfl) (And.intro (Or.inl rfl) (And.intro (Or.inl rfl) (And.intro (Or.inl rfl) (And.intro (Or.inr rfl) (And.intro (Or.inr rfl) (And.intro (Or.inr rfl) (trivial))))))))))))))))) fun q54 => (dss_frz 6 rfl (pss_k (k__law_groups_b486_2.eq_1 _ _) (dss_if (exA := fun (q60 : List D) => [.bg, .im a1, .im a2, .im c14, .ow q54.1, .ow q60, .im (.lst q54.2), .un, .un, .un]) (dt_cmp (od_gt C.rm.units) (de_callB oc_len (by rfl) T.z_len rfl (da_cons (de_var 6) da_nil)) de_int (by rfl)) (dss_append 5 (de_var 6) fun v62 => (dss_nil (a := v62) (And.intro (Or.inl rfl) (And.intro (Or.inl rfl) (And.intro (Or.inl rfl) (And.intro (Or.inl rfl) (And.intro (Or.inl rfl) (And.intro (Or.inl rfl) (And.intro (Or.inl rfl) (And.intro (Or.inr rfl) (And.intro (Or.inr rfl) (And.intro (Or.inr rfl) (trivial))))))))))))) (dss_nil (a := q13.2) (And.intro (Or.inl rfl) (And.intro (Or.inl rfl) (And.intro (Or.inl rfl) (And.intro (Or.inl rfl) (And.intro (Or.inl rfl) (And.intro (Or.inl rfl) (And.intro (Or.inl rfl) (And.intro (Or.inr rfl) (And.intro (Or.inr rfl) (And.intro (Or.inr rfl) (trivial)))))))))))) fun q60 => (dss_nil (a := (q54.1, q60)) (And.intro (Or.inl rfl) (And.intro (Or.inl rfl) (And.intro (Or.inl rfl) (And.intro (Or.inr rfl) (And.intro (Or.inl rfl) (And.intro (Or.inl rfl) (And.intro (Or.inr rfl) (And.intro (Or.inr rfl) (And.intro (Or.inr rfl) (And.intro (Or.inr rfl) (trivial))))))))))))))))))) fun q65 => (dss_frz 5 rfl (dss_ret (de_var 5)))))), rfl⟩
theorem g_host_of (T : Txt K mg A) : FnG P w K mg base 4 A.a_host_of A.f_host_of ["text"] (spR K mg false 1 m_host_of_5eec) := by
  refine fnR (nr := false) (k := 3) T.F_host_of sc_host_of rfl (by decide) (fun cdv Ar outer s H Hf E ds C hl => ?_)
  match ds, hl with
  | [a0], _ => exact ⟨b_host_of_5eec a0, (dss_if (exA := fun (q12 : Unit) => [.im a0]) (dw_or (dt_not (dt_tru (de_isi "str" (de_var 0) (by rfl) T.z_isinstance (by rfl) T.z_str rfl))) (dw_or1 (dt_not (dt_tru (de_fn C (g_is_host T) T.m_is_host T.F_is_host.kp T.b_is_host (da_cons (de_callTy oc_tuple (by rfl) T.z_tuple rfl (da_cons (de_frz (df_split (de_var 0) (de_str [46]))) da_nil)) da_nil) n_is_host_45ba))))).pt (dss_raise C T.x_BadHost (de_var 0)) (dss_nil (a := ()) (And.intro (Or.inl rfl) (trivial))) fun q12 => (dss_ret (de_callTy oc_tuple (by rfl) T.z_tuple rfl (da_cons (de_frz (df_split (de_var 0) (de_str [46]))) da_nil)))), rfl⟩
theorem g_host_text (T : Txt K mg A) : FnG P w K mg base 4 A.a_host_text A.f_host_text ["host"] (spR K mg false 1 m_host_text_f5b6) := by
  refine fnR (nr := false) (k := 3) T.F_host_text sc_host_text rfl (by decide) (fun cdv Ar outer s H Hf E ds C hl => ?_)
  match ds, hl with
  | [a0], _ => exact ⟨b_host_text_f5b6 a0, (dss_if (exA := fun (q5 : Unit) => [.im a0]) (dt_not (dt_tru (de_fn C (g_is_host T) T.m_is_host T.F_is_host.kp T.b_is_host (da_cons (de_var 0) da_nil) n_is_host_45ba))) (dss_raise C T.x_BadHost (de_var 0)) (dss_nil (a := ()) (And.intro (Or.inl rfl) (trivial))) fun q5 => (dss_ret (de_join (de_str [46]) (de_var 0)))), rfl⟩
theorem g_Groups_translated (T : Txt K mg A) : FnG P w K mg base 4 A.a_Groups_translated A.f_Groups_translated ["self", "host"] (spR K mg false 2 m_Groups_translated_fd84) := by
  refine fnR (nr := false) (k := 3) T.F_Groups_translated sc_Groups_translated rfl (by decide) (fun cdv Ar outer s H Hf E ds C hl => ?_)
  match ds, hl with
  | [a0, a1], _ => exact ⟨b_Groups_translated_fd84 a0 a1, (pss_k (k_Groups_translated_fd84_0.eq_1 _ _) (dss_if (exA := fun (q5 : Unit) => [.im a0, .im a1]) (dt_not (dt_tru (de_fn C (g_is_host T) T.m_is_host T.F_is_host.kp T.b_is_host (da_cons (de_var 1) da_nil) n_is_host_45ba))) (dss_raise C T.x_BadHost (de_var 1)) (dss_nil (a := ()) (And.intro (Or.inl rfl) (And.intro (Or.inl rfl) (trivial)))) fun q5 => (dss_ret (de_fn C (g_moved T) T.m_moved T.F_moved.kp T.b_moved (da_cons (de_fld ["Groups"] (de_var 0) (fo_hosts T)) (da_cons (de_var 1) da_nil)) n_moved_8ac7)))), rfl⟩
theorem mt_translated (T : Txt K mg A) : ∀ q ∈ ([("Groups", m_Groups_translated_fd84)] : List (Str × (List D → R D))), MethG P w K mg base 4 "translated" [] q.1 q.2 := fun q hq => by
  simp only [List.mem_cons, List.not_mem_nil, or_false] at hq
  rcases hq with rfl
  · exact ⟨_, _, 2, T.C_Groups.mg, T.C_Groups.cl, T.mt_Groups_translated, ((g_Groups_translated T).pos T.b_Groups_translated).mono (by decide), n_Groups_translated_fd84⟩
theorem g_Groups_origins (T : Txt K mg A) : FnG P w K mg base 4 A.a_Groups_origins A.f_Groups_origins ["self", "host"] (spR K mg false 2 m_Groups_origins_646d) := by
  refine fnR (nr := false) (k := 3) T.F_Groups_origins sc_Groups_origins rfl (by decide) (fun cdv Ar outer s H Hf E ds C hl => ?_)
  match ds, hl with
  | [a0, a1], _ => exact ⟨b_Groups_origins_646d a0 a1, (dss_if (exA := fun (q5 : Unit) => [.im a0, .im a1, .un, .un, .un, .un]) (dt_not (dt_tru (de_fn C (g_is_host T) T.m_is_host T.F_is_host.kp T.b_is_host (da_cons (de_var 1) da_nil) n_is_host_45ba))) (dss_raise C T.x_BadHost (de_var 1)) (dss_nil (a := ()) (And.intro (Or.inl rfl) (And.intro (Or.inl rfl) (And.intro (Or.inr rfl) (And.intro (Or.inr rfl) (And.intro (Or.inr rfl) (And.intro (Or.inr rfl) (trivial)))))))) fun q5 => (pss_k (k_Groups_origins_646d_3.eq_1 _ _) (dss_asgOw C 2 (df_list (da_cons (de_var 1) da_nil)) fun v7 => (dss_for (exl := fun (q13 : List D) => [.im a0, .im a1, .ow q13, .un, .un, .un]) v7 C (di_any (de_fld ["Groups"] (de_var 0) (fo_hosts T))) (pgd_name C 3) (And.intro (Or.inl rfl) (And.intro (Or.inl rfl) (And.intro (Or.inl rfl) (And.intro (Or.inr rfl) (And.intro (Or.inr rfl) (And.intro (Or.inr rfl) (trivial))))))) (fun q13 c14 => (pss_k (k_Groups_origins_646d_1.eq_1 _ _ _) (dss_if (exA := fun (q23 : List D) => [.im a0, .im a1, .ow q23, .im c14, .un, .un]) (dt_tru (de_fn C (g_ends_with T) T.m_ends_with T.F_ends_with.kp T.b_ends_with (da_cons (de_var 1) (da_cons (de_ix (de_var 3) de_int) da_nil)) n_ends_with_d715)) (pss_k (k_Groups_origins_646d_0.eq_1 _ _ _) (dss_augL C 2 (de_frz (df_lc [("member", 5)] C (di_any (de_var 3)) (blkOk_by (N := N_Groups_origins) (sc := defScope s_Groups_origins) (by decide +kernel)) (fun s H A cl fp => (pgd_name (C.blk _ _ _ _ _) 5)) (fun s H A cl fp C27 c28 => pts_true) (fun s H A cl fp C27 c28 => (de_op od_add (de_sl (de_var 1) do_none (do_some (de_op od_sub (de_callB oc_len (by rfl) T.z_len rfl (da_cons (de_var 1) da_nil)) (de_callB oc_len (by rfl) T.z_len rfl (da_cons (de_ix (de_var 3) de_int) da_nil))))) (de_var 5))) (by decide))) fun v25 => (dss_nil (a := v25) (And.intro (Or.inl rfl) (And.intro (Or.inl rfl) (And.intro (Or.inl rfl) (And.intro (Or.inl rfl) (And.intro (Or.inr rfl) (And.intro (Or.inr rfl) (trivial)))))))))) (dss_nil (a := q13) (And.intro (Or.inl rfl) (And.intro (Or.inl rfl) (And.intro (Or.inl rfl) (And.intro (Or.inl rfl) (And.intro (Or.inr rfl) (And.intro (Or.inr rfl) (trivial)))))))) fun q23 => (dss_nil (a := q23) (And.intro (Or.inl rfl) (And.intro (Or.inl rfl) (And.intro (Or.inl rfl) (And.intro (Or.inr rfl) (And.intro (Or.inr rfl) (And.intro (Or.inr rfl) (trivial))))))))))) fun q48 => (dss_frz 2 rfl (pss_k (k_Groups_origins_646d_2.eq_1 _ _ _) (dss_asg C 2 (de_sortSC [("one", 4)] C T.z_sorted (di_any (de_var 2)) (blkOk_by (N := N_Groups_origins) (sc := defScope s_Groups_origins) (by decide +kernel)) (fun s H A cl fp => (pgd_name (C.blk _ _ _ _ _) 4)) (fun s H A cl fp C51 c52 => (pts_test (dw_and (dt_cmp (od_le C51.rm.units) (de_callB oc_len (by rfl) T.z_len rfl (da_cons (de_var 4) da_nil)) (de_globI (by rfl) T.c_MOST_LABELS) (by rfl)) (dw_and1 (dt_cmp (od_eq C51.rm.units) (de_fn C51 (g_moved T) T.m_moved T.F_moved.kp T.b_moved (da_cons (de_fld ["Groups"] (de_var 0) (fo_hosts T)) (da_cons (de_var 4) da_nil)) n_moved_8ac7) (de_var 1) (by rfl)))).pt)) (fun s H A cl fp C51 c52 => (de_var 4)) (by decide)) fun v49 => (dss_ret (de_sortedK C ((g_host_key T).pos T.b_host_key) T.m_host_key T.z_sorted (de_var 2)))))))))), rfl⟩
theorem mt_origins (T : Txt K mg A) : ∀ q ∈ ([("Groups", m_Groups_origins_646d)] : List (Str × (List D → R D))), MethG P w K mg base 4 "origins" [] q.1 q.2 := fun q hq => by
  simp only [List.mem_cons, List.not_mem_nil, or_false] at hq
  rcases hq with rfl
  · exact ⟨_, _, 2, T.C_Groups.mg, T.C_Groups.cl, T.mt_Groups_origins, ((g_Groups_origins T).pos T.b_Groups_origins).mono (by decide), n_Groups_origins_646d⟩
theorem g_checked_group (T : Txt K mg A) : FnG P w K mg base 5 A.a_checked_group A.f_checked_group ["group", "taken"] (spR K mg false 2 m_checked_group_64d1) := by
  refine fnR (nr := false) (k := 4) T.F_checked_group sc_checked_group rfl (by decide) (fun cdv Ar outer s H Hf E ds C hl => ?_)
  match ds, hl with
  | [a0, a1], _ => exact ⟨b_checked_group_64d1 a0 a1, (dss_if (exA := fun (q7 : Unit) => [.im a0, .im a1, .un, .un, .un, .un]) (dw_or (dt_not (dt_tru (de_isi2 "list" "tuple" (de_var 0) (by rfl) T.z_isinstance (by rfl) T.z_list rfl (by rfl) T.z_tuple rfl))) (dw_or1 (dt_not (dt_chain (od_le C.rm.units) (od_le C.rm.units) (de_globI (by rfl) T.c_LEAST_OF_GROUP) (de_callB oc_len (by rfl) T.z_len rfl (da_cons (de_var 0) da_nil)) (de_globI (by rfl) T.c_MOST_OF_GROUP))))).pt (dss_raise C T.x_BadGroup (de_var 0)) (dss_nil (a := ()) (And.intro (Or.inl rfl) (And.intro (Or.inl rfl) (And.intro (Or.inr rfl) (And.intro (Or.inr rfl) (And.intro (Or.inr rfl) (And.intro (Or.inr rfl) (trivial)))))))) fun q7 => (dss_asgOw C 2 (df_list da_nil) fun v9 => (dss_for (exl := fun (q12 : List D) => [.im a0, .im a1, .ow q12, .un, .un, .un]) v9 C (di_any (de_var 0)) (pgd_name C 3) (And.intro (Or.inl rfl) (And.intro (Or.inl rfl) (And.intro (Or.inl rfl) (And.intro (Or.inr rfl) (And.intro (Or.inr rfl) (And.intro (Or.inr rfl) (trivial))))))) (fun q12 c13 => (dss_asg C 4 (de_fn C (g_host_of T) T.m_host_of T.F_host_of.kp T.b_host_of (da_cons (de_var 3) da_nil) n_host_of_5eec) fun v14 => (dss_if (exA := fun (q23 : Unit) => [.im a0, .im a1, .ow q12, .im c13, .im v14, .un]) (dt_cmp (od_gt C.rm.units) (de_callB oc_len (by rfl) T.z_len rfl (da_cons (de_var 4) da_nil)) (de_globI (by rfl) T.c_MOST_LABELS_OF_MEMBER) (by rfl)) (dss_raise C T.x_BadHost (de_var 3)) (dss_nil (a := ()) (And.intro (Or.inl rfl) (And.intro (Or.inl rfl) (And.intro (Or.inl rfl) (And.intro (Or.inl rfl) (And.intro (Or.inl rfl) (And.intro (Or.inr rfl) (trivial)))))))) fun q23 => (dss_append 2 (de_var 4) fun v26 => (dss_nil (a := v26) (And.intro (Or.inl rfl) (And.intro (Or.inl rfl) (And.intro (Or.inl rfl) (And.intro (Or.inr rfl) (And.intro (Or.inr rfl) (And.intro (Or.inr rfl) (trivial)))))))))))) fun q28 => (dss_frz 2 rfl (dss_for (exl := fun (q32 : Unit) => [.im a0, .im a1, .im (.lst q28), .un, .un, .un]) () C (di_enumL (by rfl) T.z_enumerate (da_cons (de_var 2) da_nil)) (pgd_tup2 C 5 4) (And.intro (Or.inl rfl) (And.intro (Or.inl rfl) (And.intro (Or.inl rfl) (And.intro (Or.inr rfl) (And.intro (Or.inr rfl) (And.intro (Or.inr rfl) (trivial))))))) (fun q32 c33 => (dss_if (exA := fun (q43 : Unit) => [.im a0, .im a1, .im (.lst q28), .un, .im c33.2, .im c33.1]) (dw_or (dt_cmp (od_in (hu65 C.rm)) (de_var 4) (de_var 1) (by rfl)) (dw_or1 (dt_cmp (od_in (hu65 C.rm)) (de_var 4) (de_sl (de_var 2) do_none (do_some (de_var 5))) (by rfl)))).pt (dss_raise C T.x_Twice (de_fn C (g_host_text T) T.m_host_text T.F_host_text.kp T.b_host_text (da_cons (de_var 4) da_nil) n_host_text_f5b6)) (dss_nil (a := ()) (And.intro (Or.inl rfl) (And.intro (Or.inl rfl) (And.intro (Or.inl rfl) (And.intro (Or.inr rfl) (And.intro (Or.inl rfl) (And.intro (Or.inl rfl) (trivial)))))))) fun q43 => (dss_nil (a := ()) (And.intro (Or.inl rfl) (And.intro (Or.inl rfl) (And.intro (Or.inl rfl) (And.intro (Or.inr rfl) (And.intro (Or.inr rfl) (And.intro (Or.inr rfl) (trivial)))))))))) fun q49 => (dss_ret (de_callTy oc_tuple (by rfl) T.z_tuple rfl (da_cons (de_var 2) da_nil)))))))), rfl⟩
theorem g_Groups_member (T : Txt K mg A) : FnG P w K mg base 5 A.a_Groups_member A.f_Groups_member ["self", "host"] (spR K mg false 2 m_Groups_member_6374) := by
  refine fnR (nr := false) (k := 4) T.F_Groups_member sc_Groups_member rfl (by decide) (fun cdv Ar outer s H Hf E ds C hl => ?_)
  match ds, hl with
  | [a0, a1], _ => exact ⟨b_Groups_member_6374 a0 a1, (dss_if (exA := fun (q5 : Unit) => [.im a0, .im a1, .un]) (dt_not (dt_tru (de_fn C (g_is_host T) T.m_is_host T.F_is_host.kp T.b_is_host (da_cons (de_var 1) da_nil) n_is_host_45ba))) (dss_raise C T.x_BadHost (de_var 1)) (dss_nil (a := ()) (And.intro (Or.inl rfl) (And.intro (Or.inl rfl) (And.intro (Or.inr rfl) (trivial))))) fun q5 => (pss_k (k_Groups_member_6374_0.eq_1 _ _) (dss_asg C 2 (de_fn C (g_member_and_head T) T.m_member_and_head T.F_member_and_head.kp T.b_member_and_head (da_cons (de_fld ["Groups"] (de_var 0) (fo_hosts T)) (da_cons (de_var 1) da_nil)) n_member_and_head_c6a4) fun v7 => (dss_ret (de_ifExp (dt_cmp od_is (de_var 2) de_non (by rfl)) de_non (de_fn C (g_host_text T) T.m_host_text T.F_host_text.kp T.b_host_text (da_cons (de_ix (de_var 2) de_int) da_nil) n_host_text_f5b6)))))), rfl⟩
theorem mt_member (T : Txt K mg A) : ∀ q ∈ ([("Groups", m_Groups_member_6374)] : List (Str × (List D → R D))), MethG P w K mg base 5 "member" [] q.1 q.2 := fun q hq => by
  simp only [List.mem_cons, List.not_mem_nil, or_false] at hq
  rcases hq with rfl
  · exact ⟨_, _, 2, T.C_Groups.mg, T.C_Groups.cl, T.mt_Groups_member, ((g_Groups_member T).pos T.b_Groups_member).mono (by decide), n_Groups_member_6374⟩
theorem g__law_right (T : Txt K mg A) : FnG P w K mg base 6 A.a__law_right A.f__law_right ["_law_made", "_law_turned_here", "_law_groups_here", "_law_host_here", "_law_label_here"] (spR K mg false 5 m__law_right_14ba) := by
  refine fnR (nr := false) (k := 5) T.F__law_right sc__law_right rfl (by decide) (fun cdv Ar outer s H Hf E ds C hl => ?_)
  match ds, hl with
  | [a0, a1, a2, a3, a4], _ => exact ⟨b__law_right_14ba a0 a1 a2 a3 a4, (pss_k (k__law_right_14ba_6.eq_1 _ _ _ _ _) (dss_parEE C 5 6 (de_meth (L := [("Groups", m_Groups_translated_fd84)]) C (de_var 0) (mt_translated T) (da_cons (de_var 3) da_nil)) (de_meth (L := [("Groups", m_Groups_member_6374)]) C (de_var 0) (mt_member T) (da_cons (de_var 3) da_nil)) fun v1 v2 => (pss_k (k__law_right_14ba_5.eq_1 _ _ _ _ _ _ _) (dss_if (exA := fun (q23 : Unit) => [.im a0, .im a1, .im a2, .im a3, .im a4, .im v1, .im v2, .un, .un, .un]) (dw_or (dt_cmp (od_neO (L := [("Groups", m_Groups_eq_0dba)]) (eq_all T) C.gd (C.rm.mono (by decide)) (od_ne C.rm.units)) (de_meth (L := [("Groups", m_Groups_translated_fd84)]) C (de_var 1) (mt_translated T) (da_cons (de_var 3) da_nil)) (de_var 5) (by rfl)) (dw_or1 (dt_cmp (od_neO (L := [("Groups", m_Groups_eq_0dba)]) (eq_all T) C.gd (C.rm.mono (by decide)) (od_ne C.rm.units)) (de_meth (L := [("Groups", m_Groups_member_6374)]) C (de_var 1) (mt_member T) (da_cons (de_var 3) da_nil)) (de_var 6) (by rfl)))).pt (dss_ret de_bl) (dss_nil (a := ()) (And.intro (Or.inl rfl) (And.intro (Or.inl rfl) (And.intro (Or.inl rfl) (And.intro (Or.inl rfl) (And.intro (Or.inl rfl) (And.intro (Or.inl rfl) (And.intro (Or.inl rfl) (And.intro (Or.inr rfl) (And.intro (Or.inr rfl) (And.intro (Or.inr rfl) (trivial)))))))))))) fun q23 => (dss_if (exA := fun (q27 : Unit) => [.im a0, .im a1, .im a2, .im a3, .im a4, .im v1, .im v2, .un, .un, .un]) (dt_cmp od_is (de_var 6) de_non (by rfl)) (pss_k (k__law_right_14ba_0.eq_1 _ _ _) (dss_if (exA := fun (q45 : Unit) => [.im a0, .im a1, .im a2, .im a3, .im a4, .im v1, .im v2, .un, .un, .un]) (dw_or (dt_cmp (od_neO (L := [("Groups", m_Groups_eq_0dba)]) (eq_all T) C.gd (C.rm.mono (by decide)) (od_ne C.rm.units)) (de_var 5) (de_var 3) (by rfl)) (dw_or1 (dt_cmp (od_ne C.rm.units) (de_frz (df_lc [("_law_group", 9)] C (di_any (de_var 2)) (blkOk_by (N := N__law_right) (sc := defScope s__law_right) (by decide +kernel)) (fun s H A cl fp => (pgd_name (C.blk _ _ _ _ _) 9)) (fun s H A cl fp C31 c32 => (pts_test (dt_tru (de_fn C31 (g__law_ends T) T.m__law_ends T.F__law_ends.kp T.b__law_ends (da_cons (de_var 3) (da_cons (de_ix (de_var 9) de_int) da_nil)) n__law_ends_f9cd)))) (fun s H A cl fp C31 c32 => (de_var 9)) (by decide))) (de_frz (df_list da_nil)) (by rfl)))).pt (dss_ret de_bl) (dss_nil (a := ()) (And.intro (Or.inl rfl) (And.intro (Or.inl rfl) (And.intro (Or.inl rfl) (And.intro (Or.inl rfl) (And.intro (Or.inl rfl) (And.intro (Or.inl rfl) (And.intro (Or.inl rfl) (And.intro (Or.inr rfl) (And.intro (Or.inr rfl) (And.intro (Or.inr rfl) (trivial)))))))))))) fun q45 => (dss_nil (a := ()) (And.intro (Or.inl rfl) (And.intro (Or.inl rfl) (And.intro (Or.inl rfl) (And.intro (Or.inl rfl) (And.intro (Or.inl rfl) (And.intro (Or.inl rfl) (And.intro (Or.inl rfl) (And.intro (Or.inr rfl) (And.intro (Or.inr rfl) (And.intro (Or.inr rfl) (trivial)))))))))))))) (pss_k (k__law_right_14ba_3.eq_1 _ _ _ _) (dss_asg C 7 (de_callTy oc_tuple (by rfl) T.z_tuple rfl (da_cons (de_frz (df_split (de_var 6) (de_str [46]))) da_nil)) fun v48 => (dss_setF (ps_setLcF [("_law_group", 9)] C 8 (di_any (de_var 2)) (blkOk_by (N := N__law_right) (sc := defScope s__law_right) (by decide +kernel)) (fun s H A cl fp => (pgd_name (C.blk _ _ _ _ _) 9)) (fun s H A cl fp C56 c57 => (pts_test (dt_cmp (od_in (hu65 C56.rm)) (de_var 7) (de_var 9) (by rfl)))) (fun s H A cl fp C56 c57 => (de_ix (de_var 9) de_int)) (by decide)) fun v54 => (pss_k (k__law_right_14ba_2.eq_1 _ _ _ _) (dss_if (exA := fun (q74 : Unit) => [.im a0, .im a1, .im a2, .im a3, .im a4, .im v1, .im v2, .im v48, .im v54, .un]) (dw_or (dt_not (dt_tru (de_fn C (g__law_ends T) T.m__law_ends T.F__law_ends.kp T.b__law_ends (da_cons (de_var 3) (da_cons (de_var 7) da_nil)) n__law_ends_f9cd))) (dw_or1 (dt_cmp (od_ne C.rm.units) (de_callB (oc_lenO (L := [("Groups", m_Groups_len_7d19)]) (ln_all T) C.gd (C.rm.mono (by decide))) (by rfl) T.z_len rfl (da_cons (de_var 8) da_nil)) de_int (by rfl)))).pt (dss_ret de_bl) (dss_nil (a := ()) (And.intro (Or.inl rfl) (And.intro (Or.inl rfl) (And.intro (Or.inl rfl) (And.intro (Or.inl rfl) (And.intro (Or.inl rfl) (And.intro (Or.inl rfl) (And.intro (Or.inl rfl) (And.intro (Or.inl rfl) (And.intro (Or.inl rfl) (And.intro (Or.inr rfl) (trivial)))))))))))) fun q74 => (pss_k (k__law_right_14ba_1.eq_1 _ _ _ _) (dss_if (exA := fun (q95 : Unit) => [.im a0, .im a1, .im a2, .im a3, .im a4, .im v1, .im v2, .im v48, .im v54, .un]) (dt_cmp (od_neO (L := [("Groups", m_Groups_eq_0dba)]) (eq_all T) C.gd (C.rm.mono (by decide)) (od_ne C.rm.units)) (de_var 5) (de_op od_add (de_sl (de_var 3) do_none (do_some (de_op od_sub (de_callB oc_len (by rfl) T.z_len rfl (da_cons (de_var 3) da_nil)) (de_callB (oc_lenO (L := [("Groups", m_Groups_len_7d19)]) (ln_all T) C.gd (C.rm.mono (by decide))) (by rfl) T.z_len rfl (da_cons (de_var 7) da_nil))))) (de_ix (de_var 8) de_int)) (by rfl)) (dss_ret de_bl) (dss_nil (a := ()) (And.intro (Or.inl rfl) (And.intro (Or.inl rfl) (And.intro (Or.inl rfl) (And.intro (Or.inl rfl) (And.intro (Or.inl rfl) (And.intro (Or.inl rfl) (And.intro (Or.inl rfl) (And.intro (Or.inl rfl) (And.intro (Or.inl rfl) (And.intro (Or.inr rfl) (trivial)))))))))))) fun q95 => (dss_nil (a := ()) (And.intro (Or.inl rfl) (And.intro (Or.inl rfl) (And.intro (Or.inl rfl) (And.intro (Or.inl rfl) (And.intro (Or.inl rfl) (And.intro (Or.inl rfl) (And.intro (Or.inl rfl) (And.intro (Or.inr rfl) (And.intro (Or.inr rfl) (And.intro (Or.inr rfl) (trivial))))))))))))))))))) fun q27 => (pss_k (k__law_right_14ba_4.eq_1 _ _ _ _) (dss_if (exA := fun (q122 : Unit) => [.im a0, .im a1, .im a2, .im a3, .im a4, .im v1, .im v2, .un, .un, .un]) (dw_and (dt_cmp (od_gt C.rm.units) (de_callB oc_len (by rfl) T.z_len rfl (da_cons (de_var 3) da_nil)) de_int (by rfl)) (dw_and1 (dt_cmp (od_ne C.rm.units) (de_meth (L := [("Groups", m_Groups_translated_fd84)]) C (de_var 0) (mt_translated T) (da_cons (de_op od_add (de_tup (da_cons (de_var 4) da_nil)) (de_var 3)) da_nil)) (de_op od_add (de_tup (da_cons (de_var 4) da_nil)) (de_var 5)) (by rfl)))).pt (dss_ret de_bl) (dss_nil (a := ()) (And.intro (Or.inl rfl) (And.intro (Or.inl rfl) (And.intro (Or.inl rfl) (And.intro (Or.inl rfl) (And.intro (Or.inl rfl) (And.intro (Or.inl rfl) (And.intro (Or.inl rfl) (And.intro (Or.inr rfl) (And.intro (Or.inr rfl) (And.intro (Or.inr rfl) (trivial)))))))))))) fun q122 => (dss_ret de_bl)))))))), rfl⟩
theorem g_Groups_init (T : Txt K mg A) : FnP P w K mg base 6 A.a_Groups_init [] (spI K mg ["hosts", "groups"] (fun _ => True) (starD 0 m_Groups_init_8f72)) := by
  refine fnI_star (ps := ["self"]) (pv := "groups") (k := 5) (n := 0) T.F_Groups_init sc_Groups_init rfl (by decide) T.bs_Groups_init (fun cdv Ar outer s H Hf E o ds C hl => ?_)
  match ds, hl with
  | [a1], _ => exact ⟨b_Groups_init_8f72 a1, (dss_parFF C 3 4 (df_list da_nil) (df_list da_nil) fun v1 v2 => (dss_for (exl := fun (q6 : List D × List D) => [.ob [] [], .im a1, .un, .ow q6.1, .ow q6.2, .un, .un]) (v1, v2) C (di_any (de_var 1)) (pgd_name C 2) (And.intro (Or.inl rfl) (And.intro (Or.inl rfl) (And.intro (Or.inr rfl) (And.intro (Or.inl rfl) (And.intro (Or.inl rfl) (And.intro (Or.inr rfl) (And.intro (Or.inr rfl) (trivial)))))))) (fun q6 c7 => (dss_asg C 5 (de_thaw 4 (de_fn C (g_checked_group T) T.m_checked_group T.F_checked_group.kp T.b_checked_group (da_cons (de_var 2) (da_cons (de_var 4) da_nil)) n_checked_group_64d1)) fun v8 => (dss_append 3 (de_var 5) fun v16 => (dss_augL C 4 (de_frz (df_callTy (oc_list C.calm) (by rfl) T.z_list rfl (da_cons (de_var 5) da_nil))) fun v18 => (dss_nil (a := (v16, v18)) (And.intro (Or.inl rfl) (And.intro (Or.inl rfl) (And.intro (Or.inr rfl) (And.intro (Or.inl rfl) (And.intro (Or.inl rfl) (And.intro (Or.inr rfl) (And.intro (Or.inr rfl) (trivial))))))))))))) fun q23 => (dss_frz 3 rfl (dss_if (exA := fun (q29 : Unit) => [.ob [] [], .im a1, .un, .im (.lst q23.1), .ow q23.2, .un, .un]) (dt_cmp (od_gt C.rm.units) (de_callB oc_len (by rfl) T.z_len rfl (da_cons (de_var 3) da_nil)) (de_globI (by rfl) T.c_MOST_GROUPS) (by rfl)) dss_stuck (dss_nil (a := ()) (And.intro (Or.inl rfl) (And.intro (Or.inl rfl) (And.intro (Or.inr rfl) (And.intro (Or.inl rfl) (And.intro (Or.inl rfl) (And.intro (Or.inr rfl) (And.intro (Or.inr rfl) (trivial))))))))) fun q29 => (dss_fld (ns := []) (ds := []) (f := "hosts") 0 (de_callTy oc_tuple (by rfl) T.z_tuple rfl (da_cons (de_var 3) da_nil)) (fun v30 => (dss_fld (ns := ["hosts"]) (ds := [v30]) (f := "groups") 0 (de_callTy oc_tuple (by rfl) T.z_tuple rfl (da_cons (de_frz (df_lc [("group", 2)] C (di_any (de_var 3)) (blkOk_by (N := N_Groups_init) (sc := defScope s_Groups_init) (by decide +kernel)) (fun s H A cl fp => (pgd_name (C.blk _ _ _ _ _) 2)) (fun s H A cl fp C36 c37 => pts_true) (fun s H A cl fp C36 c37 => (de_callTy oc_tuple (by rfl) T.z_tuple rfl (da_cons (de_frz (df_lc [("host", 6)] C36 (di_any (de_var 2)) (blkOk_by (by first | rfl | with_unfolding_all rfl | kernel_rfl)) (fun s H A cl fp => (pgd_name (C36.blk _ _ _ _ _) 6)) (fun s H A cl fp C39 c40 => pts_true) (fun s H A cl fp C39 c40 => (de_fn C39 (g_host_text T) T.m_host_text T.F_host_text.kp T.b_host_text (da_cons (de_var 6) da_nil) n_host_text_f5b6)) (by decide))) da_nil))) (by decide))) da_nil)) (fun v34 => (dss_nil (a := [v30, v34]) (And.intro (Or.inl rfl) (And.intro (Or.inr rfl) (And.intro (Or.inr rfl) (And.intro (Or.inr rfl) (And.intro (Or.inr rfl) (And.intro (Or.inr rfl) (And.intro (Or.inr rfl) (trivial)))))))))) (hm := (by decide +kernel : ("groups" : Str) ∈ (["hosts", "groups"] : List Str))))) (hm := (by decide +kernel : ("hosts" : Str) ∈ (["hosts", "groups"] : List Str)))))))), rfl⟩
theorem g__law_made_groups (T : Txt K mg A) : FnG P w K mg base 8 A.a__law_made_groups A.f__law_made_groups ["_law_groups_here"] (spR K mg false 1 m__law_made_groups_3031) := by
  refine fnR (nr := false) (k := 7) T.F__law_made_groups sc__law_made_groups rfl (by decide) (fun cdv Ar outer s H Hf E ds C hl => ?_)
  match ds, hl with
  | [a0], _ => exact ⟨b__law_made_groups_3031 a0, (pss_k (k__law_made_groups_3031_5.eq_1 _) (dss_setF (ps_setLcF [("_law_group", 2)] C 1 (di_any (de_var 0)) (blkOk_by (N := N__law_made_groups) (sc := defScope s__law_made_groups) (by decide +kernel)) (fun s H A cl fp => (pgd_name (C.blk _ _ _ _ _) 2)) (fun s H A cl fp C3 c4 => pts_true) (fun s H A cl fp C3 c4 => (de_fn C3 (g__law_texts T) T.m__law_texts T.F__law_texts.kp T.b__law_texts (da_cons (de_var 2) da_nil) n__law_texts_372f)) (by decide)) fun v1 => (dss_if (exA := fun (q14 : Unit) => [.im a0, .im v1, .un]) (dt_cmp (od_lt C.rm.units) (de_callB oc_len (by rfl) T.z_len rfl (da_cons (de_var 1) da_nil)) de_int (by rfl)) (pss_k (k__law_made_groups_3031_0.eq_1 _) (dss_ret (de_ifExp (dt_cmp (od_eq C.rm.units) (de_var 1) (de_frz (df_list da_nil)) (by rfl)) (de_make C T.C_Groups T.na_Groups T.M_Groups (g_Groups_init T) da_nil (fun _ _ => trivial)) (de_make C T.C_Groups T.na_Groups T.M_Groups (g_Groups_init T) (da_cons (de_ix (de_var 1) de_int) da_nil) (fun _ _ => trivial))))) (dss_nil (a := ()) (And.intro (Or.inl rfl) (And.intro (Or.inl rfl) (And.intro (Or.inr rfl) (trivial))))) fun q14 => (pss_k (k__law_made_groups_3031_4.eq_1 _) (dss_if (exA := fun (q32 : Unit) => [.im a0, .im v1, .un]) (dt_cmp (od_eq C.rm.units) (de_callB oc_len (by rfl) T.z_len rfl (da_cons (de_var 1) da_nil)) de_int (by rfl)) (pss_k (k__law_made_groups_3031_1.eq_1 _) (dss_ret (de_make C T.C_Groups T.na_Groups T.M_Groups (g_Groups_init T) (da_cons (de_ix (de_var 1) de_int) (da_cons (de_ix (de_var 1) de_int) da_nil)) (fun _ _ => trivial)))) (dss_nil (a := ()) (And.intro (Or.inl rfl) (And.intro (Or.inl rfl) (And.intro (Or.inr rfl) (trivial))))) fun q32 => (dss_if (exA := fun (q49 : Unit) => [.im a0, .im v1, .un]) (dt_cmp (od_eq C.rm.units) (de_callB oc_len (by rfl) T.z_len rfl (da_cons (de_var 1) da_nil)) de_int (by rfl)) (pss_k (k__law_made_groups_3031_2.eq_1 _) (dss_ret (de_make C T.C_Groups T.na_Groups T.M_Groups (g_Groups_init T) (da_cons (de_ix (de_var 1) de_int) (da_cons (de_ix (de_var 1) de_int) (da_cons (de_ix (de_var 1) de_int) da_nil))) (fun _ _ => trivial)))) (dss_nil (a := ()) (And.intro (Or.inl rfl) (And.intro (Or.inl rfl) (And.intro (Or.inr rfl) (trivial))))) fun q49 => (pss_k (k__law_made_groups_3031_3.eq_1 _) (dss_ret (de_make C T.C_Groups T.na_Groups T.M_Groups (g_Groups_init T) (da_cons (de_ix (de_var 1) de_int) (da_cons (de_ix (de_var 1) de_int) (da_cons (de_ix (de_var 1) de_int) (da_cons (de_ix (de_var 1) de_int) da_nil)))) (fun _ _ => trivial)))))))))), rfl⟩
theorem g_law (T : Txt K mg A) : FnG P w K mg base 9 A.a_law A.f_law ["_law_script"] (spR K mg false 1 m_law_e89f) := by
  refine fnR (nr := false) (k := 8) T.F_law sc_law rfl (by decide) (fun cdv Ar outer s H Hf E ds C hl => ?_)
  match ds, hl with
  | [a0], _ => exact ⟨b_law_e89f a0, (pss_k (k_law_e89f_8.eq_1 _) (dss_bagW C 1 0 (g__law_bag T) T.m__law_bag T.F__law_bag.kp T.b__law_bag (fun L3 C4 => (dss_asg C4 2 (de_fnM C4 1 (g__law_pool T) T.m__law_pool T.F__law_pool.kp T.b__law_pool (da_cons de_int da_nil) n__law_pool_b280) fun v5 => (dss_asg C4 3 (de_fnM C4 1 (g__law_groups T) T.m__law_groups T.F__law_groups.kp T.b__law_groups (da_cons (de_var 2) (da_cons de_int da_nil)) n__law_groups_b486) fun v9 => (pss_k (k_law_e89f_7.eq_1 _ _) (dss_unp (pgd_tup2 C4 8 9) (de_tup (da_cons (de_fn C4 (g__law_made_groups T) T.m__law_made_groups T.F__law_made_groups.kp T.b__law_made_groups (da_cons (de_var 3) da_nil) n__law_made_groups_3031) (da_cons (de_fn C4 (g__law_made_groups T) T.m__law_made_groups T.F__law_made_groups.kp T.b__law_made_groups (da_cons (de_fn C4 (g__law_turned T) T.m__law_turned T.F__law_turned.kp T.b__law_turned (da_cons (de_var 3) da_nil) n__law_turned_2db7) da_nil) n__law_made_groups_3031) da_nil))) fun c16 => (pss_k (k_law_e89f_6.eq_1 _ _ _) (dss_setF (ps_setLcF [("_law_k", 10)] C4 4 (di_range1 (by rfl) T.z_range (da_cons de_int da_nil)) (blkOk_by (N := N_law) (sc := defScope s_law) (by decide +kernel)) (fun s H A cl fp => (pgd_name (C4.blk _ _ _ _ _) 10)) (fun s H A cl fp C36 c37 => pts_true) (fun s H A cl fp C36 c37 => (de_fnM C36 1 (g__law_host T) T.m__law_host T.F__law_host.kp T.b__law_host (da_cons (de_var 2) (da_cons de_int da_nil)) n__law_host_9bb9)) (by decide)) fun v32 => (pss_k (k_law_e89f_5.eq_1 _ _ _ _) (dss_asg C4 4 (de_op od_add (de_var 4) (de_frz (df_lc [("_law_host_here", 5)] C4 (di_any (de_var 4)) (blkOk_by (N := N_law) (sc := defScope s_law) (by decide +kernel)) (fun s H A cl fp => (pgd_name (C4.blk _ _ _ _ _) 5)) (fun s H A cl fp C46 c47 => pts_true) (fun s H A cl fp C46 c47 => (de_meth (L := [("Groups", m_Groups_translated_fd84)]) C46 (de_var 8) (mt_translated T) (da_cons (de_var 5) da_nil))) (by decide)))) fun v44 => (dss_for (exl := fun (q56 : Unit) => [.im a0, .bg, .im v5, .im v9, .im v44, .un, .un, .un, .im c16.1, .im c16.2, .un]) () C4 (di_any (de_var 4)) (pgd_name C4 5) (And.intro (Or.inl rfl) (And.intro (Or.inl rfl) (And.intro (Or.inl rfl) (And.intro (Or.inl rfl) (And.intro (Or.inl rfl) (And.intro (Or.inr rfl) (And.intro (Or.inr rfl) (And.intro (Or.inr rfl) (And.intro (Or.inl rfl) (And.intro (Or.inl rfl) (And.intro (Or.inr rfl) (trivial)))))))))))) (fun q56 c57 => (pss_k (k_law_e89f_0.eq_1 _ _ _ _) (dss_if (exA := fun (q73 : Unit) => [.im a0, .bg, .im v5, .im v9, .im v44, .im c57, .un, .un, .im c16.1, .im c16.2, .un]) (dt_not (dt_tru (de_fn C4 (g__law_right T) T.m__law_right T.F__law_right.kp T.b__law_right (da_cons (de_var 8) (da_cons (de_var 9) (da_cons (de_var 3) (da_cons (de_var 5) (da_cons (de_fnM C4 1 (g__law_of T) T.m__law_of T.F__law_of.kp T.b__law_of (da_cons (de_var 2) da_nil) n__law_of_8ba0) da_nil))))) n__law_right_14ba))) (dss_ret de_bl) (dss_nil (a := ()) (And.intro (Or.inl rfl) (And.intro (Or.inl rfl) (And.intro (Or.inl rfl) (And.intro (Or.inl rfl) (And.intro (Or.inl rfl) (And.intro (Or.inl rfl) (And.intro (Or.inr rfl) (And.intro (Or.inr rfl) (And.intro (Or.inl rfl) (And.intro (Or.inl rfl) (And.intro (Or.inr rfl) (trivial))))))))))))) fun q73 => (dss_nil (a := ()) (And.intro (Or.inl rfl) (And.intro (Or.inl rfl) (And.intro (Or.inl rfl) (And.intro (Or.inl rfl) (And.intro (Or.inl rfl) (And.intro (Or.inr rfl) (And.intro (Or.inr rfl) (And.intro (Or.inr rfl) (And.intro (Or.inl rfl) (And.intro (Or.inl rfl) (And.intro (Or.inr rfl) (trivial)))))))))))))))) fun q76 => (pss_k (k_law_e89f_4.eq_1 _ _) (dss_setF (ps_setLcF [("_law_host_here", 5)] C4 6 (di_any (de_var 4)) (blkOk_by (N := N_law) (sc := defScope s_law) (by decide +kernel)) (fun s H A cl fp => (pgd_name (C4.blk _ _ _ _ _) 5)) (fun s H A cl fp C79 c80 => pts_true) (fun s H A cl fp C79 c80 => (de_meth (L := [("Groups", m_Groups_translated_fd84)]) C79 (de_var 8) (mt_translated T) (da_cons (de_var 5) da_nil))) (by decide)) fun v77 => (pss_k (k_law_e89f_3.eq_1 _ _ _) (dss_for (exl := fun (q92 : Unit) => [.im a0, .bg, .im v5, .im v9, .im v44, .un, .im v77, .un, .im c16.1, .im c16.2, .un]) () C4 (di_range1 (by rfl) T.z_range (da_cons (de_callB (oc_lenO (L := [("Groups", m_Groups_len_7d19)]) (ln_all T) C4.gd (C4.rm.mono (by decide))) (by rfl) T.z_len rfl (da_cons (de_var 4) da_nil)) da_nil)) (pgd_name C4 7) (And.intro (Or.inl rfl) (And.intro (Or.inl rfl) (And.intro (Or.inl rfl) (And.intro (Or.inl rfl) (And.intro (Or.inl rfl) (And.intro (Or.inr rfl) (And.intro (Or.inl rfl) (And.intro (Or.inr rfl) (And.intro (Or.inl rfl) (And.intro (Or.inl rfl) (And.intro (Or.inr rfl) (trivial)))))))))))) (fun q92 c93 => (pss_k (k_law_e89f_2.eq_1 _ _ _ _) (dss_for (exl := fun (q100 : Unit) => [.im a0, .bg, .im v5, .im v9, .im v44, .un, .im v77, .im c93, .im c16.1, .im c16.2, .un]) () C4 (di_range1 (by rfl) T.z_range (da_cons (de_callB (oc_lenO (L := [("Groups", m_Groups_len_7d19)]) (ln_all T) C4.gd (C4.rm.mono (by decide))) (by rfl) T.z_len rfl (da_cons (de_var 4) da_nil)) da_nil)) (pgd_name C4 10) (And.intro (Or.inl rfl) (And.intro (Or.inl rfl) (And.intro (Or.inl rfl) (And.intro (Or.inl rfl) (And.intro (Or.inl rfl) (And.intro (Or.inr rfl) (And.intro (Or.inl rfl) (And.intro (Or.inl rfl) (And.intro (Or.inl rfl) (And.intro (Or.inl rfl) (And.intro (Or.inr rfl) (trivial)))))))))))) (fun q100 c101 => (pss_k (k_law_e89f_1.eq_1 _ _ _ _ _) (dss_if (exA := fun (q120 : Unit) => [.im a0, .bg, .im v5, .im v9, .im v44, .un, .im v77, .im c93, .im c16.1, .im c16.2, .im c101]) (dt_cmp (od_ne C4.rm.units) (de_cmp (od_in (hu65 C4.rm)) (de_ix (de_var 4) (de_var 10)) (de_meth (L := [("Groups", m_Groups_origins_646d)]) C4 (de_var 8) (mt_origins T) (da_cons (de_ix (de_var 6) (de_var 7)) da_nil)) (by rfl)) (de_cmp (od_eq C4.rm.units) (de_ix (de_var 6) (de_var 10)) (de_ix (de_var 6) (de_var 7)) (by rfl)) (by rfl)) (dss_ret de_bl) (dss_nil (a := ()) (And.intro (Or.inl rfl) (And.intro (Or.inl rfl) (And.intro (Or.inl rfl) (And.intro (Or.inl rfl) (And.intro (Or.inl rfl) (And.intro (Or.inr rfl) (And.intro (Or.inl rfl) (And.intro (Or.inl rfl) (And.intro (Or.inl rfl) (And.intro (Or.inl rfl) (And.intro (Or.inl rfl) (trivial))))))))))))) fun q120 => (dss_nil (a := ()) (And.intro (Or.inl rfl) (And.intro (Or.inl rfl) (And.intro (Or.inl rfl) (And.intro (Or.inl rfl) (And.intro (Or.inl rfl) (And.intro (Or.inr rfl) (And.intro (Or.inl rfl) (And.intro (Or.inl rfl) (And.intro (Or.inl rfl) (And.intro (Or.inl rfl) (And.intro (Or.inr rfl) (trivial)))))))))))))))) fun q123 => (dss_nil (a := ()) (And.intro (Or.inl rfl) (And.intro (Or.inl rfl) (And.intro (Or.inl rfl) (And.intro (Or.inl rfl) (And.intro (Or.inl rfl) (And.intro (Or.inr rfl) (And.intro (Or.inl rfl) (And.intro (Or.inr rfl) (And.intro (Or.inl rfl) (And.intro (Or.inl rfl) (And.intro (Or.inr rfl) (trivial)))))))))))))))) fun q125 => (dss_ret de_bl))))))))))))))) (fun _ => rfl) (fun _ => by first | rfl | contradiction))), rfl⟩
end
end K74
namespace K74
open PySem L2 DL FN
theorem facts {w : World} {K : PySem.W.Frag} {h : Heap} {mg : Str → Option Value} {fa : Addr} [DL.TC] (X : K.In h) (G : h.Ns mainGlobals mg) (hfa : mg "law" = some (.ref fa)) (ce : exs K = true) (cf : fss K = fvs)
    : ∃ fd : FuncData, (∀ (s : Shared) (v : Value), BindsTo s fd ⟨[v], []⟩ [("_law_script", v)]) ∧ ∀ (base : Heap), K.In base → base.Ns mainGlobals mg → FnG PySem.Challenge.rw_offeredentry_k74_whole_translations.prog w K mg base 9 fa fd ["_law_script"] (spR K mg false 1 FN.m_law_e89f) := by
  obtain ⟨b_n0, ce_1⟩ := He.ba ce
  obtain ⟨b_f0, ce_2⟩ := He.ba ce_1
  obtain ⟨ce2, ce_3⟩ := He.ba ce_2
  obtain ⟨ce3, ce4⟩ := He.ba ce_3
  obtain ⟨b_f1, b_x_BadGroup⟩ := He.ba ce2
  obtain ⟨b_x_BadHost, ce3_1⟩ := He.ba ce3
  obtain ⟨b_x_Twice, ce3_2⟩ := He.ba ce3_1
  obtain ⟨b_cls, ce3_3⟩ := He.ba ce3_2
  obtain ⟨b_na_Groups, ce3_4⟩ := He.ba ce3_3
  obtain ⟨b_mk_Groups, ce3_5⟩ := He.ba ce3_4
  obtain ⟨b_mt_Groups_member, ce3_6⟩ := He.ba ce3_5
  obtain ⟨b_mt_Groups_origins, ce3_7⟩ := He.ba ce3_6
  obtain ⟨b_mt_Groups_translated, b_nl_Groups⟩ := He.ba ce3_7
  obtain ⟨b_qe_Groups, ce4_1⟩ := He.ba ce4
  obtain ⟨b_is_Groups, ce4_2⟩ := He.ba ce4_1
  obtain ⟨b_zs, ce4_3⟩ := He.ba ce4_2
  obtain ⟨b_g_CHARACTERS, ce4_4⟩ := He.ba ce4_3
  obtain ⟨b_g_LEAST_OF_GROUP, ce4_5⟩ := He.ba ce4_4
  obtain ⟨b_g_LONGEST_LABEL, ce4_6⟩ := He.ba ce4_5
  obtain ⟨b_g_MOST_GROUPS, ce4_7⟩ := He.ba ce4_6
  obtain ⟨b_g_MOST_LABELS, ce4_8⟩ := He.ba ce4_7
  obtain ⟨b_g_MOST_LABELS_OF_MEMBER, b_g_MOST_OF_GROUP⟩ := He.ba ce4_8
  obtain ⟨cfA, cfB⟩ := List.append_inj (show fssA K ++ fssB K = fvsA ++ fvsB from cf) rfl
  have cg0 := cfA
  have cg1 := cfB
  obtain ⟨n_0, b_n0_1⟩ := He.ba b_n0
  obtain ⟨n_1, b_n0_2⟩ := He.ba b_n0_1
  obtain ⟨n_2, b_n0_3⟩ := He.ba b_n0_2
  obtain ⟨n_3, b_n0_4⟩ := He.ba b_n0_3
  obtain ⟨n_4, b_n0_5⟩ := He.ba b_n0_4
  obtain ⟨n_5, b_n0_6⟩ := He.ba b_n0_5
  obtain ⟨n_6, b_n0_7⟩ := He.ba b_n0_6
  obtain ⟨n_7, b_n0_8⟩ := He.ba b_n0_7
  obtain ⟨n_10, b_n0_9⟩ := He.ba b_n0_8
  obtain ⟨n_11, b_n0_10⟩ := He.ba b_n0_9
  obtain ⟨n_12, b_n0_11⟩ := He.ba b_n0_10
  obtain ⟨n_13, b_n0_12⟩ := He.ba b_n0_11
  obtain ⟨n_14, b_n0_13⟩ := He.ba b_n0_12
  obtain ⟨n_15, b_n0_14⟩ := He.ba b_n0_13
  obtain ⟨n_16, b_n0_15⟩ := He.ba b_n0_14
  obtain ⟨n_17, b_n0_16⟩ := He.ba b_n0_15
  obtain ⟨n_18, b_n0_17⟩ := He.ba b_n0_16
  obtain ⟨n_19, b_n0_18⟩ := He.ba b_n0_17
  obtain ⟨n_20, b_n0_19⟩ := He.ba b_n0_18
  obtain ⟨n_21, b_n0_20⟩ := He.ba b_n0_19
  obtain ⟨n_24, b_n0_21⟩ := He.ba b_n0_20
  obtain ⟨n_26, b_n0_22⟩ := He.ba b_n0_21
  obtain ⟨n_28, b_n0_23⟩ := He.ba b_n0_22
  obtain ⟨n_29, b_n0_24⟩ := He.ba b_n0_23
  have cf0 : FL K (fa0 K) fv0 := ⟨cg0, b_f0⟩
  obtain ⟨f0, F0, cf0_1⟩ := cf0.fn
  obtain ⟨f1, F1, cf0_2⟩ := cf0_1.fn
  obtain ⟨f2, F2, cf0_3⟩ := cf0_2.fn
  obtain ⟨f3, F3, cf0_4⟩ := cf0_3.fn
  obtain ⟨f4, F4, cf0_5⟩ := cf0_4.fn
  obtain ⟨f5, F5, cf0_6⟩ := cf0_5.fn
  obtain ⟨f6, F6, cf0_7⟩ := cf0_6.fn
  obtain ⟨f7, F7, cf0_8⟩ := cf0_7.fn
  obtain ⟨f8, F8, cf0_9⟩ := cf0_8.fn
  obtain ⟨f9, F9, cf0_10⟩ := cf0_9.fn
  obtain ⟨f10, F10, cf0_11⟩ := cf0_10.fn
  obtain ⟨f11, F11, cf0_12⟩ := cf0_11.fn
  obtain ⟨f12, F12, cf0_13⟩ := cf0_12.fn
  obtain ⟨f13, F13, cf0_14⟩ := cf0_13.fn
  obtain ⟨f14, F14, cf0_15⟩ := cf0_14.fn
  obtain ⟨f15, F15, cf0_16⟩ := cf0_15.fn
  obtain ⟨f16, F16, cf0_17⟩ := cf0_16.fn
  obtain ⟨f17, F17, cf0_18⟩ := cf0_17.fn
  obtain ⟨f18, F18, cf0_19⟩ := cf0_18.fn
  obtain ⟨f19, F19, cf0_20⟩ := cf0_19.fn
  obtain ⟨f20, F20, cf0_21⟩ := cf0_20.fn
  obtain ⟨f21, F21, cf0_22⟩ := cf0_21.fn
  obtain ⟨f22, F22, cf0_23⟩ := cf0_22.fn
  obtain ⟨f23, F23, cf0_24⟩ := cf0_23.fn
  obtain ⟨f24, F24, cf0_25⟩ := cf0_24.fn
  have cf1 : FL K (fa1 K) fv1 := ⟨cg1, b_f1⟩
  obtain ⟨f25, F25, cf1_1⟩ := cf1.fn
  obtain ⟨f26, F26, cf1_2⟩ := cf1_1.fn
  obtain ⟨kV27, dc27, pm27, an27, cd27, ct27, F27, cf1_3⟩ := cf1_2.fs
  obtain ⟨f28, F28, cf1_4⟩ := cf1_3.fn
  obtain ⟨kV29, dc29, pm29, an29, cd29, ct29, F29, cf1_5⟩ := cf1_4.fs
  obtain ⟨x_BadGroup, cf1_6⟩ := cf1_5.own X G b_x_BadGroup (by decide) (by decide) (fun _ _ _ _ _ _ _ _ _ _ _ _ _ => rfl)
  obtain ⟨x_BadHost, cf1_7⟩ := cf1_6.own X G b_x_BadHost (by decide) (by decide) (fun _ _ _ _ _ _ _ _ _ _ _ _ _ => rfl)
  obtain ⟨x_Twice, cf1_8⟩ := cf1_7.own X G b_x_Twice (by decide) (by decide) (fun _ _ _ _ _ _ _ _ _ _ _ _ _ => rfl)
  have e := hfa.symm.trans (ng_ok X G n_29)
  cases e
  clear ce cf b_n0 b_n0_1 b_n0_2 b_n0_3 b_n0_4 b_n0_5 b_n0_6 b_n0_7 b_n0_8 b_n0_9 b_n0_10 b_n0_11 b_n0_12 b_n0_13 b_n0_14 b_n0_15 b_n0_16 b_n0_17 b_n0_18 b_n0_19 b_n0_20 b_n0_21 b_n0_22 b_n0_23 b_n0_24 cf0 cf0_1 cf0_2 cf0_3 cf0_4 cf0_5 cf0_6 cf0_7 cf0_8 cf0_9 cf0_10 cf0_11 cf0_12 cf0_13 cf0_14 cf0_15 cf0_16 cf0_17 cf0_18 cf0_19 cf0_20 cf0_21 cf0_22 cf0_23 cf0_24 cf1 cf1_1 cf1_2 cf1_3 cf1_4 cf1_5 cf1_6 cf1_7 cf0_25 cf1_8 ce_1 ce_2 ce_3 ce2 ce3 ce3_1 ce3_2 ce3_3 ce3_4 ce3_5 ce3_6 ce3_7 ce4 ce4_1 ce4_2 ce4_3 ce4_4 ce4_5 ce4_6 ce4_7 ce4_8 cfB cfA
  have T : Txt K mg ⟨_, _, _, _, _, _, _, _, _, _, _, _, _, _, _, _, _, _, _, _, _, _, _, _, _, _, _, _, _, _, _, _, _, _, _, _, _, _, _, _, _, _, _, _, _, _, _, _, _, _, _, _, _, _, _, _, _, _, _, _, _, _, _, _, _, _, _⟩ := ⟨(ng_ok X G n_0), F0, (F0.binds fun _ _ _ _ _ _ us hl => match us, hl with | [_], _ => rfl), (ng_ok X G n_1), F1, (F1.binds fun _ _ _ _ _ _ us hl => match us, hl with | [_], _ => rfl), (ng_ok X G n_2), F2, (F2.binds fun _ _ _ _ _ _ us hl => match us, hl with | [_, _], _ => rfl), (ng_ok X G n_3), F3, (F3.binds fun _ _ _ _ _ _ us hl => match us, hl with | [_], _ => rfl), (ng_ok X G n_4), F4, (F4.binds fun _ _ _ _ _ _ us hl => match us, hl with | [_, _], _ => rfl), (ng_ok X G n_5), F5, (F5.binds fun _ _ _ _ _ _ us hl => match us, hl with | [_, _], _ => rfl), (ng_ok X G n_6), F6, (F6.binds fun _ _ _ _ _ _ us hl => match us, hl with | [_], _ => rfl), (ng_ok X G n_7), F7, (F7.binds fun _ _ _ _ _ _ us hl => match us, hl with | [_], _ => rfl), F8, (F8.binds fun _ _ _ _ _ _ us hl => match us, hl with | [_], _ => rfl), F9, (F9.binds fun _ _ _ _ _ _ us hl => match us, hl with | [_, _], _ => rfl), (ng_ok X G n_10), F10, (F10.binds fun _ _ _ _ _ _ us hl => match us, hl with | [_], _ => rfl), (ng_ok X G n_11), F11, (F11.binds fun _ _ _ _ _ _ us hl => match us, hl with | [_], _ => rfl), (ng_ok X G n_12), F12, (F12.binds fun _ _ _ _ _ _ us hl => match us, hl with | [_, _], _ => rfl), (ng_ok X G n_13), F13, (F13.binds fun _ _ _ _ _ _ us hl => match us, hl with | [_, _], _ => rfl), (ng_ok X G n_14), F14, (F14.binds fun _ _ _ _ _ _ us hl => match us, hl with | [_, _], _ => rfl), (ng_ok X G n_15), F15, (F15.binds fun _ _ _ _ _ _ us hl => match us, hl with | [_], _ => rfl), (ng_ok X G n_16), F16, (F16.binds fun _ _ _ _ _ _ us hl => match us, hl with | [_, _], _ => rfl), (ng_ok X G n_17), F17, (F17.binds fun _ _ _ _ _ _ us hl => match us, hl with | [_, _], _ => rfl), (ng_ok X G n_18), F18, (F18.binds fun _ _ _ _ _ _ us hl => match us, hl with | [_, _, _], _ => rfl), (ng_ok X G n_19), F19, (F19.binds fun _ _ _ _ _ _ us hl => match us, hl with | [_, _, _], _ => rfl), (ng_ok X G n_20), F20, (F20.binds fun _ _ _ _ _ _ us hl => match us, hl with | [_], _ => rfl), (ng_ok X G n_21), F21, (F21.binds fun _ _ _ _ _ _ us hl => match us, hl with | [_], _ => rfl), F22, (F22.binds fun _ _ _ _ _ _ us hl => match us, hl with | [_, _], _ => rfl), F23, (F23.binds fun _ _ _ _ _ _ us hl => match us, hl with | [_, _], _ => rfl), (ng_ok X G n_24), F24, (F24.binds fun _ _ _ _ _ _ us hl => match us, hl with | [_, _], _ => rfl), F25, (F25.binds fun _ _ _ _ _ _ us hl => match us, hl with | [_, _], _ => rfl), (ng_ok X G n_26), F26, (F26.binds fun _ _ _ _ _ _ us hl => match us, hl with | [_, _, _, _, _], _ => rfl), F27, (StX.bind_star1 (B := fun xs => bindArgs _ ⟨xs, []⟩) (fun _ => rfl) (fun _ _ _ => rfl)), (ng_ok X G n_28), F28, (F28.binds fun _ _ _ _ _ _ us hl => match us, hl with | [_], _ => rfl), (ng_ok X G n_29), F29, (F29.binds fun _ _ _ _ _ _ us hl => match us, hl with | [_], _ => rfl), (cl_ok X G (all_of b_cls (by decide +kernel : ("Groups" : Str) ∈ clsL))), (na_ok b_na_Groups), (mk_ok b_mk_Groups), (me_ok F25 b_mt_Groups_member), (me_ok F23 b_mt_Groups_origins), (me_ok F22 b_mt_Groups_translated), (mt_ok b_nl_Groups), (eqC_ok X G b_cls (by decide +kernel) b_qe_Groups), (isC_ok X G b_cls (by decide +kernel) b_is_Groups), x_BadGroup, x_BadHost, x_Twice, (nn_ok X G (all_of b_zs (by decide +kernel : ("abs" : Str) ∈ zsL))), (nn_ok X G (all_of b_zs (by decide +kernel : ("enumerate" : Str) ∈ zsL))), (nn_ok X G (all_of b_zs (by decide +kernel : ("int" : Str) ∈ zsL))), (nn_ok X G (all_of b_zs (by decide +kernel : ("isinstance" : Str) ∈ zsL))), (nn_ok X G (all_of b_zs (by decide +kernel : ("len" : Str) ∈ zsL))), (nn_ok X G (all_of b_zs (by decide +kernel : ("list" : Str) ∈ zsL))), (nn_ok X G (all_of b_zs (by decide +kernel : ("range" : Str) ∈ zsL))), (nn_ok X G (all_of b_zs (by decide +kernel : ("sorted" : Str) ∈ zsL))), (nn_ok X G (all_of b_zs (by decide +kernel : ("str" : Str) ∈ zsL))), (nn_ok X G (all_of b_zs (by decide +kernel : ("tuple" : Str) ∈ zsL))), (gs_ok X G b_g_CHARACTERS (by decide +kernel) (by decide)), (gi_ok X G b_g_LEAST_OF_GROUP), (gi_ok X G b_g_LONGEST_LABEL), (gi_ok X G b_g_MOST_GROUPS), (gi_ok X G b_g_MOST_LABELS), (gi_ok X G b_g_MOST_LABELS_OF_MEMBER), (gi_ok X G b_g_MOST_OF_GROUP)⟩
  exact ⟨_, fun s v => .of_eq rfl, fun base _ _ => g_law T⟩
end K74
open PySem PySem.W PyProof.Rows in
set_option maxRecDepth 100000 in
set_option maxHeartbeats 0 in
theorem PySem.Challenge.cw_offeredentry_k74_whole_translations_holds : PySem.Challenge.rw_offeredentry_k74_whole_translations.Holds := by
  refine K74.lawE fun said => ?_
  refine HandSHeadRun.head_any (r := OpenLaw.row PySem.Challenge.rw_offeredentry_k74_whole_translations) (q := view (OpenLaw.row PySem.Challenge.rw_offeredentry_k74_whole_translations).prog [41]) (H := DL.hookH K74.gxs K74.fss K74.fvs) (ob := DL.obH K74.gxs K74.fss) (M := 40000) (loose := K74.names) (d := HandSHeadRun.topDef (OpenLaw.row PySem.Challenge.rw_offeredentry_k74_whole_translations).prog 41) (kwd := []) DL.obH_eq
    (by kernel_rfl) (fun s => by kernel_rfl) K74.run (by kernel_rfl) (by kernel_rfl) (by kernel_rfl) (by rfl) (by first | assumption | decide +kernel) (by decide +kernel) K74.bareE ?hw ?hc
  case hw => w_witness2
  case hc =>
    letI : DL.TC := ⟨[]⟩
    refine DL.walk_gE (l := PySem.Challenge.rw_offeredentry_k74_whole_translations) (n := 63) (k := 9) (x := "_law_script") (g := FN.m_law_e89f) rfl rfl (by decide) (by kernel_rfl) ⟨rfl, by decide, by decide⟩ ?F FN.law_e89f_true
    intro w mg fa h Y G hmg0
    obtain ⟨K, KX, ce, cf⟩ := Y
    have hmg : mg ("law" : PySem.Str) = some (.ref fa) := by
      have e : (HandSHeadRun.topDef (OpenLaw.row PySem.Challenge.rw_offeredentry_k74_whole_translations).prog 41).name = ("law" : PySem.Str) := by kernel_rfl
      rw [← e]
      exact hmg0
    obtain ⟨fd, hb, hF⟩ := K74.facts (w := w) KX G hmg (K74.gxs_all ce) cf
    exact ⟨K, fd, KX, hb, fun base b1 b2 => hF base b1 b2⟩
