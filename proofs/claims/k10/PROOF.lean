import PyProof.Rows.All
import Wide.All
import OpenK.AllK
import Wide.FinOn
import HandS.HeadEnd
import HandS.HeadHook1
import HandS.HeadHook2
import HandS.Head0
import HandS.Head1
import HandS.Head2
import HandS.Words
import KE.KStateDown
import HandS.ForMost
import HandS.ForExc
import HandS.Flow
import HandS.Wide
import HandS.Exc
import HandS.ExcOwn
import HandS.ExcCtx
import HandS.Star
import HandS.TupAny
import HandS.Deep
import HandS.Style
import HandS.IsInst
import KE.DataCmp
import HandS.Conv
import HandS.Ends
import HandS.TryOnly
import HandS.TryMany
import KE.KExcInit
import PyProof.ExcBaseAll.ValueError
import PyProof.ExcBaseAll.LookupError
import PyProof.ExcBaseAll.OverflowError
import PyProof.ExcBaseAll.RuntimeError
import HandS.More
import HandS.Zip
import KE.KExcIs
import HandS.ExcIs
import HandS.Property
import HandS.MakeKwOnly
import HandS.SlotsOwn
import PyProof.InstEq
import HandS.RaiseMore
import HandS.FStr
import HandS.Codes
import HandS.ClsMeth
import HandS.Replace
import PyProof.AssignAttr
import PyProof.ReprLen
import HandS.Text
import HandS.ReplaceLit
import HandS.ReplaceDef
import HandS.ReplaceList
import HandS.Nested
import KE.KSuper
import KE.KDictZip
import KE.KDictItemsList
import HandS.Zip0
import HandS.ListItems
import HandS.StrMore
import KE.GoesEnum
import HandS.Iter
import HandS.TupMul
import PyProof.EqAt
import PyProof.NeKinds
import PyProof.ListStr
import KE.SortKeyHeap
import KE.SortData
import HandS.SortKw
import HandS.DictComp
import HandS.RaiseFrom
import HandS.SuiteRaise
import PyProof.RulesAs
import KE.KStar
import HandS.IterVal
import HandS.OwnIter
import HandS.Hot
import HandS.HotCalls
import HandS.OwnEq
import HandS.Dict
import PySem.Challenge.RW_offeredentry_k10_patterns_compared
set_option Elab.async false
set_option linter.all false
set_option maxRecDepth 100000
set_option maxHeartbeats 4000000
namespace PySem
namespace OwnX
open PySem.W
inductive XB where
  | ve | le | oe | re
def XB.tail : XB → List Value
  | .ve => [.type "ValueError", .type "Exception", .type "BaseException", .type "object"]
  | .le => [.type "LookupError", .type "Exception", .type "BaseException", .type "object"]
  | .oe => [.type "OverflowError", .type "ArithmeticError", .type "Exception", .type "BaseException", .type "object"]
  | .re => [.type "RuntimeError", .type "Exception", .type "BaseException", .type "object"]
def XB.nw : XB → String
  | .ve => "ValueError.__new__"
  | .le => "LookupError.__new__"
  | .oe => "OverflowError.__new__"
  | .re => "RuntimeError.__new__"
def XB.nm : XB → String
  | .ve => "ValueError"
  | .le => "LookupError"
  | .oe => "OverflowError"
  | .re => "RuntimeError"
def XB.it : XB → String
  | .ve => "ValueError.__init__"
  | .le => "LookupError.__init__"
  | .oe => "OverflowError.__init__"
  | .re => "RuntimeError.__init__"
def overB (b : XB) : List Value → Bool
  | .ref _ :: r => overB b r
  | l => l == b.tail
def iA (f : Str) (p1 p2 : Pos) : Arguments := { posonlyargs := [], args := [{ arg := "self", annotation := none, pos := p1 }, { arg := f, annotation := none, pos := p2 }], vararg := none, kwonlyargs := [], kw_defaults := [], kwarg := none, defaults := [] }
def iB (f : Str) (q1 q2 q3 q4 : Pos) : List Stmt := [.Assign [.Attribute (.Name "self" q1) f q2] (.Name f q3) q4]
def iS (f : Str) : Scope := { kind := .function, names := [(PySem.Str.ofString "self", .local), (f, .local)], isGenerator := false, isCoroutine := false, more := [] }
end OwnX
end PySem
namespace DL
open PySem PySem.Spec PyProof.Rows L2
abbrev FnV : Type := Option (Str × Str × Arguments × FuncBody × Scope × Addr × List Str × Addr)
def fnV (K : PySem.W.Frag) (a : Addr) : FnV := match K.lookup a with
  | some ⟨_, _, .func fd, _⟩ => some (fd.name, fd.qualname, fd.params, fd.body, fd.scope, fd.globals, fd.closure.map (·.1), fd.builtins)
  | _ => none
abbrev fnT (x qual : Str) (st : Stmt) (cl : List Str) : FnV := some (x, qual, defArgs st, .stmts (defBody st), defScope st, mainGlobals, cl, builtinsNs)
def isNoneV : Value → Bool
  | .none => true
  | _ => false
theorem isNoneV_ok {v : Value} (h : isNoneV v = true) : v = .none := by cases v <;> first | rfl | cases h
def codB (K : PySem.W.Frag) (a : Addr) (q : Str) : Bool := match K.lookup a with
  | some ⟨_, _, .func fd, _⟩ => PySem.W.codeIn K fd.code q && isNoneV fd.defaults
  | _ => false
section
variable {K : PySem.W.Frag}
theorem fun_of {a : Addr} {x qual : Str} {pa : Arguments} {bo : List Stmt} {sc : Scope} (e : fnV K a = some (x, qual, pa, .stmts bo, sc, mainGlobals, [], builtinsNs)) (c : codB K a qual = true) : ∃ oc od kV doc pm an cd ct sl,
    K.lookup a = some ⟨oc, od, .func (PySem.W.fnOf x qual pa bo sc .none kV doc pm an cd ct), sl⟩ ∧ PySem.W.codeIn K cd qual = true := by
  unfold fnV at e
  unfold codB at c
  cases q : K.lookup a with
  | none => rw [q] at c; cases c
  | some o =>
    obtain ⟨oc, od, dt, osl⟩ := o
    rw [q] at c e
    cases dt with
    | func fd =>
      obtain ⟨n1, n2, n3, n4, n5, n6, n7, n8, n9, n10, n11, n12, n13, n14, n15⟩ := fd
      have e2 : (some (n1, n2, n3, n4, n5, n6, n7.map (·.1), n15) : FnV) = some (x, qual, pa, .stmts bo, sc, mainGlobals, [], builtinsNs) := e
      simp only [Option.some.injEq, Prod.mk.injEq, List.map_eq_nil_iff] at e2
      obtain ⟨h1, h2, h3, h4, h5, h6, h7, h8⟩ := e2
      subst h1 h2 h3 h4 h5 h6 h7 h8
      have c2 : (PySem.W.codeIn K n13 n2 && isNoneV n8) = true := c
      rw [Bool.and_eq_true] at c2
      have h9 := isNoneV_ok c2.2
      subst h9
      exact ⟨oc, od, n9, n10, n11, n12, n13, n14, osl, rfl, c2.1⟩
    | _ => cases c
def ccA (K : PySem.W.Frag) (a : Addr) : Addr := match K.lookup a with
  | some ⟨_, _, .func fd, _⟩ => (match fd.closure with
    | [q] => q.2
    | _ => 0)
  | _ => 0
def supB (K : PySem.W.Frag) (a C : Addr) (file : Str) : Bool := match K.lookup a with
  | some ⟨_, _, .func fd, _⟩ => (match fd.code with
    | .ref c => (match K.lookup c with
      | some ⟨_, _, .fields vs, _⟩ => (match (vs[2]? : Option Value) with
        | some (.str f _) => file == f
        | _ => false)
      | _ => false)
    | _ => false) && (match K.lookup (ccA K a) with
    | some ⟨_, _, .cell (some (.ref D)), _⟩ => D == C
    | _ => false)
  | _ => false
theorem funX_of {a C : Addr} {x qual file : Str} {st : Stmt} (e : fnV K a = fnT x qual st ["__class__"]) (c : codB K a qual = true) (s : supB K a C file = true) : ∃ (oc : Value) (od : Option Addr) (kV doc pm : Value) (an : Option Addr) (cda : Addr) (ct : Value) (sl : Array (Option Value)) (cc : Addr) (ccl : Value) (cdd : Option Addr) (vs : Array Value) (ccs : Array (Option Value)) (f : Str) (tf : Tok) (cl : Value) (cld : Option Addr) (csl : Array (Option Value)),
    K.lookup a = some ⟨oc, od, .func (PySem.W.fnX x qual (defArgs st) (defBody st) (defScope st) [("__class__", cc)] .none kV doc pm an (.ref cda) ct), sl⟩ ∧ PySem.W.codeIn K (.ref cda) qual = true ∧
    K.lookup cda = some ⟨ccl, cdd, .fields vs, ccs⟩ ∧ vs[2]? = some (.str f tf) ∧ (file == f) = true ∧ K.lookup cc = some ⟨cl, cld, .cell (some (.ref C)), csl⟩ := by
  unfold fnV at e
  unfold codB at c
  unfold supB at s
  cases q : K.lookup a with
  | none => rw [q] at c; cases c
  | some o =>
    obtain ⟨oc, od, dt, osl⟩ := o
    rw [q] at c e s
    cases dt with
    | func fd =>
      obtain ⟨n1, n2, n3, n4, n5, n6, n7, n8, n9, n10, n11, n12, n13, n14, n15⟩ := fd
      have e2 : (some (n1, n2, n3, n4, n5, n6, n7.map (·.1), n15) : FnV) = fnT x qual st ["__class__"] := e
      simp only [Option.some.injEq, Prod.mk.injEq] at e2
      obtain ⟨h1, h2, h3, h4, h5, h6, h7, h8⟩ := e2
      subst h1 h2 h3 h4 h5 h6 h8
      have c2 : (PySem.W.codeIn K n13 n2 && isNoneV n8) = true := c
      rw [Bool.and_eq_true] at c2
      have h9 := isNoneV_ok c2.2
      subst h9
      match n7, h7 with
      | [], h => exact absurd (congrArg List.length h) (by simp)
      | _ :: _ :: _, h => exact absurd (congrArg List.length h) (by simp)
      | [(nm, cc)], h =>
        have en : nm = "__class__" := (List.cons.inj h).1
        subst en
        have ea : ccA K a = cc := by
          unfold ccA
          rw [q]
        have s2 := s
        rw [ea] at s2
        rw [Bool.and_eq_true] at s2
        obtain ⟨s3, s4⟩ := s2
        cases n13 with
        | ref cda =>
          have s3' : (match K.lookup cda with
            | some ⟨_, _, .fields vs, _⟩ => (match (vs[2]? : Option Value) with
              | some (.str f _) => file == f
              | _ => false)
            | _ => false) = true := s3
          cases qc : K.lookup cda with
          | none => rw [qc] at s3'; cases s3'
          | some oc2 =>
            obtain ⟨ccl, cdd, dt2, ccs⟩ := oc2
            rw [qc] at s3'
            cases dt2 with
            | fields vs =>
              have s5 : (match (vs[2]? : Option Value) with
                | some (.str f _) => file == f
                | _ => false) = true := s3'
              cases qv : vs[2]? with
              | none => rw [qv] at s5; cases s5
              | some v =>
                rw [qv] at s5
                cases v with
                | str f tf =>
                  cases qk : K.lookup cc with
                  | none => rw [qk] at s4; cases s4
                  | some o3 =>
                    obtain ⟨cl, cld, dt3, csl⟩ := o3
                    rw [qk] at s4
                    cases dt3 with
                    | cell v3 =>
                      cases v3 with
                      | none => cases s4
                      | some v3 =>
                        cases v3 with
                        | ref D =>
                          have eD : D = C := beq_iff_eq.mp s4
                          subst eD
                          exact ⟨oc, od, n9, n10, n11, n12, cda, n14, osl, cc, ccl, cdd, vs, ccs, f, tf, cl, cld, csl, rfl, c2.1, qc, qv, s5, qk⟩
                        | _ => cases s4
                    | _ => cases s4
                | _ => cases s5
            | _ => cases s3'
        | _ => cases s3
    | _ => cases c
def xcB (K : PySem.W.Frag) (C : Addr) (b : PySem.OwnX.XB) : Bool := match K.lookup C with
  | some ⟨.type "type", _, .cls cd, sl⟩ => (match cd.mro, sl.toList with
    | .ref C' :: bm, [_, _, _, _, some (.builtin n), _] => (C' == C && n == b.nw) && (!cd.hasDel && (cd.hasDict && PySem.OwnX.overB b bm))
    | _, _ => false)
  | _ => false
def kwN (K : PySem.W.Frag) (a : Addr) : Bool := match K.lookup a with
  | some ⟨_, _, .func fd, _⟩ => isNoneV fd.kwdefaults
  | _ => false
theorem funN_of {a : Addr} {x qual : Str} {pa : Arguments} {bo : List Stmt} {sc : Scope} (e : fnV K a = some (x, qual, pa, .stmts bo, sc, mainGlobals, [], builtinsNs)) (c : codB K a qual = true) (n : kwN K a = true) : ∃ oc od doc pm an cd ct sl,
    K.lookup a = some ⟨oc, od, .func (PySem.W.fnOf x qual pa bo sc .none .none doc pm an cd ct), sl⟩ ∧ PySem.W.codeIn K cd qual = true := by
  obtain ⟨oc, od, kV, doc, pm, an, cd, ct, sl, l, q⟩ := fun_of e c
  have e1 : kV = .none := by
    unfold kwN at n
    rw [l] at n
    exact isNoneV_ok n
  subst e1
  exact ⟨oc, od, doc, pm, an, cd, ct, sl, l, q⟩
def tupVB (K : PySem.W.Frag) (a : Addr) (vs : List V) : Bool := match K.lookup a with
  | some ⟨.type "tuple", _, .seq its _, _⟩ => He.relAll vs its.toList
  | _ => false
def strB (o : Option (Option Value)) (z : Str) : Bool := match o with
  | some (some (.str y _)) => decide (y = z)
  | _ => false
theorem strB_ok {o : Option (Option Value)} {z : Str} (h : strB o z = true) : ∃ t, o = some (some (.str z t)) := by
  unfold strB at h
  split at h
  · exact ⟨_, by rw [of_decide_eq_true h]⟩
  · cases h
def intB (o : Option (Option Value)) (z : Int) : Bool := match o with
  | some (some (.int y _)) => decide (y = z)
  | _ => false
theorem intB_ok {o : Option (Option Value)} {z : Int} (h : intB o z = true) : ∃ t, o = some (some (.int z t)) := by
  unfold intB at h
  split at h
  · exact ⟨_, by rw [of_decide_eq_true h]⟩
  · cases h
end
def isClsO (o : Obj) : Bool := match o.data with
  | .cls _ => true
  | _ => false
def refsF (o : Obj) : List Addr := match o.data with
  | .func fd => He.refV fd.code ++ (He.refV fd.kwdefaults ++ fd.closure.map (·.2))
  | .cls cd => cd.ns :: cd.mro.tail.flatMap He.refV
  | .dict es _ => es.toList.flatMap fun e => He.refV e.val
  | .fields vs => (match o.cls with
    | .type "code" => []
    | _ => vs.toList.flatMap He.refV)
  | _ => []
def nxF (g : Addr → Option Obj) (as : List Addr) : List Addr := as.flatMap fun a => match g a with
  | some o => refsF o
  | none => []
def clF (g : Addr → Option Obj) (b : Bool) (as : List Addr) : List Addr := as.filter fun a => match g a with
  | some o => isClsO o == b
  | none => false
def frA {α : Type} : List Addr → (List Addr → α) → α
  | [], k => k []
  | a :: r, k => HandSHeadRun.frNat a fun a => frA r fun r => k (a :: r)
theorem frA_eq {α : Type} : ∀ (as : List Addr) (k : List Addr → α), frA as k = k as
  | [], _ => rfl
  | a :: r, k => by
    show HandSHeadRun.frNat a (fun a => frA r fun r => k (a :: r)) = _
    rw [HandSHeadRun.frNat_eq, frA_eq r]
def frK {α : Type} (g : Addr → Option Obj) : List Addr → (PySem.W.Frag → α) → α
  | [], k => k []
  | a :: r, k => HandSHeadRun.frNat a fun a => match g a with
    | some o => frK g r fun K => k ((a, o) :: K)
    | none => frK g r k
theorem frK_eq {α : Type} (g : Addr → Option Obj) : ∀ (as : List Addr) (k : PySem.W.Frag → α), frK g as k = k (He.frG g as)
  | [], _ => rfl
  | a :: r, k => by
    show HandSHeadRun.frNat a (fun a => match g a with
      | some o => frK g r fun K => k ((a, o) :: K)
      | none => frK g r k) = _
    rw [HandSHeadRun.frNat_eq]
    unfold He.frG
    rw [List.filterMap_cons]
    cases h : g a with
    | none => exact frK_eq g r k
    | some o => exact frK_eq g r fun K => k ((a, o) :: K)
def asF {α : Type} (g : Addr → Option Obj) (k : List Addr → α) : α :=
  frA (nxF g [mainGlobals]) fun l1 => frA (clF g true l1) fun lc => frA (clF g false l1) fun lf => frA (nxF g lc) fun ln => frA (nxF g ln) fun lm => frA (nxF g lm) fun lx => frA (nxF g lf) fun lk => frA (nxF g lx) fun ly =>
    k (mainGlobals :: cStatics :: (lc ++ (ln ++ (lm ++ (lf ++ (lx ++ (lk ++ ly)))))))
def asL (g : Addr → Option Obj) : List Addr := asF g fun as => as
theorem asF_eq {α : Type} (g : Addr → Option Obj) (k : List Addr → α) : asF g k = k (asL g) := by
  unfold asL asF
  simp only [frA_eq]
def obF {β : Type} (f : PySem.W.Frag → β) (g : Addr → Option Obj) : β := asF g fun as => frK g as f
theorem obF_eq {β : Type} (f : PySem.W.Frag → β) (g : Addr → Option Obj) : obF f g = f (He.frG g (asL g)) := by
  unfold obF
  rw [asF_eq, frK_eq]
abbrev AlH : Type := Bool × List FnV
def hookH (ex : PySem.W.Frag → Bool) (fs : PySem.W.Frag → List FnV) (vs : List FnV) : PySem.W.Hook where
  α := AlH
  obs := fun s => (ex (He.frG s.heap.get? (asL s.heap.get?)), fs (He.frG s.heap.get? (asL s.heap.get?)))
  val := fun _ => (true, vs)
  says := fun _ h => ∃ K : PySem.W.Frag, K.In h ∧ ex K = true ∧ fs K = vs
  of := fun _ _ e => ⟨_, He.frG_in, congrArg (fun z : AlH => z.1) e, congrArg (fun z : AlH => z.2) e⟩
  keeps := fun _ _ _ ⟨K, hK, c⟩ k => ⟨K, PySem.W.Frag.In.keeps hK k, c⟩
def obH (ex : PySem.W.Frag → Bool) (fs : PySem.W.Frag → List FnV) (s : PySem.W.SharedT) : AlH := (obF ex (HandSHeadRun.getT s), obF fs (HandSHeadRun.getT s))
theorem obH_eq {ex : PySem.W.Frag → Bool} {fs : PySem.W.Frag → List FnV} {vs : List FnV} (s : PySem.W.SharedT) : obH ex fs s = (hookH ex fs vs).obs s.abs := by
  have e : HandSHeadRun.getT s = s.abs.heap.get? := funext (HandSHeadRun.getT_eq s)
  unfold obH
  rw [obF_eq, obF_eq, e]
  rfl
open HandSHeadRun in
def PartEq (r : PySem.W.OpenRow) (M : Nat) (w : World) {β : Type} (f : PySem.W.SharedT → β) (v : β) : Prop := ∀ os : OsState, (endF (stepQ (denQ tabQ) r.prog w) M r.prog w os).map f = some v
section
variable {r : PySem.W.OpenRow} {M : Nat} {w : World}
theorem PartEq.pair {β γ : Type} {f : PySem.W.SharedT → β} {g : PySem.W.SharedT → γ} {v : β} {u : γ} (a : PartEq r M w f v) (b : PartEq r M w g u) : PartEq r M w (fun s => (f s, g s)) (v, u) := fun os => by
  have h1 := a os
  have h2 := b os
  cases e : HandSHeadRun.endF (HandSHeadRun.stepQ (HandSHeadRun.denQ HandSHeadRun.tabQ) r.prog w) M r.prog w os with
  | none => rw [e] at h1; cases h1
  | some s =>
    rw [e] at h1 h2
    have e1 := Option.some.inj h1
    have e2 := Option.some.inj h2
    show some (f s, g s) = some (v, u)
    rw [e1, e2]
theorem PartEq.and {f g : PySem.W.Frag → Bool} (a : PartEq r M w (fun s => obF f (HandSHeadRun.getT s)) true) (b : PartEq r M w (fun s => obF g (HandSHeadRun.getT s)) true) : PartEq r M w (fun s => obF (fun K => f K && g K) (HandSHeadRun.getT s)) true := fun os => by
  have h1 := a os
  have h2 := b os
  cases e : HandSHeadRun.endF (HandSHeadRun.stepQ (HandSHeadRun.denQ HandSHeadRun.tabQ) r.prog w) M r.prog w os with
  | none => rw [e] at h1; cases h1
  | some s =>
    rw [e] at h1 h2
    have e1 : obF f (HandSHeadRun.getT s) = true := Option.some.inj h1
    have e2 : obF g (HandSHeadRun.getT s) = true := Option.some.inj h2
    show some (obF (fun K => f K && g K) (HandSHeadRun.getT s)) = some true
    rw [obF_eq] at e1 e2 ⊢
    show some (f _ && g _) = some true
    rw [e1, e2]
    rfl
theorem PartEq.app {f g : PySem.W.Frag → List FnV} {vs us : List FnV} (a : PartEq r M w (fun s => obF f (HandSHeadRun.getT s)) vs) (b : PartEq r M w (fun s => obF g (HandSHeadRun.getT s)) us) : PartEq r M w (fun s => obF (fun K => f K ++ g K) (HandSHeadRun.getT s)) (vs ++ us) := fun os => by
  have h1 := a os
  have h2 := b os
  cases e : HandSHeadRun.endF (HandSHeadRun.stepQ (HandSHeadRun.denQ HandSHeadRun.tabQ) r.prog w) M r.prog w os with
  | none => rw [e] at h1; cases h1
  | some s =>
    rw [e] at h1 h2
    have e1 : obF f (HandSHeadRun.getT s) = vs := Option.some.inj h1
    have e2 : obF g (HandSHeadRun.getT s) = us := Option.some.inj h2
    show some (obF (fun K => f K ++ g K) (HandSHeadRun.getT s)) = some (vs ++ us)
    rw [obF_eq] at e1 e2 ⊢
    show some (f _ ++ g _) = some (vs ++ us)
    rw [e1, e2]
open PySem.W PySem.Calls PyProof.Rows in
theorem PartEq.run {q : Program} {loose : List PySem.Str} {ex : PySem.W.Frag → Bool} {fs : PySem.W.Frag → List FnV} {vs : List FnV}
    (a : PartEq r M w (fun s => (HandSHeadRun.looksF r.prog (boot_heap w.params) s.abs, HandSHeadRun.seenQ q loose (importedModules r.prog.main.body) (fun s => xlAt q [] s && recOk r.toRowW.records s) s.abs)) (true, openGood q loose))
    (b : PartEq r M w (fun s => obF ex (HandSHeadRun.getT s)) true) (c : PartEq r M w (fun s => obF fs (HandSHeadRun.getT s)) vs) : HandSHeadRun.RunEq r q (hookH ex fs vs) (obH ex fs) M loose w := fun os => by
  have h := (a.pair (b.pair c)) os
  cases e : HandSHeadRun.endF (HandSHeadRun.stepQ (HandSHeadRun.denQ HandSHeadRun.tabQ) r.prog w) M r.prog w os with
  | none => rw [e] at h; cases h
  | some s =>
    rw [e] at h
    have h1 := Option.some.inj h
    simp only [Prod.mk.injEq] at h1
    obtain ⟨⟨a1, a2⟩, b1, c1⟩ := h1
    exact congrArg some (Prod.ext a1 (Prod.ext a2 (Prod.ext b1 c1)))
end
def bT7 : List String := ["NoneType", "bool", "int", "str", "tuple", "list", "dict"]
def nB7 : List (String × Bool) := [("NoneType", false), ("bool", false), ("int", false), ("str", false), ("tuple", false), ("list", false), ("dict", false)]
abbrev gA (K : PySem.W.Frag) (x : Str) : Addr := He.ga K x
abbrev mA (K : PySem.W.Frag) (c m : Str) : Addr := He.ma K (He.ga K c) m
def ngB (K : PySem.W.Frag) (x : Str) : Bool := decide (PySem.W.nsIn K mainGlobals x = some (some (.ref (gA K x))))
def nnB (K : PySem.W.Frag) (x : Str) : Bool := decide (PySem.W.nsIn K mainGlobals x = some none)
def fcB (K : PySem.W.Frag) (a : Addr) : Bool := match K.lookup a with
  | some ⟨_, _, .func fd, _⟩ => (PySem.W.codeIn K fd.code fd.qualname && isNoneV fd.defaults) && PySem.W.keepIn K (.ref a)
  | _ => false
def clB (K : PySem.W.Frag) (c : Str) : Bool := ngB K c && (PySem.W.plainGet K (gA K c) Str.empty && (PySem.W.hasDictIn K (gA K c) && (PySem.W.plainOver K (gA K c) && (decide (PySem.W.findIn K (.ref (gA K c)) "__setattr__" = some (some (.builtin "object.__setattr__"))) && (decide (PySem.W.findIn K (.ref (gA K c)) "__class__" = some (some (.builtin "object.__class__"))) &&
  (decide (PySem.W.specialIn K (.builtin "object.__class__") "__get__" = some (some (.builtin "getset_descriptor.__get__"))) && (decide (PySem.W.takesIn K (.builtin "object.__class__") = some true) && decide (PySem.W.mroIn K (gA K c) (.type "object") = some true))))))))
def naB (K : PySem.W.Frag) (c : Str) (fs : List Str) : Bool := fs.all fun f => decide (PySem.W.findIn K (.ref (gA K c)) f = some none)
def mtB (K : PySem.W.Frag) (c m : Str) (a : Addr) : Bool := decide (PySem.W.findIn K (.ref (gA K c)) m = some (some (.ref a))) && PySem.W.isFn K (.ref a)
def mkB (K : PySem.W.Frag) (c : Str) : Bool := mtB K c "__init__" (mA K c "__init__") && (PySem.W.makesIn K (gA K c) && PySem.W.keepIn K (.ref (gA K c)))
def eqB (K : PySem.W.Frag) (c : Str) (a : Addr) (cs : List Str) : Bool := mtB K c "__eq__" a && (bT7.all (fun T => PySem.W.notFirst K (gA K c) (.type T)) && (cs.all (fun d => PySem.W.notFirst K (gA K c) (.ref (gA K d))) && decide (PySem.W.findIn K (.ref (gA K c)) "__ne__" = some (some (.builtin "object.__ne__")))))
def isB (K : PySem.W.Frag) (c : Str) (L : List (Str × Bool)) (B : List (String × Bool)) : Bool := PySem.W.isClsIn K (gA K c) && (decide (PySem.W.typeIn K (.ref (gA K c)) = some (.type "type")) && (decide (PySem.W.subIn K (.ref (gA K c)) (.ref (gA K c)) = some true) &&
  (L.all (fun q => decide (PySem.W.subIn K (.ref (gA K q.1)) (.ref (gA K c)) = some q.2)) && B.all (fun q => decide (PySem.W.subIn K (.type q.1) (.ref (gA K c)) = some q.2)))))
def xB (K : PySem.W.Frag) (x f : Str) (b : PySem.OwnX.XB) : Bool := ngB K x && (xcB K (gA K x) b && (decide (PySem.W.findIn K (.ref (gA K x)) "__setattr__" = some (some (.builtin "object.__setattr__"))) && (decide (PySem.W.findIn K (.ref (gA K x)) "__getattribute__" = some (some (.builtin "BaseException.__getattribute__"))) &&
  (decide (PySem.W.findIn K (.ref (gA K x)) "__getattr__" = some none) && (decide (PySem.W.findIn K (.ref (gA K x)) f = some none) && (decide (PySem.W.findIn K (.ref (gA K x)) "__init__" = some (some (.ref (mA K x "__init__")))) && (decide (PySem.W.typeIn K (.ref (mA K x "__init__")) = some (.type "function")) &&
  (PySem.W.keepIn K (.ref (gA K x)) && (decide (PySem.W.subIn K (.ref (gA K x)) (.type "BaseException") = some true) && (decide (PySem.W.typeIn K (.ref (gA K x)) = some (.type "type")) && (PySem.W.hasDictIn K (gA K x) && (PySem.W.isClsIn K (gA K x) && (decide (PySem.W.subIn K (.ref (gA K x)) (.ref (gA K x)) = some true) && kwN K (mA K x "__init__"))))))))))))))
def suB (K : PySem.W.Frag) (c : Str) (a : Addr) : Bool := PySem.W.isClsIn K (gA K c) && (decide (PySem.W.mroIn K (gA K c) (.ref (gA K c)) = some true) && (decide (PySem.W.typeIn K (.ref a) = some (.type "function")) && decide (PySem.W.ks_superIn K (gA K c) (gA K c) "__init__" = some (some (.ref a)))))
def gsB (K : PySem.W.Frag) (c s : Str) : Bool := strB (PySem.W.nsIn K mainGlobals c) s
def giB (K : PySem.W.Frag) (c : Str) (i : Int) : Bool := intB (PySem.W.nsIn K mainGlobals c) i
def gtB (K : PySem.W.Frag) (c : Str) (vs : List V) : Bool := ngB K c && tupVB K (gA K c) vs
end DL
namespace FN
end FN
namespace K10
open PySem L2 DL FN
def top (i : Nat) : Stmt := PySem.Challenge.pw_offeredentry_k10_patterns_compared.main.body.getD i (.Pass ⟨0, 0, 0, 0⟩)
def topC (i j : Nat) : Stmt := match top i with
  | .ClassDef _ _ _ body _ _ _ _ _ _ _ => body.getD j (.Pass ⟨0, 0, 0, 0⟩)
  | _ => .Pass ⟨0, 0, 0, 0⟩
abbrev s_label_shape : Stmt := top 14
abbrev s_is_label_text : Stmt := top 22
abbrev s__law_bag : Stmt := top 31
abbrev s__law_take : Stmt := top 32
abbrev s_Pattern_init : Stmt := topC 26 0
abbrev s_LabelPattern_eq : Stmt := topC 27 2
abbrev s_LabelPattern_str : Stmt := topC 27 3
abbrev s_HostPattern_eq : Stmt := topC 28 2
abbrev s_HostPattern_str : Stmt := topC 28 3
abbrev s_PathPattern_eq : Stmt := topC 29 2
abbrev s_PathPattern_str : Stmt := topC 29 3
abbrev s_shape_of_items : Stmt := top 23
abbrev s__law_of : Stmt := top 33
abbrev s__law_signs : Stmt := top 34
abbrev s_LabelPattern_init : Stmt := topC 27 0
abbrev s_host_shape : Stmt := top 24
abbrev s_path_shape : Stmt := top 25
abbrev s__law_glob : Stmt := top 36
abbrev s_HostPattern_init : Stmt := topC 28 0
abbrev s_PathPattern_init : Stmt := topC 29 0
abbrev s__law_made : Stmt := top 39
abbrev s_law : Stmt := top 40
def nm0L : List Str := ["label_shape", "is_label_text", "_law_bag", "_law_take", "shape_of_items", "_law_of", "_law_signs", "host_shape", "path_shape", "_law_glob", "_law_made", "law"]
def zsL : List Str := ["abs", "enumerate", "int", "isinstance", "len", "list", "max", "min", "range", "repr", "str", "super", "tuple"]
def clsL : List Str := ["HostPattern", "LabelPattern", "PathPattern"]
def eqL : List Str := ["LabelPattern", "HostPattern", "PathPattern"]
def fa0 (K : PySem.W.Frag) : List Addr := [(gA K "label_shape"), (gA K "is_label_text"), (gA K "_law_bag"), (gA K "_law_take"), (mA K "Pattern" "__init__"), (mA K "LabelPattern" "__eq__"), (mA K "LabelPattern" "__str__"), (mA K "HostPattern" "__eq__"), (mA K "HostPattern" "__str__"), (mA K "PathPattern" "__eq__"), (mA K "PathPattern" "__str__"), (gA K "shape_of_items")]
def fv0 : List FnV := [fnT "label_shape" "label_shape" s_label_shape [], fnT "is_label_text" "is_label_text" s_is_label_text [], fnT "_law_bag" "_law_bag" s__law_bag [], fnT "_law_take" "_law_take" s__law_take [], fnT "__init__" "Pattern.__init__" s_Pattern_init [], fnT "__eq__" "LabelPattern.__eq__" s_LabelPattern_eq [], fnT "__str__" "LabelPattern.__str__" s_LabelPattern_str [], fnT "__eq__" "HostPattern.__eq__" s_HostPattern_eq [], fnT "__str__" "HostPattern.__str__" s_HostPattern_str [], fnT "__eq__" "PathPattern.__eq__" s_PathPattern_eq [], fnT "__str__" "PathPattern.__str__" s_PathPattern_str [], fnT "shape_of_items" "shape_of_items" s_shape_of_items []]
def fa1 (K : PySem.W.Frag) : List Addr := [(gA K "_law_of"), (gA K "_law_signs"), (mA K "LabelPattern" "__init__"), (gA K "host_shape"), (gA K "path_shape"), (gA K "_law_glob"), (mA K "HostPattern" "__init__"), (mA K "PathPattern" "__init__"), (gA K "_law_made"), (gA K "law"), (mA K "BadPattern" "__init__")]
def fv1 : List FnV := [fnT "_law_of" "_law_of" s__law_of [], fnT "_law_signs" "_law_signs" s__law_signs [], fnT "__init__" "LabelPattern.__init__" s_LabelPattern_init ["__class__"], fnT "host_shape" "host_shape" s_host_shape [], fnT "path_shape" "path_shape" s_path_shape [], fnT "_law_glob" "_law_glob" s__law_glob [], fnT "__init__" "HostPattern.__init__" s_HostPattern_init ["__class__"], fnT "__init__" "PathPattern.__init__" s_PathPattern_init ["__class__"], fnT "_law_made" "_law_made" s__law_made [], fnT "law" "law" s_law [], some ("__init__", "BadPattern.__init__", PySem.OwnX.iA "pattern" ⟨7, 17, 7, 21⟩ ⟨7, 23, 7, 30⟩, .stmts (PySem.OwnX.iB "pattern" ⟨8, 8, 8, 12⟩ ⟨8, 8, 8, 20⟩ ⟨8, 23, 8, 30⟩ ⟨8, 8, 8, 30⟩), PySem.OwnX.iS "pattern", mainGlobals, [], builtinsNs)]
def ex0 (K : PySem.W.Frag) : Bool := nm0L.all (ngB K) && ((fa0 K).all (fcB K))
def ex1 (K : PySem.W.Frag) : Bool := (fa1 K).all (fcB K) && (supB K (mA K "LabelPattern" "__init__") (gA K "LabelPattern") PySem.Challenge.pw_offeredentry_k10_patterns_compared.main.file && (suB K "LabelPattern" (mA K "Pattern" "__init__")))
def ex2 (K : PySem.W.Frag) : Bool := supB K (mA K "HostPattern" "__init__") (gA K "HostPattern") PySem.Challenge.pw_offeredentry_k10_patterns_compared.main.file && (suB K "HostPattern" (mA K "Pattern" "__init__") && (supB K (mA K "PathPattern" "__init__") (gA K "PathPattern") PySem.Challenge.pw_offeredentry_k10_patterns_compared.main.file && (suB K "PathPattern" (mA K "Pattern" "__init__") && (xB K "BadPattern" "pattern" .ve && (decide (PySem.W.nsIn K cStatics "thirdparty.any" = some none))))))
def ex3 (K : PySem.W.Frag) : Bool := clsL.all (clB K) && (naB K "HostPattern" ["text", "level", "head", "tail", "gap"] && (mkB K "HostPattern" && (naB K "LabelPattern" ["text", "level", "head", "tail", "gap"] && (mkB K "LabelPattern" && (naB K "PathPattern" ["text", "level", "head", "tail", "gap"] && (mkB K "PathPattern"))))))
def ex4 (K : PySem.W.Frag) : Bool := eqB K "HostPattern" (mA K "HostPattern" "__eq__") eqL && (eqB K "LabelPattern" (mA K "LabelPattern" "__eq__") eqL && (eqB K "PathPattern" (mA K "PathPattern" "__eq__") eqL && ((decide (PySem.W.subIn K (.ref (gA K "HostPattern")) (.type "NoneType") = some false) && decide (PySem.W.subIn K (.ref (gA K "HostPattern")) (.type "bool") = some false) && decide (PySem.W.subIn K (.ref (gA K "HostPattern")) (.type "int") = some false)) && ((decide (PySem.W.subIn K (.ref (gA K "LabelPattern")) (.type "NoneType") = some false) && decide (PySem.W.subIn K (.ref (gA K "LabelPattern")) (.type "bool") = some false) && decide (PySem.W.subIn K (.ref (gA K "LabelPattern")) (.type "int") = some false)) && ((decide (PySem.W.subIn K (.ref (gA K "PathPattern")) (.type "NoneType") = some false) && decide (PySem.W.subIn K (.ref (gA K "PathPattern")) (.type "bool") = some false) && decide (PySem.W.subIn K (.ref (gA K "PathPattern")) (.type "int") = some false)))))))
def ex5 (K : PySem.W.Frag) : Bool := isB K "HostPattern" [("LabelPattern", false), ("HostPattern", true), ("PathPattern", false)] nB7 && (isB K "LabelPattern" [("LabelPattern", true), ("HostPattern", false), ("PathPattern", false)] nB7 && (isB K "PathPattern" [("LabelPattern", false), ("HostPattern", false), ("PathPattern", true)] nB7 && (mtB K "HostPattern" "__str__" (mA K "HostPattern" "__str__") && (mtB K "LabelPattern" "__str__" (mA K "LabelPattern" "__str__") && (mtB K "PathPattern" "__str__" (mA K "PathPattern" "__str__") && (zsL.all (nnB K) && (gsB K "CHARACTERS" "0123456789abcdefghijklmnopqrstuvwxyz" && (gsB K "GAP" "**"))))))))
def ex6 (K : PySem.W.Frag) : Bool := gsB K "HOST" "host" && (gtB K "HOST_LIMITS" [.int 1, .int 4, .int 3, .int 2] && (gsB K "LABEL" "label" && (giB K "LONGEST_TEXT" (8) && (gsB K "PATH" "path" && (gtB K "PATH_LIMITS" [.int 0, .int 3, .int 2, .int 2])))))
def exs (K : PySem.W.Frag) : Bool := ex0 K && (ex1 K && (ex2 K && (ex3 K && (ex4 K && (ex5 K && (ex6 K))))))
end K10
namespace K10
open PySem PySem.W PySem.Calls PyProof.Rows
def names0 : List PySem.Str := ["_wall", "__name__", "BadPattern", "CHARACTERS", "LONGEST_LABEL", "MOST_LABELS", "is_label", "is_path", "is_host", "LABEL", "HOST", "PATH", "label_shape", "label_fits", "row_fits", "LONGEST_TEXT", "GAP", "HOST_LIMITS", "PATH_LIMITS", "is_label_text", "shape_of_items", "host_shape", "path_shape", "Pattern", "LabelPattern", "HostPattern", "PathPattern", "_law_bag", "_law_take", "_law_of"]
def names1 : List PySem.Str := ["_law_signs", "_law_label", "_law_glob", "_law_fits", "_law_grown", "_law_made"]
def names : List PySem.Str := names0 ++ (names1)
abbrev RR : OpenRow := OpenLaw.row PySem.Challenge.rw_offeredentry_k10_patterns_compared
theorem run0a (w : World) : DL.PartEq RR 40000 w (fun s => HandSHeadRun.looksF RR.prog (boot_heap w.params) s.abs) true := by
  intro os
  kernel_rfl
theorem run0b (w : World) : DL.PartEq RR 40000 w (fun s => HandSHeadRun.seenQ (view RR.prog [40]) names (importedModules RR.prog.main.body) (fun s => xlAt (view RR.prog [40]) [] s && recOk RR.toRowW.records s) s.abs) (openGood (view RR.prog [40]) names) := by
  intro os
  kernel_rfl
def fssA (K : PySem.W.Frag) : List DL.FnV := (fa0 K).map (DL.fnV K)
def fvsA : List DL.FnV := fv0
theorem runFA (w : World) : DL.PartEq RR 40000 w (fun s => DL.obF fssA (HandSHeadRun.getT s)) fvsA := by
  intro os
  kernel_rfl
def fssB (K : PySem.W.Frag) : List DL.FnV := (fa1 K).map (DL.fnV K)
def fvsB : List DL.FnV := fv1
theorem runFB (w : World) : DL.PartEq RR 40000 w (fun s => DL.obF fssB (HandSHeadRun.getT s)) fvsB := by
  intro os
  kernel_rfl
def fss (K : PySem.W.Frag) : List DL.FnV := fssA K ++ fssB K
def fvs : List DL.FnV := fvsA ++ fvsB
def gx0 (K : PySem.W.Frag) : Bool := ex0 K && (ex1 K && (ex2 K && (ex3 K)))
theorem runG0 (w : World) : DL.PartEq RR 40000 w (fun s => DL.obF gx0 (HandSHeadRun.getT s)) true := by
  intro os
  kernel_rfl
def gx1 (K : PySem.W.Frag) : Bool := ex4 K && (ex5 K && (ex6 K))
theorem runG1 (w : World) : DL.PartEq RR 40000 w (fun s => DL.obF gx1 (HandSHeadRun.getT s)) true := by
  intro os
  kernel_rfl
def gxs (K : PySem.W.Frag) : Bool := gx0 K && (gx1 K)
theorem run (w : World) : HandSHeadRun.RunEq RR (view RR.prog [40]) (DL.hookH gxs fss fvs) (DL.obH gxs fss) 40000 names w := DL.PartEq.run ((run0a w).pair (run0b w)) ((runG0 w).and (runG1 w)) ((runFA w).app (runFB w))
theorem gxs_all {K : PySem.W.Frag} (c : gxs K = true) : exs K = true := by
  unfold gxs gx0 gx1 at c
  simp only [Bool.and_eq_true] at c
  unfold exs
  simp only [Bool.and_eq_true, c, and_self]
theorem bareE : RR.prog.bare := ⟨rfl, rfl, rfl, rfl, rfl, by decide +kernel⟩
theorem lawE (h : RR.wellSaid = true → RR.Holds) : PySem.Challenge.rw_offeredentry_k10_patterns_compared.Holds := by
  w_on; o_law
  exact h (by assumption)
end K10
namespace DL
open PySem L2
inductive D where
  | non
  | bl (b : Bool)
  | int (i : Int)
  | str (s : List Nat)
  | tup (ds : List D)
  | lst (ds : List D)
  | dic (ks vs : List D)
  | ins (c : Str) (ns : List Str) (ds : List D)
  | scr (is : List Int)
  | xc (a dd : Addr) (f : Str) (d : D)
instance : Inhabited D := ⟨.non⟩
structure Exn where
  c : Str
  f : Str
  d : D
inductive R (α : Type) where
  | ok (a : α)
  | ex (e : Exn)
  | stuck
@[simp] def R.bd {α β : Type} : R α → (α → R β) → R β
  | .ok a, f => f a
  | .ex e, _ => .ex e
  | .stuck, _ => .stuck
instance : Monad R where
  pure := .ok
  bind := R.bd
@[simp] theorem R.pure_eq {α : Type} (a : α) : (pure a : R α) = .ok a := rfl
@[simp] theorem R.bind_eq {α β : Type} (x : R α) (f : α → R β) : (x >>= f) = x.bd f := rfl
structure S where
  x : Int
  y : Int
  z : Int
  l : List Int
  w : Bool
inductive MO (α : Type) where
  | ok (a : α) (s : S)
  | ex (e : Exn) (s : S)
  | stuck
def M (α : Type) : Type := S → MO α
@[simp] def MO.bd {α β : Type} : MO α → (α → M β) → MO β
  | .ok a s, f => f a s
  | .ex e s, _ => .ex e s
  | .stuck, _ => .stuck
instance : Monad M where
  pure := fun a s => .ok a s
  bind := fun x f s => (x s).bd f
class Mo (m : Type → Type) extends Monad m where
  lift : {α : Type} → R α → m α
  wp : {α : Type} → m α → S → (α → S → Prop) → (Exn → S → Prop) → Prop
  wp_mono : ∀ {α : Type} {x : m α} {s : S} {Q Q' : α → S → Prop} {E E' : Exn → S → Prop}, wp x s Q E → (∀ a s, Q a s → Q' a s) → (∀ e s, E e s → E' e s) → wp x s Q' E'
  wp_pure : ∀ {α : Type} {a : α} {s : S} {Q : α → S → Prop} {E : Exn → S → Prop}, wp (pure a) s Q E → Q a s
  wp_bind : ∀ {α β : Type} {x : m α} {f : α → m β} {s : S} {Q : β → S → Prop} {E : Exn → S → Prop}, wp (x >>= f) s Q E → wp x s (fun a s' => wp (f a) s' Q E) E
  tryC : {α : Type} → m α → (Exn → m α) → m α
  wp_try : ∀ {α : Type} {x : m α} {h : Exn → m α} {s : S} {Q : α → S → Prop} {E : Exn → S → Prop}, wp (tryC x h) s Q E → wp x s Q (fun e s' => wp (h e) s' Q E)
  noex : {α : Type} → m α → m α
  wp_noex : ∀ {α : Type} {x : m α} {s : S} {Q : α → S → Prop} {E : Exn → S → Prop}, wp (noex x) s Q E → wp x s Q (fun _ _ => False)
  wp_lift : ∀ {α : Type} {r : R α} {s : S} {Q : α → S → Prop} {E : Exn → S → Prop}, wp (lift r) s Q E → (match r with | .ok a => Q a s | .ex e => E e s | .stuck => False)
def R.wp {α : Type} (x : R α) (s : S) (Q : α → S → Prop) (E : Exn → S → Prop) : Prop := match x with
  | .ok a => Q a s
  | .ex e => E e s
  | .stuck => False
def MO.wp {α : Type} (x : MO α) (Q : α → S → Prop) (E : Exn → S → Prop) : Prop := match x with
  | .ok a s => Q a s
  | .ex e s => E e s
  | .stuck => False
@[simp] def R.nx {α : Type} : R α → R α
  | .ok a => .ok a
  | .ex _ => .stuck
  | .stuck => .stuck
@[simp] def MO.nx {α : Type} : MO α → MO α
  | .ok a s => .ok a s
  | .ex _ _ => .stuck
  | .stuck => .stuck
def M.nx {α : Type} (x : M α) : M α := fun s => (x s).nx
@[simp] def R.tr {α : Type} : R α → (Exn → R α) → R α
  | .ok a, _ => .ok a
  | .ex e, h => h e
  | .stuck, _ => .stuck
@[simp] def MO.tr {α : Type} : MO α → (Exn → M α) → MO α
  | .ok a s, _ => .ok a s
  | .ex e s, h => h e s
  | .stuck, _ => .stuck
def M.tr {α : Type} (x : M α) (h : Exn → M α) : M α := fun s => (x s).tr h
instance : Mo R where
  tryC := R.tr
  wp_try := fun {α x h s Q E} w => by
    cases x with
    | ok a => exact w
    | ex e => exact w
    | stuck => exact w
  noex := R.nx
  wp_noex := fun {α x s Q E} h => by
    cases x with
    | ok a => exact h
    | ex e => exact h
    | stuck => exact h
  lift := fun x => x
  wp := R.wp
  wp_mono := fun {α x s Q Q' E E'} h hq he => by
    cases x with
    | ok a => exact hq _ _ h
    | ex e => exact he _ _ h
    | stuck => exact h
  wp_pure := fun h => h
  wp_bind := fun {α β x f s Q E} h => by
    cases x with
    | ok a => exact h
    | ex e => exact h
    | stuck => exact h
  wp_lift := fun {α r s Q E} h => by cases r <;> exact h
def liftM' {α : Type} (r : R α) : M α := fun s => match r with
  | .ok a => .ok a s
  | .ex e => .ex e s
  | .stuck => .stuck
instance : Mo M where
  tryC := M.tr
  wp_try := fun {α x h s Q E} w => by
    have w' : ((x s).tr h).wp Q E := w
    show (x s).wp _ _
    cases e : x s with
    | ok a s' => rw [e] at w'; exact w'
    | ex ee s' => rw [e] at w'; exact w'
    | stuck => rw [e] at w'; exact w'
  noex := M.nx
  wp_noex := fun {α x s Q E} h => by
    have h' : ((x s).nx).wp Q E := h
    show (x s).wp _ _
    cases e : x s with
    | ok a s' => rw [e] at h'; exact h'
    | ex ee s' => rw [e] at h'; exact h'
    | stuck => rw [e] at h'; exact h'
  lift := liftM'
  wp := fun x s Q E => (x s).wp Q E
  wp_mono := fun {α x s Q Q' E E'} h hq he => by
    show (x s).wp Q' E'
    have h' : (x s).wp Q E := h
    cases e : x s with
    | ok a s' => rw [e] at h'; exact hq _ _ h'
    | ex ee s' => rw [e] at h'; exact he _ _ h'
    | stuck => rw [e] at h'; exact h'
  wp_pure := fun h => h
  wp_bind := fun {α β x f s Q E} h => by
    have h' : ((x s).bd f).wp Q E := h
    show (x s).wp _ _
    cases e : x s with
    | ok a s' => rw [e] at h'; exact h'
    | ex ee s' => rw [e] at h'; exact h'
    | stuck => rw [e] at h'; exact h'
  wp_lift := fun {α r s Q E} h => by cases r <;> exact h
end DL
namespace DL
open PySem L2
def Sub (H H' : Hp) : Prop := ∀ a o, H a = some o → H' a = some o
theorem Sub.refl (H : Hp) : Sub H H := fun _ _ h => h
theorem Sub.trans {H H1 H2 : Hp} (a : Sub H H1) (b : Sub H1 H2) : Sub H H2 := fun x o h => b x o (a x o h)
theorem Sub.rd {H H' : Hp} {a : Addr} {u : HO} (e : Sub H H') (h : Rd H a u) : Rd H' a u := by
  rcases h with h | ⟨o, h⟩
  · exact .inl (e a _ h)
  · exact .inr ⟨o, e a _ h⟩
theorem Sub.sql {K : PySem.W.Frag} {H H' : Hp} {a : Addr} {xs : List V} (e : Sub H H') (h : SqL K H a xs) : SqL K H' a xs := by
  rcases h with h | h
  · exact .inl (e.rd h)
  · exact .inr h
theorem Sub.sqt {K : PySem.W.Frag} {H H' : Hp} {a : Addr} {xs : List V} (e : Sub H H') (h : SqT K H a xs) : SqT K H' a xs := by
  rcases h with h | h
  · exact .inl (e.rd h)
  · exact .inr h
def ScL (K : PySem.W.Frag) (H : Hp) (a : Addr) (xs : List V) : Prop := (∃ o, H a = some (.frz o (.lst xs))) ∨ ∃ (o : Obj) (its : Array Value) (n : Nat), K.lookup a = some o ∧ o.cls = .type "list" ∧ o.dict = none ∧ o.data = .seq its n ∧ its.size ≤ sizeLine ∧ Vals xs its.toList
theorem ScL.sq {K : PySem.W.Frag} {H : Hp} {a : Addr} {xs : List V} : ScL K H a xs → SqL K H a xs
  | .inl h => .inl (.inr h)
  | .inr h => .inr h
theorem Sub.scl {K : PySem.W.Frag} {H H' : Hp} {a : Addr} {xs : List V} (e : Sub H H') : ScL K H a xs → ScL K H' a xs
  | .inl ⟨o, h⟩ => .inl ⟨o, e _ _ h⟩
  | .inr h => .inr h
section
variable (K : PySem.W.Frag) (mg : Str → Option Value)
mutual
def Is (H : Hp) : D → V → Prop
  | .non, v => v = .non
  | .bl b, v => v = .bl b
  | .int i, v => v = .int i
  | .str s, v => v = .str ⟨s.toArray⟩ ∧ s.length ≤ sizeLine
  | .tup ds, v => ds.length ≤ sizeLine ∧ ∃ a vs, v = .ref a ∧ SqT K H a vs ∧ IsL H ds vs
  | .lst ds, v => ds.length ≤ sizeLine ∧ ∃ a vs, v = .ref a ∧ H a = some (.lst vs) ∧ IsL H ds vs
  | .dic ks ds, v => ∃ a kvs, v = .ref a ∧ Rd H a (.dK kvs) ∧ IsL H ks (kvs.map fun p => kV p.1) ∧ IsL H ds (kvs.map fun p => p.2)
  | .ins c ns ds, v => ∃ a C dx vs, v = .ref a ∧ mg c = some (.ref C) ∧ H a = some (.ins C dx (ns.zip vs)) ∧ ns.length = vs.length ∧ IsL H ds vs
  | .scr is, v => is.length ≤ sizeLine ∧ ∃ a, v = .ref a ∧ ScL K H a (is.map V.int)
  | .xc a dd f d, v => v = .ref a ∧ ∃ u, H dd = some (.xd [(f, u)]) ∧ Is H d u
def IsL (H : Hp) : List D → List V → Prop
  | [], vs => vs = []
  | d :: ds, vs => ∃ v r, vs = v :: r ∧ Is H d v ∧ IsL H ds r
end
end
section
variable {K : PySem.W.Frag} {mg : Str → Option Value}
mutual
theorem Is.mono {H H' : Hp} (s : Sub H H') : ∀ {d : D} {v : V}, Is K mg H d v → Is K mg H' d v
  | .non, _, h => h
  | .bl _, _, h => h
  | .int _, _, h => h
  | .str _, _, h => h
  | .tup ds, _, h => by
    obtain ⟨z, a, vs, e, t, l⟩ := h
    exact ⟨z, a, vs, e, s.sqt t, IsL.mono s l⟩
  | .lst ds, _, h => by
    obtain ⟨z, a, vs, e, t, l⟩ := h
    exact ⟨z, a, vs, e, s _ _ t, IsL.mono s l⟩
  | .dic ks ds, _, h => by
    obtain ⟨a, kvs, e, t, l, l'⟩ := h
    exact ⟨a, kvs, e, s.rd t, IsL.mono s l, IsL.mono s l'⟩
  | .ins c ns ds, _, h => by
    obtain ⟨a, C, dx, vs, e, m, t, n, l⟩ := h
    exact ⟨a, C, dx, vs, e, m, s _ _ t, n, IsL.mono s l⟩
  | .scr is, _, h => by
    obtain ⟨z, a, e, t⟩ := h
    exact ⟨z, a, e, s.scl t⟩
  | .xc a dd f d, _, h => by
    obtain ⟨e, u, q, i⟩ := h
    exact ⟨e, u, s _ _ q, Is.mono s i⟩
theorem IsL.mono {H H' : Hp} (s : Sub H H') : ∀ {ds : List D} {vs : List V}, IsL K mg H ds vs → IsL K mg H' ds vs
  | [], _, h => h
  | d :: ds, _, h => by
    obtain ⟨v, r, e, i, l⟩ := h
    exact ⟨v, r, e, Is.mono s i, IsL.mono s l⟩
end
theorem IsL.nil {H : Hp} : IsL K mg H [] [] := rfl
theorem IsL.cons {H : Hp} {d : D} {ds : List D} {v : V} {vs : List V} (h : Is K mg H d v) (l : IsL K mg H ds vs) : IsL K mg H (d :: ds) (v :: vs) := ⟨v, vs, rfl, h, l⟩
theorem IsL.len {H : Hp} : ∀ {ds : List D} {vs : List V}, IsL K mg H ds vs → ds.length = vs.length
  | [], _, h => by cases h; rfl
  | d :: ds, _, h => by
    obtain ⟨v, r, rfl, _, l⟩ := h
    simp [IsL.len l]
theorem IsL.app {H : Hp} : ∀ {ds es : List D} {vs ws : List V}, IsL K mg H ds vs → IsL K mg H es ws → IsL K mg H (ds ++ es) (vs ++ ws)
  | [], _, _, _, h, l => by cases h; exact l
  | d :: ds, _, _, _, h, l => by
    obtain ⟨v, r, rfl, i, t⟩ := h
    exact ⟨v, r ++ _, rfl, i, IsL.app t l⟩
theorem IsL.get {H : Hp} : ∀ {ds : List D} {vs : List V} {i : Nat} {d : D}, IsL K mg H ds vs → ds[i]? = some d → ∃ v, vs[i]? = some v ∧ Is K mg H d v
  | [], _, _, _, h, e => by simp at e
  | d :: ds, _, 0, _, h, e => by
    obtain ⟨v, r, rfl, i, t⟩ := h
    simp at e; subst e
    exact ⟨v, rfl, i⟩
  | d :: ds, _, i + 1, _, h, e => by
    obtain ⟨v, r, rfl, _, t⟩ := h
    simpa using IsL.get (i := i) t (by simpa using e)
theorem IsL.drop {H : Hp} : ∀ {ds : List D} {vs : List V} (n : Nat), IsL K mg H ds vs → IsL K mg H (ds.drop n) (vs.drop n)
  | _, _, 0, h => h
  | [], _, n + 1, h => by cases h; exact rfl
  | d :: ds, _, n + 1, h => by
    obtain ⟨v, r, rfl, _, t⟩ := h
    exact IsL.drop n t
theorem IsL.take {H : Hp} : ∀ {ds : List D} {vs : List V} (n : Nat), IsL K mg H ds vs → IsL K mg H (ds.take n) (vs.take n)
  | _, _, 0, h => rfl
  | [], _, n + 1, h => by cases h; exact rfl
  | d :: ds, _, n + 1, h => by
    obtain ⟨v, r, rfl, i, t⟩ := h
    exact ⟨v, _, rfl, i, IsL.take n t⟩
theorem IsL.set {H : Hp} {d' : D} {v' : V} (h' : Is K mg H d' v') : ∀ {ds : List D} {vs : List V} (n : Nat), IsL K mg H ds vs → IsL K mg H (ds.set n d') (vs.set n v')
  | [], _, _, h => by cases h; exact rfl
  | d :: ds, _, 0, h => by
    obtain ⟨v, r, rfl, _, t⟩ := h
    exact ⟨v', r, rfl, h', t⟩
  | d :: ds, _, n + 1, h => by
    obtain ⟨v, r, rfl, i, t⟩ := h
    exact ⟨v, _, rfl, i, IsL.set h' n t⟩
theorem IsL.eraseIdx {H : Hp} : ∀ {ds : List D} {vs : List V} (n : Nat), IsL K mg H ds vs → IsL K mg H (ds.eraseIdx n) (vs.eraseIdx n)
  | [], _, _, h => by cases h; exact rfl
  | d :: ds, _, 0, h => by
    obtain ⟨v, r, rfl, _, t⟩ := h
    exact t
  | d :: ds, _, n + 1, h => by
    obtain ⟨v, r, rfl, i, t⟩ := h
    exact ⟨v, _, rfl, i, IsL.eraseIdx n t⟩
theorem IsL.reverse {H : Hp} : ∀ {ds : List D} {vs : List V}, IsL K mg H ds vs → IsL K mg H ds.reverse vs.reverse
  | [], _, h => by cases h; exact rfl
  | d :: ds, _, h => by
    obtain ⟨v, r, rfl, i, t⟩ := h
    rw [List.reverse_cons, List.reverse_cons]
    exact (IsL.reverse t).app (.cons i .nil)
end
def BagAt (bag : List Addr) (H : Hp) (s : S) : Prop := match bag with
  | [] => True
  | [b] => s.w = false ∧ H b = some (.lst [.int s.x, .int s.y])
  | b :: c :: _ => s.w = true ∧ b ≠ c ∧ H b = some (.lst [.ref c, .int s.y, .int s.z]) ∧ H c = some (.lst (s.l.map V.int))
structure Ste (bag : List Addr) (Hf H Hf' H' : Hp) : Prop where
  sub : Sub Hf Hf'
  top : Sub Hf' H'
  keep : ∀ a o, H a = some o → a ∉ bag → H' a = some o
  dom : ∀ a, H a ≠ none → H' a ≠ none
  fresh : ∀ a o, Hf' a = some o → Hf a = some o ∨ H a = none
theorem Ste.refl {bag : List Addr} {Hf H : Hp} (h : Sub Hf H) : Ste bag Hf H Hf H := ⟨.refl _, h, fun _ _ e _ => e, fun _ e => e, fun _ _ e => .inl e⟩
theorem Ste.trans {bag : List Addr} {Hf H Hf1 H1 Hf2 H2 : Hp} (a : Ste bag Hf H Hf1 H1) (b : Ste bag Hf1 H1 Hf2 H2) : Ste bag Hf H Hf2 H2 :=
  ⟨a.sub.trans b.sub, b.top, fun x o e n => b.keep x o (a.keep x o e n) n, fun x e => b.dom x (a.dom x e), fun x o e => by
    rcases b.fresh x o e with h | h
    · exact a.fresh x o h
    · refine .inr ?_
      cases q : H x with
      | none => rfl
      | some u => exact absurd h (a.dom x (by rw [q]; simp))⟩
theorem Ste.wide {bag : List Addr} {Hf H Hf' H' : Hp} (a : Ste [] Hf H Hf' H') : Ste bag Hf H Hf' H' :=
  ⟨a.sub, a.top, fun x o e _ => a.keep x o e (by simp), a.dom, a.fresh⟩
theorem Ste.bag {bag : List Addr} {Hf H Hf' H' : Hp} {s : S} (a : Ste [] Hf H Hf' H') (h : BagAt bag H s) : BagAt bag H' s := by
  match bag, h with
  | [], _ => trivial
  | [b], ⟨hw, h⟩ => exact ⟨hw, a.keep _ _ h (by simp)⟩
  | b :: c :: _, ⟨hw, h0, h1, h2⟩ => exact ⟨hw, h0, a.keep _ _ h1 (by simp), a.keep _ _ h2 (by simp)⟩
theorem Ste.new {bag : List Addr} {Hf H : Hp} {p : Addr} {o : HO} (h : Sub Hf H) (hp : H p = none) : Ste bag Hf H (upd Hf p o) (upd H p o) := by
  have hf : Hf p = none := by
    cases q : Hf p with
    | none => rfl
    | some u => rw [h _ _ q] at hp; cases hp
  refine ⟨fun a u e => ?_, fun a u e => ?_, fun a u e _ => ?_, fun a e => ?_, fun a u e => ?_⟩
  · rw [upd_ne (ne_of_none e hf)]; exact e
  · by_cases q : a = p
    · subst q; rw [upd_same] at e ⊢; exact e
    · rw [upd_ne q] at e ⊢; exact h _ _ e
  · rw [upd_ne (ne_of_none e hp)]; exact e
  · by_cases q : a = p
    · subst q; exact absurd hp e
    · rw [upd_ne q]; exact e
  · by_cases q : a = p
    · subst q; exact .inr hp
    · rw [upd_ne q] at e; exact .inl e
theorem Ste.new' {bag : List Addr} {Hf H : Hp} {p : Addr} {o : HO} (h : Sub Hf H) (hp : H p = none) : Ste bag Hf H Hf (upd H p o) := by
  refine ⟨.refl _, fun a u e => ?_, fun a u e _ => ?_, fun a e => ?_, fun a u e => .inl e⟩
  · have : H a = some u := h _ _ e
    rw [upd_ne (ne_of_none this hp)]; exact this
  · rw [upd_ne (ne_of_none e hp)]; exact e
  · by_cases q : a = p
    · subst q; exact absurd hp e
    · rw [upd_ne q]; exact e
theorem Sub.none {Hf H : Hp} (h : Sub Hf H) {p : Addr} (hp : H p = none) : Hf p = none := by
  cases q : Hf p with
  | none => rfl
  | some u => rw [h _ _ q] at hp; cases hp
inductive Sl where
  | un
  | im (d : D)
  | ow (ds : List D)
  | bg
  | od (ks ds : List D)
  | ob (ns : List Str) (ds : List D)
structure Fx where
  bag : List Addr
  H0 : Hp
  Hf0 : Hp
  W : WX
  gx : Option (List Sl)
  nr : Bool
  me : List Addr
  nas : List Str
section
variable (K : PySem.W.Frag) (mg : Str → Option Value)
def SlOk (fx : Fx) (Hf H : Hp) (o : Option (Option V)) : Sl → Prop
  | .un => True
  | .im d => ∃ v, o = some (some v) ∧ Is K mg Hf d v
  | .ow ds => ∃ p vs, o = some (some (.ref p)) ∧ H p = some (.lst vs) ∧ Hf p = none ∧ fx.H0 p = none ∧ p ∉ fx.bag ∧ IsL K mg Hf ds vs ∧ ds.length ≤ sizeLine
  | .bg => ∃ b r, fx.bag = b :: r ∧ o = some (some (.ref b))
  | .od ks ds => ∃ p kvs, o = some (some (.ref p)) ∧ H p = some (.dK kvs) ∧ Hf p = none ∧ fx.H0 p = none ∧ p ∉ fx.bag ∧ IsL K mg Hf ks (kvs.map fun p => kV p.1) ∧ IsL K mg Hf ds (kvs.map fun p => p.2) ∧ ks.length ≤ sizeLine
  | .ob ns ds => ∃ p C dx vs, o = some (some (.ref p)) ∧ H p = some (.ins C dx (ns.zip vs)) ∧ Hf p = none ∧ (p ∈ fx.me ∧ ∃ f0, fx.H0 p = some (.ins C dx f0)) ∧ p ∉ fx.bag ∧ (Cls K C ∧ ∀ f ∈ fx.nas, NoAttr K C f) ∧ ns.length = vs.length ∧ IsL K mg Hf ds vs
def RtOk : Bool → Hp → Hp → Hp → D → V → Prop
  | false, _, Hf', _, d, v => Is K mg Hf' d v
  | true, H0, Hf', H', d, v => ∃ p vs ds, d = .lst ds ∧ v = .ref p ∧ H' p = some (.lst vs) ∧ Hf' p = none ∧ H0 p = none ∧ IsL K mg Hf' ds vs ∧ ds.length ≤ sizeLine
def isOw : Sl → Bool
  | .ow _ => true
  | .od _ _ => true
  | .ob _ _ => true
  | _ => false
structure StS (fx : Fx) (Hf H : Hp) (σ : L2.St) (G : List Sl) (s : S) : Prop where
  ste : Ste (fx.me ++ fx.bag) fx.Hf0 fx.H0 Hf H
  bag : BagAt fx.bag H s
  bagg : ∀ b ∈ fx.me ++ fx.bag, Hf b = none ∧ H b ≠ none ∧ (b ∈ fx.me → fx.H0 b ≠ none)
  len : σ.length = G.length
  sl : ∀ (i : Nat) (x : Sl), G[i]? = some x → SlOk K mg fx Hf H σ[i]? x
  dis : ∀ (i j : Nat) (x y : Sl) (p : Addr), i ≠ j → G[i]? = some x → G[j]? = some y → isOw x = true → isOw y = true → σ[i]? = some (some (.ref p)) → σ[j]? = some (some (.ref p)) → False
end
section
variable {K : PySem.W.Frag} {mg : Str → Option Value} {fx : Fx} {Hf H Hf' H' : Hp} {σ : L2.St} {G G' : List Sl} {s s' : S}
theorem StS.bagf (st : StS K mg fx Hf H σ G s) : ∀ b ∈ fx.bag, Hf b = none ∧ H b ≠ none := fun b m => ⟨(st.bagg b (List.mem_append_right _ m)).1, (st.bagg b (List.mem_append_right _ m)).2.1⟩
theorem StS.owNb (st : StS K mg fx Hf H σ G s) {p : Addr} (h0 : fx.H0 p = none) (nb : p ∉ fx.bag) : p ∉ fx.me ++ fx.bag := fun m => by
  rcases List.mem_append.mp m with q | q
  · exact (st.bagg p m).2.2 q h0
  · exact nb q
theorem Ste.wider {bag bag' : List Addr} {Hf H Hf' H' : Hp} (a : Ste bag Hf H Hf' H') : Ste (bag' ++ bag) Hf H Hf' H' :=
  ⟨a.sub, a.top, fun x o e n => a.keep x o e fun z => n (List.mem_append_right _ z), a.dom, a.fresh⟩
theorem StS.top (st : StS K mg fx Hf H σ G s) : Sub Hf H := st.ste.top
theorem Ste.stayNone {bag : List Addr} {Hf H Hf' H' : Hp} (a : Ste bag Hf H Hf' H') {p : Addr} (hf : Hf p = none) (h : H p ≠ none) : Hf' p = none := by
  cases q : Hf' p with
  | none => rfl
  | some u =>
    rcases a.fresh _ _ q with z | z
    · rw [hf] at z; cases z
    · exact absurd z h
theorem SlOk.step {o : Option (Option V)} (a : Ste fx.bag Hf H Hf' H') : ∀ {x : Sl}, SlOk K mg fx Hf H o x → SlOk K mg fx Hf' H' o x
  | .un, _ => trivial
  | .im d, ⟨v, e, i⟩ => ⟨v, e, i.mono a.sub⟩
  | .ow ds, ⟨p, vs, e, h, hf, h0, nb, l, z⟩ => ⟨p, vs, e, a.keep _ _ h nb, a.stayNone hf (by rw [h]; simp), h0, nb, l.mono a.sub, z⟩
  | .bg, h => h
  | .od ks ds, ⟨p, vs, e, h, hf, h0, nb, l, l', z⟩ => ⟨p, vs, e, a.keep _ _ h nb, a.stayNone hf (by rw [h]; simp), h0, nb, l.mono a.sub, l'.mono a.sub, z⟩
  | .ob ns ds, ⟨p, C, dx, vs, e, h, hf, h0, nb, c, hn, l⟩ => ⟨p, C, dx, vs, e, a.keep _ _ h nb, a.stayNone hf (by rw [h]; simp), h0, nb, c, hn, l.mono a.sub⟩
theorem StS.step (st : StS K mg fx Hf H σ G s) (a : Ste fx.bag Hf H Hf' H') (hb : BagAt fx.bag H' s') : StS K mg fx Hf' H' σ G s' :=
  ⟨st.ste.trans a.wider, hb, fun b m => ⟨a.stayNone (st.bagg b m).1 (st.bagg b m).2.1, a.dom _ (st.bagg b m).2.1, (st.bagg b m).2.2⟩, st.len, fun i x e => (st.sl i x e).step a, st.dis⟩
def Wk : List Sl → List Sl → Prop
  | [], [] => True
  | x :: xs, y :: ys => (x = y ∨ y = .un) ∧ Wk xs ys
  | _, _ => False
theorem Wk.len : ∀ {G G' : List Sl}, Wk G G' → G.length = G'.length
  | [], [], _ => rfl
  | _ :: _, _ :: _, h => by simp [Wk.len h.2]
  | [], _ :: _, h => h.elim
  | _ :: _, [], h => h.elim
theorem Wk.get : ∀ {G G' : List Sl} {i : Nat} {y : Sl}, Wk G G' → G'[i]? = some y → ∃ x, G[i]? = some x ∧ (x = y ∨ y = .un)
  | [], [], _, _, _, e => by simp at e
  | x :: _, y :: _, 0, _, h, e => by simp at e; subst e; exact ⟨x, rfl, h.1⟩
  | _ :: _, _ :: _, i + 1, _, h, e => by simpa using Wk.get (i := i) h.2 (by simpa using e)
  | [], _ :: _, _, _, h, _ => h.elim
  | _ :: _, [], _, _, h, _ => h.elim
theorem Wk.refl : ∀ (G : List Sl), Wk G G
  | [] => trivial
  | x :: xs => ⟨.inl rfl, Wk.refl xs⟩
theorem StS.weak (st : StS K mg fx Hf H σ G s) (w : Wk G G') : StS K mg fx Hf H σ G' s :=
  ⟨st.ste, st.bag, st.bagg, st.len.trans w.len, fun i y e => by
    obtain ⟨x, ex, h⟩ := w.get e
    rcases h with rfl | rfl
    · exact st.sl i x ex
    · trivial, fun i j x y p hij ex ey ox oy => by
    obtain ⟨x', ex', hx⟩ := w.get ex
    obtain ⟨y', ey', hy⟩ := w.get ey
    rcases hx with rfl | rfl
    · rcases hy with rfl | rfl
      · exact st.dis i j _ _ p hij ex' ey' ox oy
      · cases oy
    · cases ox⟩
theorem StS.set {i : Nat} {d : D} {v : V} (st : StS K mg fx Hf H σ G s) (h : Is K mg Hf d v) : StS K mg fx Hf H (σ.set i (some v)) (G.set i (.im d)) s := by
  refine ⟨st.ste, st.bag, st.bagg, by simpa using st.len, fun j x e => ?_, fun j k x y p hjk ex ey ox oy e1 e2 => ?_⟩
  · by_cases q : i = j
    · subst q
      have hi : i < G.length := by
        have := (List.getElem?_eq_some_iff.mp e).1
        simpa using this
      rw [List.getElem?_set_self hi] at e
      cases e
      exact ⟨v, List.getElem?_set_self (by rw [st.len]; exact hi), h⟩
    · rw [List.getElem?_set_ne q] at e
      rw [List.getElem?_set_ne q]
      exact st.sl j x e
  · have nj : i ≠ j := by
      rintro rfl
      have hi : i < G.length := by
        have := (List.getElem?_eq_some_iff.mp ex).1
        simpa using this
      rw [List.getElem?_set_self hi] at ex
      cases ex; cases ox
    have nk : i ≠ k := by
      rintro rfl
      have hi : i < G.length := by
        have := (List.getElem?_eq_some_iff.mp ey).1
        simpa using this
      rw [List.getElem?_set_self hi] at ey
      cases ey; cases oy
    rw [List.getElem?_set_ne nj] at ex e1
    rw [List.getElem?_set_ne nk] at ey e2
    exact st.dis j k x y p hjk ex ey ox oy e1 e2
theorem StS.setOw {i : Nat} {ds : List D} {p : Addr} {vs : List V} (st : StS K mg fx Hf H σ G s) (hn : ∀ (j : Nat) (q : Addr), σ[j]? = some (some (.ref q)) → (∀ x, G[j]? = some x → isOw x = true → q ≠ p)) (h : H p = some (.lst vs)) (hf : Hf p = none) (h0 : fx.H0 p = none) (nb : p ∉ fx.bag) (l : IsL K mg Hf ds vs) (hz : ds.length ≤ sizeLine) :
    StS K mg fx Hf H (σ.set i (some (.ref p))) (G.set i (.ow ds)) s := by
  refine ⟨st.ste, st.bag, st.bagg, by simpa using st.len, fun j x e => ?_, fun j k x y q hjk ex ey ox oy e1 e2 => ?_⟩
  · by_cases q : i = j
    · subst q
      have hi : i < G.length := by
        have := (List.getElem?_eq_some_iff.mp e).1
        simpa using this
      rw [List.getElem?_set_self hi] at e
      cases e
      exact ⟨p, vs, List.getElem?_set_self (by rw [st.len]; exact hi), h, hf, h0, nb, l, hz⟩
    · rw [List.getElem?_set_ne q] at e
      rw [List.getElem?_set_ne q]
      exact st.sl j x e
  · have hi : ∀ {z : Sl}, (G.set i (.ow ds))[i]? = some z → i < σ.length := fun e => by
      have := (List.getElem?_eq_some_iff.mp e).1
      rw [st.len]
      simpa using this
    by_cases a : i = j
    · subst a
      rw [List.getElem?_set_self (hi ex)] at e1
      have hk : i ≠ k := hjk
      rw [List.getElem?_set_ne hk] at ey e2
      cases e1
      exact hn k p e2 y ey oy rfl
    · rw [List.getElem?_set_ne a] at ex e1
      by_cases b : i = k
      · subst b
        rw [List.getElem?_set_self (hi ey)] at e2
        cases e2
        exact hn j p e1 x ex ox rfl
      · rw [List.getElem?_set_ne b] at ey e2
        exact st.dis j k x y q hjk ex ey ox oy e1 e2
end
theorem BagAt.upd {bag : List Addr} {H : Hp} {s : S} {p : Addr} {o : HO} (h : BagAt bag H s) (nb : p ∉ bag) : BagAt bag (L2.upd H p o) s := by
  match bag, h, nb with
  | [], _, _ => trivial
  | [b], h, nb =>
    have e : H b = some (.lst [.int s.x, .int s.y]) := h.2
    refine ⟨h.1, ?_⟩
    rw [upd_ne (fun z => nb (by simp [z]))]
    exact e
  | b :: c :: r, ⟨hw, h0, h1, h2⟩, nb =>
    refine ⟨hw, h0, ?_, ?_⟩
    · rw [upd_ne (fun z => nb (by simp [z]))]; exact h1
    · rw [upd_ne (fun z => nb (by simp [z]))]; exact h2
section
variable {K : PySem.W.Frag} {mg : Str → Option Value} {fx : Fx} {Hf H : Hp} {σ : L2.St} {G : List Sl} {s : S}
theorem SlOk.ref {o : Option (Option V)} : ∀ {x : Sl}, isOw x = true → SlOk K mg fx Hf H o x → ∃ p, o = some (some (.ref p)) ∧ H p ≠ none ∧ Hf p = none ∧ p ∉ fx.bag ∧ (fx.H0 p = none ∨ p ∈ fx.me)
  | .un, h, _ => by cases h
  | .im d, h, _ => by cases h
  | .bg, h, _ => by cases h
  | .ow ds, _, ⟨p, vs, e, h, hf, h0, nb, l, z⟩ => ⟨p, e, by rw [h]; simp, hf, nb, .inl h0⟩
  | .od ks ds, _, ⟨p, vs, e, h, hf, h0, nb, l, l', z⟩ => ⟨p, e, by rw [h]; simp, hf, nb, .inl h0⟩
  | .ob ns ds, _, ⟨p, C, dx, vs, e, h, hf, h0, nb, c, hn, l⟩ => ⟨p, e, by rw [h]; simp, hf, nb, .inr h0.1⟩
theorem SlOk.upd {o : Option (Option V)} {p : Addr} {u : HO} : ∀ {x : Sl}, (∀ q, isOw x = true → o = some (some (.ref q)) → q ≠ p) → SlOk K mg fx Hf H o x → SlOk K mg fx Hf (L2.upd H p u) o x
  | .un, _, _ => trivial
  | .im d, _, h => h
  | .bg, _, h => h
  | .ow ds, w, ⟨q, vs, e, h, hf, h0, nb, l, z⟩ => ⟨q, vs, e, by rw [upd_ne (w q rfl e)]; exact h, hf, h0, nb, l, z⟩
  | .od ks ds, w, ⟨q, vs, e, h, hf, h0, nb, l, l', z⟩ => ⟨q, vs, e, by rw [upd_ne (w q rfl e)]; exact h, hf, h0, nb, l, l', z⟩
  | .ob ns ds, w, ⟨q, C, dx, vs, e, h, hf, h0, nb, c, hn, l⟩ => ⟨q, C, dx, vs, e, by rw [upd_ne (w q rfl e)]; exact h, hf, h0, nb, c, hn, l⟩
theorem SlOk.frz {o : Option (Option V)} {p : Addr} {u : HO} (sb : Sub Hf (L2.upd Hf p u)) : ∀ {x : Sl}, (∀ q, isOw x = true → o = some (some (.ref q)) → q ≠ p) → SlOk K mg fx Hf H o x → SlOk K mg fx (L2.upd Hf p u) H o x
  | .un, _, _ => trivial
  | .im d, _, ⟨v, a, b⟩ => ⟨v, a, b.mono sb⟩
  | .bg, _, h => h
  | .ow ds, w, ⟨q, vs, e, h, hf, h0, nb, l, z⟩ => ⟨q, vs, e, h, by rw [upd_ne (w q rfl e)]; exact hf, h0, nb, l.mono sb, z⟩
  | .od ks ds, w, ⟨q, vs, e, h, hf, h0, nb, l, l', z⟩ => ⟨q, vs, e, h, by rw [upd_ne (w q rfl e)]; exact hf, h0, nb, l.mono sb, l'.mono sb, z⟩
  | .ob ns ds, w, ⟨q, C, dx, vs, e, h, hf, h0, nb, c, hn, l⟩ => ⟨q, C, dx, vs, e, h, by rw [upd_ne (w q rfl e)]; exact hf, h0, nb, c, hn, l.mono sb⟩
theorem StS.updAt {i : Nat} {x x' : Sl} {p : Addr} {u : HO} (st : StS K mg fx Hf H σ G s) (hG : G[i]? = some x) (ox : isOw x = true) (hp : σ[i]? = some (some (.ref p))) (ox' : isOw x' = true) (new : SlOk K mg fx Hf (upd H p u) (some (some (.ref p))) x') :
    StS K mg fx Hf (upd H p u) σ (G.set i x') s := by
  obtain ⟨q, e, h, hf, nb, h0⟩ := (st.sl i _ hG).ref ox
  have eq : q = p := by rw [hp] at e; cases e; rfl
  subst eq
  have hi : i < G.length := (List.getElem?_eq_some_iff.mp hG).1
  clear e
  refine ⟨⟨st.ste.sub, fun a o e => ?_, fun a o e n => ?_, fun a n => ?_, st.ste.fresh⟩, st.bag.upd nb, fun b m => ⟨(st.bagg b m).1, ?_, (st.bagg b m).2.2⟩, by simpa using st.len, fun j x ex => ?_, fun j k x y r hjk ex ey ox oy e1 e2 => ?_⟩
  · have ne : a ≠ q := fun z => by rw [z, hf] at e; cases e
    rw [upd_ne ne]
    exact st.top a o e
  · have ne : a ≠ q := fun z => by
      rcases h0 with y | y
      · rw [z, y] at e; cases e
      · exact n (List.mem_append_left _ (z ▸ y))
    rw [upd_ne ne]
    exact st.ste.keep a o e n
  · by_cases ne : a = q
    · rw [ne, upd_same]; simp
    · rw [upd_ne ne]; exact st.ste.dom a n
  · by_cases ne : b = q
    · rw [ne, upd_same]; simp
    · rw [upd_ne ne]
      exact (st.bagg b m).2.1
  · by_cases c : i = j
    · subst c
      rw [List.getElem?_set_self hi] at ex
      cases ex
      rw [hp]
      exact new
    · rw [List.getElem?_set_ne c] at ex
      exact (st.sl j x ex).upd fun q2 o2 e2 z => st.dis i j _ _ q c hG ex ox o2 hp (by rw [e2, z])
  · have get : ∀ {n : Nat} {z : Sl}, (G.set i x')[n]? = some z → isOw z = true → ∃ z', G[n]? = some z' ∧ isOw z' = true := fun {n z} e o => by
      by_cases c : i = n
      · subst c; exact ⟨_, hG, by assumption⟩
      · rw [List.getElem?_set_ne c] at e; exact ⟨z, e, o⟩
    obtain ⟨x1, ex', ox1⟩ := get ex ox
    obtain ⟨y1, ey', oy1⟩ := get ey oy
    exact st.dis j k x1 y1 r hjk ex' ey' ox1 oy1 e1 e2
theorem StS.updOw {i : Nat} {ds ds' : List D} {p : Addr} {vs' : List V} (st : StS K mg fx Hf H σ G s) (hG : G[i]? = some (.ow ds)) (hp : σ[i]? = some (some (.ref p))) (l : IsL K mg Hf ds' vs') (hz : ds'.length ≤ sizeLine) :
    StS K mg fx Hf (upd H p (.lst vs')) σ (G.set i (.ow ds')) s := by
  obtain ⟨q, vs, e, h, hf, h0, nb, l0, z0⟩ := st.sl i _ hG
  have eq : q = p := by rw [hp] at e; cases e; rfl
  subst eq
  exact st.updAt hG rfl hp rfl ⟨q, vs', rfl, upd_same, hf, h0, nb, l, hz⟩
theorem StS.freezeAt {i : Nat} {x : Sl} {d : D} {p : Addr} {u : HO} (st : StS K mg fx Hf H σ G s) (hG : G[i]? = some x) (ox : isOw x = true) (hp : σ[i]? = some (some (.ref p))) (hu : H p = some u) (h0 : fx.H0 p = none) (is : ∀ Hf', Sub Hf Hf' → Hf' p = some u → Is K mg Hf' d (.ref p)) :
    ∃ Hf', (Sub Hf Hf' ∧ ∀ a o, Hf' a = some o → Hf a = some o ∨ o = u) ∧ StS K mg fx Hf' H σ (G.set i (.im d)) s := by
  obtain ⟨q, e, h, hf, nb, _⟩ := (st.sl i _ hG).ref ox
  have eq : q = p := by rw [hp] at e; cases e; rfl
  subst eq
  have hi : i < G.length := (List.getElem?_eq_some_iff.mp hG).1
  have sb : Sub Hf (upd Hf q u) := fun a o z => by
    have ne : a ≠ q := fun y => by rw [y, hf] at z; cases z
    rw [upd_ne ne]; exact z
  refine ⟨upd Hf q u, ⟨sb, fun a o z => by
    by_cases c : a = q
    · subst c; rw [upd_same] at z; cases z; exact .inr rfl
    · rw [upd_ne c] at z; exact .inl z⟩, ⟨st.ste.sub.trans sb, fun a o z => ?_, st.ste.keep, st.ste.dom, fun a o z => ?_⟩, st.bag, fun b m => ⟨?_, (st.bagg b m).2⟩, by simpa using st.len, fun j x ex => ?_, fun j k x y r hjk ex ey ox oy e1 e2 => ?_⟩
  · by_cases c : a = q
    · subst c; rw [upd_same] at z; cases z; exact hu
    · rw [upd_ne c] at z; exact st.top a o z
  · by_cases c : a = q
    · subst c; exact .inr h0
    · rw [upd_ne c] at z; exact st.ste.fresh a o z
  · have ne : b ≠ q := fun z => st.owNb h0 nb (z ▸ m)
    rw [upd_ne ne]; exact (st.bagg b m).1
  · by_cases c : i = j
    · subst c
      rw [List.getElem?_set_self hi] at ex
      cases ex
      exact ⟨_, e, is _ sb upd_same⟩
    · rw [List.getElem?_set_ne c] at ex
      exact (st.sl j x ex).frz sb fun q2 o2 e2 z => st.dis i j _ _ q c hG ex ox o2 hp (by rw [e2, z])
  · have nx : i ≠ j := fun z => by subst z; rw [List.getElem?_set_self hi] at ex; cases ex; cases ox
    have ny : i ≠ k := fun z => by subst z; rw [List.getElem?_set_self hi] at ey; cases ey; cases oy
    rw [List.getElem?_set_ne nx] at ex
    rw [List.getElem?_set_ne ny] at ey
    exact st.dis j k x y r hjk ex ey ox oy e1 e2
theorem StS.freeze {i : Nat} {ds : List D} (st : StS K mg fx Hf H σ G s) (hG : G[i]? = some (.ow ds)) : ∃ Hf', Sub Hf Hf' ∧ StS K mg fx Hf' H σ (G.set i (.im (.lst ds))) s := by
  obtain ⟨p, vs, e, h, hf, h0, nb, l0, z0⟩ := st.sl i _ hG
  obtain ⟨Hf', ⟨sb, _⟩, st'⟩ := st.freezeAt (d := .lst ds) hG rfl e h h0 fun Hf' sb z => ⟨z0, p, vs, rfl, z, l0.mono sb⟩
  exact ⟨Hf', sb, st'⟩
theorem StS.freeze2 {i : Nat} {ds : List D} (st : StS K mg fx Hf H σ G s) (hG : G[i]? = some (.ow ds)) : ∃ Hf', Sub Hf Hf' ∧ (∀ a o, Hf' a = some o → Hf a = some o ∨ ∃ vs, o = .lst vs) ∧ StS K mg fx Hf' H σ (G.set i (.im (.lst ds))) s := by
  obtain ⟨p, vs, e, h, hf, h0, nb, l0, z0⟩ := st.sl i _ hG
  obtain ⟨Hf', ⟨sb, nw⟩, st'⟩ := st.freezeAt (d := .lst ds) hG rfl e h h0 fun Hf' sb z => ⟨z0, p, vs, rfl, z, l0.mono sb⟩
  exact ⟨Hf', sb, fun a o z => (nw a o z).imp id fun e => ⟨_, e⟩, st'⟩
theorem StS.new0 (st : StS K mg fx Hf H σ G s) {p : Addr} (h : H p = none) : fx.H0 p = none ∧ p ∉ fx.bag ∧ Hf p = none := by
  refine ⟨?_, fun m => (st.bagf p m).2 h, st.top.none h⟩
  cases q : fx.H0 p with
  | none => rfl
  | some o => exact absurd h (st.ste.dom p (by rw [q]; simp))
theorem StS.owNe (st : StS K mg fx Hf H σ G s) {p : Addr} (h : H p = none) : ∀ (j : Nat) (q : Addr), σ[j]? = some (some (.ref q)) → (∀ x, G[j]? = some x → isOw x = true → q ≠ p) := fun j q e x ex ox z => by
  obtain ⟨q2, e2, h2, _⟩ := (st.sl j _ ex).ref ox
  rw [e] at e2
  cases e2
  rw [z] at h2
  exact h2 h
end
end DL
namespace DL
open PySem L2
section
variable (K : PySem.W.Frag) (mg : Str → Option Value) (fx : Fx)
def ExIs (Hf H : Hp) (e : Exn) (cls : Value) (dd : Option Addr) : Prop :=
  ∃ C a v, mg e.c = some (.ref C) ∧ cls = .ref C ∧ dd = some a ∧ Hf a = some (.xd [(e.f, v)]) ∧ Is K mg Hf e.d v
def EX (G : List Sl) (σ : L2.St) : Exn → S → Prop := fun e s' => ∀ cls dd Hf' H', StS K mg fx Hf' H' σ G s' → ExIs K mg Hf' H' e cls dd → fx.W cls dd σ H'
variable {m : Type → Type} [Mo m] {α β : Type}
def tX (G : List Sl) (rl : Hp → α → β → Prop) (x : m α) (Hf : Hp) (s : S) (σ : L2.St) (H : Hp) (Q : β → Hp → Prop) : Prop :=
  StS K mg fx Hf H σ G s ∧ Mo.wp x s (fun a s' => ∀ b Hf' H', Ste fx.bag Hf H Hf' H' → BagAt fx.bag H' s' → rl Hf' a b → Q b H') (EX K mg fx G σ)
def tG (G : List Sl) (rl : Hp → α → β → Prop) (x : m α) : L2.St → Hp → (β → Hp → Prop) → Prop := fun σ H Q => ∃ Hf s, tX K mg fx G rl x Hf s σ H Q
abbrev tE (G : List Sl) (x : m D) : TE := tG K mg fx G (fun H d v => Is K mg H d v) x
abbrev tT (G : List Sl) (x : m Bool) : TT := tG K mg fx G (fun _ a b => b = a) x
abbrev tA (G : List Sl) (x : m (List D)) : TA := tG K mg fx G (fun H d v => IsL K mg H d v) x
end
section
variable {K : PySem.W.Frag} {mg : Str → Option Value} {fx : Fx} {m : Type → Type} [Mo m] {α β γ δ : Type} {G : List Sl} {rl : Hp → α → β → Prop} {rm : Hp → γ → δ → Prop}
theorem tX.mono {x : m α} {Hf : Hp} {s : S} {σ : L2.St} {H : Hp} {Q Q' : β → Hp → Prop} (h : tX K mg fx G rl x Hf s σ H Q) (q : ∀ b H', Q b H' → Q' b H') : tX K mg fx G rl x Hf s σ H Q' :=
  ⟨h.1, Mo.wp_mono h.2 (fun a s' k b Hf' H' e bg r => q b H' (k b Hf' H' e bg r)) fun e s' k => k⟩
theorem tX.bind {x : m α} {k : α → m γ} {Hf : Hp} {s : S} {σ : L2.St} {H : Hp} {Q : δ → Hp → Prop} (h : tX K mg fx G rm (x >>= k) Hf s σ H Q) :
    tX K mg fx G rl x Hf s σ H (fun b H1 => ∃ a Hf1 s1, Sub Hf Hf1 ∧ rl Hf1 a b ∧ tX K mg fx G rm (k a) Hf1 s1 σ H1 Q) :=
  ⟨h.1, Mo.wp_mono (Mo.wp_bind h.2) (fun a s1 h1 b Hf1 H1 ste bag r => ⟨a, Hf1, s1, ste.sub, r, h.1.step ste bag,
      Mo.wp_mono h1 (fun c s2 h2 d Hf2 H2 ste2 bag2 r2 => h2 d Hf2 H2 (ste.trans ste2) bag2 r2) fun e s2 h2 => h2⟩)
    fun e s' k => k⟩
theorem tX.pure {a : α} {Hf : Hp} {s : S} {σ : L2.St} {H : Hp} {Q : β → Hp → Prop} (h : tX K mg fx G rl (Pure.pure a : m α) Hf s σ H Q) {b : β} (r : rl Hf a b) : Q b H :=
  (Mo.wp_pure h.2) b Hf H (.refl h.1.top) h.1.bag r
theorem tX.to {x : m α} {Hf : Hp} {s : S} {σ : L2.St} {H : Hp} {Q : β → Hp → Prop} (h : tX K mg fx G rl x Hf s σ H Q) : tG K mg fx G rl x σ H Q := ⟨Hf, s, h⟩
end
def ask {m : Type → Type} [Mo m] {α : Type} (o : Option α) : m α := Mo.lift (match o with | some a => .ok a | none => .stuck)
@[simp] theorem ask_some {α : Type} (a : α) : (ask (some a) : R α) = .ok a := rfl
@[simp] theorem ask_none {α : Type} : (ask (none : Option α) : R α) = .stuck := rfl
@[simp] theorem askM_some {α : Type} (a : α) (s : S) : (ask (some a) : M α) s = .ok a s := rfl
@[simp] theorem askM_none {α : Type} (s : S) : (ask (none : Option α) : M α) s = .stuck := rfl
section
variable {K : PySem.W.Frag} {mg : Str → Option Value} {fx : Fx} {m : Type → Type} [Mo m] {α β : Type} {G : List Sl} {rl : Hp → α → β → Prop}
theorem tX.ask {o : Option α} {Hf : Hp} {s : S} {σ : L2.St} {H : Hp} {Q : β → Hp → Prop} (h : tX K mg fx G rl (DL.ask o : m α) Hf s σ H Q) :
    ∃ a, o = some a ∧ ∀ b Hf' H', Ste [] Hf H Hf' H' → rl Hf' a b → Q b H' := by
  have h2 := Mo.wp_lift h.2
  cases o with
  | none => exact h2.elim
  | some a => exact ⟨a, rfl, fun b Hf' H' e r => h2 b Hf' H' e.wide (e.bag h.1.bag) r⟩
end
section
variable {X : Cx}
theorem peI {e : Expr} {t t' : TE} (h : PE X e t) (w : ∀ σ H Q, t' σ H Q → t σ H Q) : PE X e t' := ⟨fun pins s σ H Q I q => h.run pins s σ H Q I (w _ _ _ q)⟩
theorem ptI {e : Expr} {t t' : TT} (h : PT X e t) (w : ∀ σ H Q, t' σ H Q → t σ H Q) : PT X e t' := ⟨fun pins s σ H Q I q => h.run pins s σ H Q I (w _ _ _ q)⟩
theorem pwI {e : Expr} {t t' : TT} (h : PW X e t) (w : ∀ σ H Q, t' σ H Q → t σ H Q) : PW X e t' := ⟨fun wh pins s σ H Q I q => h.run wh pins s σ H Q I (w _ _ _ q)⟩
theorem paI {e : List Expr} {t t' : TA} (h : PA X e t) (w : ∀ σ H Q, t' σ H Q → t σ H Q) : PA X e t' := ⟨fun pos pins s σ H Q I q => h.run pos pins s σ H Q I (w _ _ _ q)⟩
theorem pssI {e : List Stmt} {t t' : TS} (h : PSs X e t) (w : ∀ D σ H, t' D σ H → t D σ H) : PSs X e t' := ⟨fun pins s σ H D I q => h.run pins s σ H D I (w _ _ _ q)⟩
theorem psI {e : Stmt} {t t' : TS} (h : PS X e t) (w : ∀ D σ H, t' D σ H → t D σ H) : PS X e t' := ⟨fun pins s σ H D I q => h.run pins s σ H D I (w _ _ _ q)⟩
end
section
variable (K : PySem.W.Frag) (mg : Str → Option Value)
def rD2 (f : D → D → Option D) : R2 := fun x y H Q => ∃ Hf dx dy d, Sub Hf H ∧ Is K mg Hf dx x ∧ Is K mg Hf dy y ∧ f dx dy = some d ∧ ∀ u Hf' H', Ste [] Hf H Hf' H' → Is K mg Hf' d u → Q u H'
def rDs (f : List D → Option D) : List V → Hp → VK → Prop := fun xs H Q => ∃ Hf ds d, Sub Hf H ∧ IsL K mg Hf ds xs ∧ f ds = some d ∧ ∀ u Hf' H', Ste [] Hf H Hf' H' → Is K mg Hf' d u → Q u H'
end
section
variable {X : Cx} {fx : Fx} {m : Type → Type} [Mo m] {G : List Sl} {a b c : Expr} {es : List Expr} {pos : Pos} {x y z : m D} {ys : m (List D)} {f : D → D → Option D}
theorem de_op {op : Operator} (ho : OpR X (binaryOp op) (rD2 X.K X.mg f)) (ha : PE X a (tE X.K X.mg fx G x)) (hb : PE X b (tE X.K X.mg fx G y)) :
    PE X (.BinOp a op b pos) (tE X.K X.mg fx G (do let u ← x; let v ← y; ask (f u v))) := peI (pe_op ho ha hb) fun σ H Q ⟨Hf, s, h⟩ =>
  (h.bind.mono fun v1 H1 ⟨d1, Hf1, s1, sb1, r1, h1⟩ => (h1.bind.mono fun v2 H2 ⟨d2, Hf2, s2, sb2, r2, h2⟩ => by
    obtain ⟨d, e, q⟩ := h2.ask
    exact ⟨Hf2, d1, d2, d, h2.1.top, r1.mono sb2, r2, e, q⟩).to).to
theorem de_cmp {op : CmpOp} (ho : OpR X (compareOp op) (rD2 X.K X.mg f)) (ha : PE X a (tE X.K X.mg fx G x)) (hb : PE X b (tE X.K X.mg fx G y)) (hm : behindInMarks op b = false) :
    PE X (.Compare a [op] [b] pos) (tE X.K X.mg fx G (do let u ← x; let v ← y; ask (f u v))) := peI (pe_cmpR ho ha hb hm) fun σ H Q ⟨Hf, s, h⟩ =>
  (h.bind.mono fun v1 H1 ⟨d1, Hf1, s1, sb1, r1, h1⟩ => (h1.bind.mono fun v2 H2 ⟨d2, Hf2, s2, sb2, r2, h2⟩ => by
    obtain ⟨d, e, q⟩ := h2.ask
    exact ⟨Hf2, d1, d2, d, h2.1.top, r1.mono sb2, r2, e, q⟩).to).to
def bOf : D → Option Bool
  | .bl b => some b
  | _ => none
theorem dt_cmp {op : CmpOp} (ho : OpR X (compareOp op) (rD2 X.K X.mg f)) (ha : PE X a (tE X.K X.mg fx G x)) (hb : PE X b (tE X.K X.mg fx G y)) (hm : behindInMarks op b = false) :
    PT X (.Compare a [op] [b] pos) (tT X.K X.mg fx G (do let u ← x; let v ← y; ask ((f u v).bind bOf))) := ptI (pt_cmpR ho ha hb hm) fun σ H Q ⟨Hf, s, h⟩ =>
  (h.bind.mono fun v1 H1 ⟨d1, Hf1, s1, sb1, r1, h1⟩ => (h1.bind.mono fun v2 H2 ⟨d2, Hf2, s2, sb2, r2, h2⟩ => by
    obtain ⟨k, e, q⟩ := h2.ask
    cases e' : f d1 d2 with
    | none => rw [e'] at e; cases e
    | some d =>
      rw [e'] at e
      cases d with
      | bl b' =>
        have : b' = k := Option.some.inj e
        subst this
        exact ⟨Hf2, d1, d2, _, h2.1.top, r1.mono sb2, r2, e', fun u Hf' H' st i => ⟨b', i, q b' Hf' H' st rfl⟩⟩
      | _ => cases e).to).to
theorem da_nil : PA X [] (tA X.K X.mg fx G (pure [] : m (List D))) := paI pa_nil fun σ H Q ⟨Hf, s, h⟩ => h.pure rfl
theorem da_cons (ha : PE X a (tE X.K X.mg fx G x)) (hr : PA X es (tA X.K X.mg fx G ys)) (hs : starEach (a :: es) X.env = (false, eval a X.env) :: starEach es X.env := by rfl) :
    PA X (a :: es) (tA X.K X.mg fx G (do let d ← x; let ds ← ys; pure (d :: ds))) := paI (pa_cons ha hr hs) fun σ H Q ⟨Hf, s, h⟩ =>
  (h.bind.mono fun v1 H1 ⟨d1, Hf1, s1, sb1, r1, h1⟩ => (h1.bind.mono fun v2 H2 ⟨d2, Hf2, s2, sb2, r2, h2⟩ => h2.pure (IsL.cons (r1.mono sb2) r2)).to).to
theorem de_callB {g : List D → Option D} {id : String} {n : Str} {p : Pos} {e : Expr} (hc : CallR X (.builtin id) (rDs X.K X.mg g)) (hg : Gl X n) (hm : X.mg n = none) (hv : bootBuiltins n = some (.builtin id)) (ha : PA X (e :: es) (tA X.K X.mg fx G ys))
    (hn : n ≠ "__name__" := by decide) (hdb : (n == ("__debug__" : Str)) = false := by decide) (he : starEach (e :: es) X.env = (false, eval e X.env) :: starEach es X.env := by rfl) (hpl : (backTo pos (starEach es X.env)).any (·.1) = false := by rfl) :
    PE X (.Call (.Name n p) (e :: es) [] pos) (tE X.K X.mg fx G (do let ds ← ys; ask (g ds))) := peI (pe_callB hc hg hm hv ha hn hdb he hpl) fun σ H Q ⟨Hf, s, h⟩ =>
  (h.bind.mono fun v1 H1 ⟨d1, Hf1, s1, sb1, r1, h1⟩ => by
    obtain ⟨d, e, q⟩ := h1.ask
    exact ⟨Hf1, d1, d, h1.1.top, r1, e, q⟩).to
theorem de_callTy {g : List D → Option D} {T : String} {n : Str} {p : Pos} {e : Expr} (hc : CallR X (.type T) (rDs X.K X.mg g)) (hg : Gl X n) (hm : X.mg n = none) (hv : bootBuiltins n = some (.type T)) (ha : PA X (e :: es) (tA X.K X.mg fx G ys))
    (hn : n ≠ "__name__" := by decide) (hdb : (n == ("__debug__" : Str)) = false := by decide) (he : starEach (e :: es) X.env = (false, eval e X.env) :: starEach es X.env := by rfl) (hpl : (backTo pos (starEach es X.env)).any (·.1) = false := by rfl) :
    PE X (.Call (.Name n p) (e :: es) [] pos) (tE X.K X.mg fx G (do let ds ← ys; ask (g ds))) := peI (pe_callTy hc hg hm hv ha hn hdb he hpl) fun σ H Q ⟨Hf, s, h⟩ =>
  (h.bind.mono fun v1 H1 ⟨d1, Hf1, s1, sb1, r1, h1⟩ => by
    obtain ⟨d, e, q⟩ := h1.ask
    exact ⟨Hf1, d1, d, h1.1.top, r1, e, q⟩).to
theorem de_var (i : Nat) {d : D} {n : Str} (hG : G[i]? = some (.im d) := by rfl) (hN : X.N[i]? = some n := by rfl) (hv : Vis X.env.scope n := by first | exact Or.inl rfl | exact Or.inr (Or.inl rfl) | exact Or.inr (Or.inr rfl))
    (hd : (n == ("__debug__" : Str)) = false := by decide) (hcd : (n == ("__classdict__" : Str)) = false := by decide) : PE X (.Name n pos) (tE X.K X.mg fx G (pure d : m D)) :=
  peI (pe_var hN hv hd hcd) fun σ H Q ⟨Hf, s, h⟩ => by
    obtain ⟨v, e, i⟩ := h.1.sl i _ hG
    exact ⟨v, e, h.pure i⟩
theorem de_int {j : Nat} {i : Int} : PE X (.Constant (.int i) j pos) (tE X.K X.mg fx G (pure (.int i) : m D)) := peI pe_int fun σ H Q ⟨Hf, s, h⟩ => h.pure (by rw [Is])
theorem de_bl {j : Nat} {i : Bool} : PE X (.Constant (.bool i) j pos) (tE X.K X.mg fx G (pure (.bl i) : m D)) := peI pe_bl fun σ H Q ⟨Hf, s, h⟩ => h.pure (by rw [Is])
theorem de_non {j : Nat} : PE X (.Constant .none j pos) (tE X.K X.mg fx G (pure .non : m D)) := peI pe_non fun σ H Q ⟨Hf, s, h⟩ => h.pure (by rw [Is])
theorem de_str {j : Nat} {t : Str} (l : List Nat) (ht : t = ⟨l.toArray⟩ := by first | rfl | decide +kernel) (hl : l.length ≤ 1000 := by decide) : PE X (.Constant (.str t) j pos) (tE X.K X.mg fx G (pure (.str l) : m D)) :=
  peI pe_str fun σ H Q ⟨Hf, s, h⟩ => h.pure (by rw [Is, ht]; exact ⟨rfl, Nat.le_of_lt (small1000 hl)⟩)
theorem de_glob {n : Str} {u : Value} {v : V} {d : D} (hg : Gl X n) (hm : X.mg n = some u) (r : RelV v u) (hi : Is X.K X.mg (fun _ => none) d v) (hd : (n == ("__debug__" : Str)) = false := by decide) : PE X (.Name n pos) (tE X.K X.mg fx G (pure d : m D)) :=
  peI (pe_glob hg hm r hd) fun σ H Q ⟨Hf, s, h⟩ => h.pure (hi.mono fun a o e => by cases e)
end
end DL
namespace DL
open PySem PySem.Spec PyProof.Rows L2
def Cool (mg : Str → Option Value) (cls : Value) : Prop := mg "BadRule" ≠ some cls
def CXm (P : Program) (w : World) (mg : Str → Option Value) : CXT := fun outer H s E u s' =>
  L2.CX P w outer H s (fun cls d H' => E cls d H' ∧ ¬ Cool mg cls) u s' ∨ L2N.CX P w outer H s E u s'
structure Takes (X : Cx) (W : WX) : Prop where
  hot : L2.Takes X fun cls d σ H => W cls d σ H ∧ ¬ Cool X.mg cls
  new : L2N.Takes X W
section
variable {X : Cx} {W : WX} {E : XK}
theorem takes_of (hs : X.stack = X.env :: X.outer) (hf : X.env.frame = some X.env.locals) (hex : X.ex = []) {E₁ : Value → Shared → Prop}
    (hx : X.xe = fun e s' => wpAny (model X.prog X.w) X.A (leaving X.env e) (fun _ s'' => CXm X.prog X.w X.mg X.outer X.H_0 X.s_0 E e s'') E₁ s') : Takes X (fun cls d _ H => E cls d H) := by
  refine ⟨fun u s' x => ?_, fun u s' x => ?_⟩
  · rw [hx]
    exact wpAny_mono (L2.XE.leave (W := fun cls d _ H => E cls d H ∧ ¬ Cool X.mg cls) (E := fun cls d H => E cls d H ∧ ¬ Cool X.mg cls) hs hf hex (fun _ _ _ _ h => h) x) (fun _ _ h => .inl h) fun _ _ h => h
  · rw [hx]
    exact wpAny_mono (L2N.XE.leave (W := fun cls d _ H => E cls d H) (E := E) hs hf hex (fun _ _ _ _ h => h) x) (fun _ _ h => .inr h) fun _ _ h => h
theorem passAt (tk : Takes X W) (σ : L2.St) : PassesAt (CXm X.prog X.w X.mg) X σ (WE W σ) := fun pins H s e s' I c => by
  rcases c with c | c
  · exact tk.hot e s' (L2.XE.of_call (E := fun cls d H' => WE W σ cls d H' ∧ ¬ Cool X.mg cls) I (fun _ _ _ h => h) c)
  · exact tk.new e s' (L2N.XE.of_call I (fun _ _ _ h => h) c)
theorem cxm_false {P : Program} {w : World} {mg : Str → Option Value} {outer : List Env} {H : Hp} {s s' : Shared} {e : Value} (h : CXm P w mg outer H s (fun _ _ _ => False) e s') : False := by
  rcases h with h | h
  · obtain ⟨_, _, _, _, _, _, _, _, _, _, _, _, z⟩ := h
    exact z.1
  · obtain ⟨_, _, _, _, _, _, _, _, _, _, _, _, z⟩ := h
    exact z
end
end DL
namespace DL
open PySem L2
inductive Fl (α β : Type) where
  | nx (a : α)
  | rt (d : D)
  | bk (b : β)
  | ct (b : β)
section
variable {m : Type → Type} [Mo m] {α β γ : Type}
def seqF (x : m (Fl α β)) (k : α → m (Fl γ β)) : m (Fl γ β) := do
  match ← x with
  | .nx a => k a
  | .rt d => pure (.rt d)
  | .bk b => pure (.bk b)
  | .ct b => pure (.ct b)
def forF (u : D → Option γ) (xb : α → γ → m (Fl α α)) : List D → α → m (Fl α β)
  | [], a => pure (.nx a)
  | d :: ds, a => do
    let c ← ask (u d)
    match ← xb a c with
    | .nx a' => forF u xb ds a'
    | .ct a' => forF u xb ds a'
    | .bk a' => pure (.nx a')
    | .rt d => pure (.rt d)
end
section
variable (K : PySem.W.Frag) (mg : Str → Option Value) (fx : Fx)
def GxOk (G : List Sl) : Prop := match fx.gx with
  | none => True
  | some g => Wk G g
def XSt (Hf H : Hp) (σ : L2.St) (s : S) : Prop := match fx.gx with
  | none => Ste (fx.me ++ fx.bag) fx.Hf0 fx.H0 Hf H ∧ BagAt fx.bag H s
  | some g => StS K mg fx Hf H σ g s
def EXS : Exn → S → Prop := fun e s' => ∀ cls dd σ' Hf' H', XSt K mg fx Hf' H' σ' s' → ExIs K mg Hf' H' e cls dd → fx.W cls dd σ' H'
variable {α β : Type}
def FP (Hf : Hp) (ex : α → List Sl) (exb : β → List Sl) (De : Ends) : Fl α β → S → Prop := fun f s' => match f with
  | .nx a => ∀ Hf' H' σ', Sub Hf Hf' → StS K mg fx Hf' H' σ' (ex a) s' → De.nx σ' H'
  | .rt d => ∀ v Hf' H', Ste (fx.me ++ fx.bag) fx.Hf0 fx.H0 Hf' H' → BagAt fx.bag H' s' → RtOk K mg fx.nr fx.H0 Hf' H' d v → De.rt v H'
  | .bk b => ∀ Hf' H' σ', Sub Hf Hf' → StS K mg fx Hf' H' σ' (exb b) s' → De.bk σ' H'
  | .ct b => ∀ Hf' H' σ', Sub Hf Hf' → StS K mg fx Hf' H' σ' (exb b) s' → De.ct σ' H'
variable {m : Type → Type} [Mo m]
def tSX (G : List Sl) (ex : α → List Sl) (exb : β → List Sl) (x : m (Fl α β)) (Hf : Hp) (s : S) (De : Ends) (σ : L2.St) (H : Hp) : Prop :=
  StS K mg fx Hf H σ G s ∧ Mo.wp x s (FP K mg fx Hf ex exb De) (EXS K mg fx)
def tS (G : List Sl) (ex : α → List Sl) (exb : β → List Sl) (x : m (Fl α β)) : TS := fun De σ H => ∃ Hf s, tSX K mg fx G ex exb x Hf s De σ H
end
section
variable {K : PySem.W.Frag} {mg : Str → Option Value} {fx : Fx} {m : Type → Type} [Mo m] {α β γ δ ε : Type} {G G' : List Sl} {ex : α → List Sl} {exb : β → List Sl} {rm : Hp → γ → δ → Prop}
theorem exs_ex {σ : L2.St} {e : Exn} {s : S} (hx : GxOk fx G) (h : EXS K mg fx e s) : EX K mg fx G σ e s := fun cls dd Hf' H' st xi => by
  refine h cls dd σ Hf' H' ?_ xi
  unfold XSt
  unfold GxOk at hx
  cases q : fx.gx with
  | none => exact ⟨st.ste, st.bag⟩
  | some g =>
    rw [q] at hx
    exact st.weak hx
theorem FP.up {Hf Hf1 : Hp} {De : Ends} {f : Fl α β} {s : S} (sb : Sub Hf Hf1) (h : FP K mg fx Hf ex exb De f s) : FP K mg fx Hf1 ex exb De f s := by
  cases f with
  | nx a => exact fun Hf' H' σ' sb' => h Hf' H' σ' (sb.trans sb')
  | rt d => exact h
  | bk b => exact fun Hf' H' σ' sb' => h Hf' H' σ' (sb.trans sb')
  | ct b => exact fun Hf' H' σ' sb' => h Hf' H' σ' (sb.trans sb')
theorem tSX.to {x : m (Fl α β)} {Hf : Hp} {s : S} {σ : L2.St} {H : Hp} {De : Ends} (h : tSX K mg fx G ex exb x Hf s De σ H) : tS K mg fx G ex exb x De σ H := ⟨Hf, s, h⟩
theorem tSX.bind {x : m γ} {k : γ → m (Fl α β)} {Hf : Hp} {s : S} {σ : L2.St} {H : Hp} {De : Ends} (h : tSX K mg fx G ex exb (x >>= k) Hf s De σ H) (hx : GxOk fx G) :
    tX K mg fx G rm x Hf s σ H (fun b H1 => ∃ a Hf1 s1, Sub Hf Hf1 ∧ rm Hf1 a b ∧ tSX K mg fx G ex exb (k a) Hf1 s1 De σ H1) :=
  ⟨h.1, Mo.wp_mono (Mo.wp_bind h.2) (fun a s1 h1 b Hf1 H1 ste bag r => ⟨a, Hf1, s1, ste.sub, r, h.1.step ste bag, Mo.wp_mono h1 (fun f s2 h2 => h2.up ste.sub) fun e s' k => k⟩) fun e s' k => exs_ex hx k⟩
theorem tSX.weak {x : m (Fl α β)} {Hf : Hp} {s : S} {σ : L2.St} {H : Hp} {De : Ends} (h : tSX K mg fx G ex exb x Hf s De σ H) (w : Wk G G') : tSX K mg fx G' ex exb x Hf s De σ H := ⟨h.1.weak w, h.2⟩
theorem tSX.seq {exA : ε → List Sl} {x : m (Fl ε β)} {k : ε → m (Fl α β)} {Hf : Hp} {s : S} {σ : L2.St} {H : Hp} {De : Ends} (h : tSX K mg fx G ex exb (seqF x k) Hf s De σ H) :
    tSX K mg fx G exA exb x Hf s { De with nx := fun σ' H' => ∃ a, tS K mg fx (exA a) ex exb (k a) De σ' H' } σ H :=
  ⟨h.1, Mo.wp_mono (Mo.wp_bind h.2) (fun f s1 h1 => by
    cases f with
    | nx a => exact fun Hf' H' σ' sb st => ⟨a, Hf', s1, st, Mo.wp_mono h1 (fun f s2 h2 => h2.up sb) fun e s' k => k⟩
    | rt d => have z := Mo.wp_pure h1; exact z
    | bk b => have z := Mo.wp_pure h1; exact z
    | ct b => have z := Mo.wp_pure h1; exact z) fun e s' k => k⟩
end
section
variable {X : Cx}
theorem pss_ex {ι : Type} {sts : List Stmt} {t : ι → TS} (h : ∀ i, PSs X sts (t i)) : PSs X sts (fun D σ H => ∃ i, t i D σ H) := ⟨fun pins s σ H D I ⟨i, q⟩ => (h i).run pins s σ H D I q⟩
structure Cok (X : Cx) (fx : Fx) (k : Nat) : Prop where
  calm : X.calm = true
  hp : X.stack = X.env :: X.outer → PassesOwn (model X.prog X.w) X.A X.env X.xe
  tk : Takes X fx.W
  rm : Room k X.A
  nd : X.N.Nodup
  gd : X.A.guards = some []
end
section
variable {X : Cx} {fx : Fx} {m : Type → Type} [Mo m] {α β γ δ ε : Type} {G G' : List Sl} {ex : α → List Sl} {exb : β → List Sl} {exA : ε → List Sl} {rest A B : List Stmt} {pos : Pos} {kk : Nat} {x : m D} {k : D → m (Fl α β)} {e : Expr} {i : Nat}
theorem dss_nil {a : α} (w : Wk G (ex a)) : PSs X [] (tS X.K X.mg fx G ex exb (pure (.nx a) : m (Fl α β))) := pssI pss_nil fun D σ H ⟨Hf, s, h⟩ =>
  (Mo.wp_pure h.2) Hf H σ (.refl _) (h.1.weak w)
theorem dss_asg (C : Cok X fx kk) {n : Str} {pos' : Pos} (i : Nat) (he : PE X e (tE X.K X.mg fx G x)) (hr : ∀ d, PSs X rest (tS X.K X.mg fx (G.set i (.im d)) ex exb (k d))) (hi : X.N[i]? = some n := by rfl) (hx : Loc X.env.scope n := by first | exact Or.inl rfl | exact Or.inr rfl)
    (hs : swapsWith e (some (.Name n pos')) pos.line X.env = pure false := by rfl) (hf : X.fn n = true ∨ X.env.scope.names.lookup n = some .local := by first | exact .inl rfl | exact .inr rfl) (hg : GxOk fx G := by first | exact True.intro | repeat' (first | exact True.intro | exact Or.inl rfl | exact Or.inr rfl | refine And.intro ?_ ?_)) :
    PSs X (.Assign [.Name n pos'] e pos :: rest) (tS X.K X.mg fx G ex exb (x >>= k)) := pssI (pss_cons (ps_set C.nd hi hx he hs hf) (pss_ex hr)) fun D σ H ⟨Hf, s, h⟩ =>
  ((h.bind hg).mono fun v H1 ⟨d, Hf1, s1, sb, r, h1⟩ => ⟨d, Hf1, s1, h1.1.set r, h1.2⟩).to
theorem dss_ret (he : PE X e (tE X.K X.mg fx G x)) (hnr : fx.nr = false := by rfl) (hg : GxOk fx G := by first | exact True.intro | repeat' (first | exact True.intro | exact Or.inl rfl | exact Or.inr rfl | refine And.intro ?_ ?_)) : PSs X (.Return (some e) pos :: rest) (tS X.K X.mg fx G ex exb (do let d ← x; pure (.rt d))) := pssI (pss_cons (ps_ret he) pss_never) fun D σ H ⟨Hf, s, h⟩ =>
  ((h.bind hg).mono fun v H1 ⟨d, Hf1, s1, sb, r, h1⟩ => (Mo.wp_pure h1.2) v Hf1 H1 h1.1.ste h1.1.bag (by rw [hnr]; exact r)).to
theorem dss_if {c : Expr} {xc : m Bool} {xa xb : m (Fl ε β)} {k : ε → m (Fl α β)} (hc : PT X c (tT X.K X.mg fx G xc)) (ha : PSs X A (tS X.K X.mg fx G exA exb xa)) (hb : PSs X B (tS X.K X.mg fx G exA exb xb)) (hr : ∀ a, PSs X rest (tS X.K X.mg fx (exA a) ex exb (k a))) (hg : GxOk fx G := by first | exact True.intro | repeat' (first | exact True.intro | exact Or.inl rfl | exact Or.inr rfl | refine And.intro ?_ ?_)) :
    PSs X (.If c A B pos :: rest) (tS X.K X.mg fx G ex exb (do let t ← xc; seqF (if t = true then xa else xb) k)) := pssI (pss_cons (ps_if hc ha hb) (pss_ex hr)) fun D σ H ⟨Hf, s, h⟩ =>
  ((h.bind hg).mono fun v H1 ⟨d, Hf1, s1, sb, r, h1⟩ => by
    cases r
    cases v with
    | true => exact h1.seq.to
    | false => exact h1.seq.to).to
end
section
variable (K : PySem.W.Frag) (mg : Str → Option Value)
def Yl (J : It) (Hf0 : Hp) (ds : List D) : Prop := ds.length ≤ sizeLine ∧ ∀ Hf H, Sub Hf0 Hf → Sub Hf H → ∀ i : Nat,
  (∀ d, ds[i]? = some d → J.go i H ∧ ∀ x H', J.yld i H x H' → ∃ Hf', Ste [] Hf H Hf' H' ∧ Is K mg Hf' d x) ∧ (ds.length ≤ i → J.stop i H)
abbrev tI (fx : Fx) (G : List Sl) {m : Type → Type} [Mo m] (x : m (List D)) : TI := tG K mg fx G (fun Hf ds J => Yl K mg J Hf ds) x
end
section
variable {X : Cx} {fx : Fx} {m : Type → Type} [Mo m] {α β γ : Type} {G G' : List Sl} {ex : α → List Sl} {exb : β → List Sl} {rest body : List Stmt} {pos : Pos} {kk : Nat}
def PGd (X : Cx) (fx : Fx) (tg : Expr) (g : TG) (u : D → Option γ) (st : List Sl → γ → List Sl) (is : List Nat) : Prop :=
  PG X tg g ∧ ∀ {G : List Sl} {Hf : Hp} {d : D} {v : V} {σ : L2.St} {H : Hp} {s : S} {c : γ} {Q : L2.St → Hp → Prop}, StS X.K X.mg fx Hf H σ G s → Is X.K X.mg Hf d v → u d = some c → (∀ σ', (∀ j, j ∉ is → σ'[j]? = σ[j]?) → σ'.length = σ.length → StS X.K X.mg fx Hf H σ' (st G c) s → Q σ' H) → g v σ H Q
theorem pgd_name (C : Cok X fx kk) (i : Nat) {n : Str} (hi : X.N[i]? = some n := by rfl) (hx : Loc X.env.scope n := by first | exact Or.inl rfl | exact Or.inr rfl) (hf : X.fn n = true ∨ X.env.scope.names.lookup n = some .local := by first | exact .inl rfl | exact .inr rfl) :
    PGd X fx (.Name n pos) (gName i) (fun d => some d) (fun G d => G.set i (.im d)) [i] :=
  ⟨pg_name C.nd hi hx hf, fun {G Hf d v σ H s c Q} st r e q => by
    cases e
    exact q _ (fun j hj => List.getElem?_set_ne (fun z => hj (by simp [z]))) (by simp) (st.set r)⟩
theorem dss_for {ε : Type} {exl : ε → List Sl} {tg iter : Expr} {g : TG} {u : D → Option γ} {st : List Sl → γ → List Sl} {xi : m (List D)} {xb : ε → γ → m (Fl ε ε)} {k : ε → m (Fl α β)} {is : List Nat} (a0 : ε) (C : Cok X fx kk) (hi : PI X tg iter (tI X.K X.mg fx G xi)) (hg : PGd X fx tg g u st is)
    (w : Wk G (exl a0)) (hb : ∀ a c, PSs X body (tS X.K X.mg fx (st (exl a) c) exl exl (xb a c))) (hr : ∀ a, PSs X rest (tS X.K X.mg fx (exl a) ex exb (k a))) (hs : ∀ x, foldedSetIterable iter X.env x = pure x := by intro _; rfl) (hst : X.stack = X.env :: X.outer := by rfl) (hx : GxOk fx G := by first | exact True.intro | repeat' (first | exact True.intro | exact Or.inl rfl | exact Or.inr rfl | refine And.intro ?_ ?_)) :
    PSs X (.For tg iter body [] pos :: rest) (tS X.K X.mg fx G ex exb (do let ds ← xi; seqF (forF u xb ds a0) k)) := by
  refine pssI (pss_cons (ps_for (C.hp hst) C.calm hi hg.1 (pss_ex (ι := ε × γ) (t := fun p => tS X.K X.mg fx (st (exl p.1) p.2) exl exl (xb p.1 p.2)) fun p => hb p.1 p.2) hs) (pss_ex hr)) fun D σ H ⟨Hf, s, h⟩ => ?_
  refine ((h.bind hx).mono fun J H1 ⟨ds, Hf1, s1, sb, yl, h1⟩ => ?_).to
  have h2 := h1.seq (exA := exl)
  obtain ⟨st1, w1⟩ := h2
  refine ⟨fun i m σ H => m = ds.length - i ∧ i ≤ ds.length ∧ ∃ a Hf s, Sub Hf1 Hf ∧ StS X.K X.mg fx Hf H σ (exl a) s ∧
    Mo.wp (forF (β := β) u xb (ds.drop i) a) s (FP X.K X.mg fx Hf exl exb { D with nx := fun σ' H' => ∃ a, tS X.K X.mg fx (exl a) ex exb (k a) D σ' H' }) (EXS X.K X.mg fx), ⟨ds.length, by simp, Nat.zero_le _, a0, Hf1, s1, .refl _, st1.weak w, w1⟩, ?_⟩
  rintro i m σ H ⟨rfl, hi, a, Hf2, s2, sb2, st2, w2⟩
  obtain ⟨y1, y2⟩ := yl.2 Hf2 H sb2 st2.top i
  by_cases hlt : i < ds.length
  · obtain ⟨go, yd⟩ := y1 ds[i] (List.getElem?_eq_getElem hlt)
    rw [List.drop_eq_getElem_cons hlt] at w2
    have w3 := Mo.wp_bind w2
    have w4 := Mo.wp_lift w3
    refine .inr ⟨go, fun σ' H' => i + 1 ≤ ds.length ∧ ∃ a Hf s, Sub Hf1 Hf ∧ StS X.K X.mg fx Hf H' σ' (exl a) s ∧
      Mo.wp (forF (β := β) u xb (ds.drop (i + 1)) a) s (FP X.K X.mg fx Hf exl exb { D with nx := fun σ' H' => ∃ a, tS X.K X.mg fx (exl a) ex exb (k a) D σ' H' }) (EXS X.K X.mg fx), fun σ' H' q => ⟨ds.length - (i + 1), by omega, rfl, q⟩, fun x H' y => ?_⟩
    obtain ⟨Hf3, e3, is3⟩ := yd x H' y
    cases q : u ds[i] with
    | none => rw [q] at w4; exact w4.elim
    | some c =>
      rw [q] at w4
      have st3 := st2.step e3.wide (e3.bag st2.bag)
      refine hg.2 st3 is3 q fun σ' _ _ st4 => ?_
      refine ⟨(a, c), Hf3, s2, st4, ?_⟩
      refine Mo.wp_mono (Mo.wp_bind w4) (fun f s5 h5 => ?_) fun e s' k => k
      cases f with
      | nx a' => exact fun Hf' H' σ' sb' st' => ⟨hlt, a', Hf', s5, (sb2.trans e3.sub).trans sb', st', Mo.wp_mono h5 (fun f s2 h2 => h2.up (e3.sub.trans sb')) fun e s' k => k⟩
      | ct a' => exact fun Hf' H' σ' sb' st' => ⟨hlt, a', Hf', s5, (sb2.trans e3.sub).trans sb', st', Mo.wp_mono h5 (fun f s2 h2 => h2.up (e3.sub.trans sb')) fun e s' k => k⟩
      | bk a' => have z := Mo.wp_pure h5; exact fun Hf' H' σ' sb' => z Hf' H' σ' (e3.sub.trans sb')
      | rt d => have z := Mo.wp_pure h5; exact z
  · have e : i = ds.length := by omega
    subst e
    refine .inl ⟨y2 (Nat.le_refl _), ?_⟩
    rw [List.drop_length] at w2
    exact (Mo.wp_pure w2) Hf2 H σ (.refl _) st2
end
end DL
namespace DL
open PySem L2
def runR (nr : Bool) : R (Fl Unit Empty) → R D
  | .ok (.nx _) => if nr = true then .stuck else .ok .non
  | .ok (.rt d) => .ok d
  | .ok (.bk b) => b.elim
  | .ok (.ct b) => b.elim
  | .ex e => .ex e
  | .stuck => .stuck
def runM (nr : Bool) (x : M (Fl Unit Empty)) : M D := fun s => match x s with
  | .ok (.nx _) s => if nr = true then .stuck else .ok .non s
  | .ok (.rt d) s => .ok d s
  | .ok (.bk b) _ => b.elim
  | .ok (.ct b) _ => b.elim
  | .ex e s => .ex e s
  | .stuck => .stuck
def unG (N : List Str) : List Sl := N.map fun _ => .un
def G0 (N : List Str) (ds : List D) : List Sl := ds.map Sl.im ++ List.replicate (N.length - ds.length) .un
def G1 (N : List Str) (ds : List D) : List Sl := .bg :: (ds.map Sl.im ++ List.replicate (N.length - ds.length - 1) .un)
abbrev fxE (bag : List Addr) (nr : Bool) (H Hf : Hp) (E : XK) : Fx := ⟨bag, H, Hf, fun cls d _ H' => E cls d H', none, nr, [], []⟩
section
variable (K : PySem.W.Frag) (mg : Str → Option Value)
def spR (nr : Bool) (n : Nat) (g : List D → R D) : Sp := fun vs H Q E => vs.length = n ∧ ∃ Hf ds, Sub Hf H ∧ IsL K mg Hf ds vs ∧ (match g ds with
  | .ok d => ∀ v Hf' H', Ste [] Hf H Hf' H' → RtOk K mg nr H Hf' H' d v → Q v H'
  | .ex e => ∀ cls dd Hf' H', Ste [] Hf H Hf' H' → ExIs K mg Hf' H' e cls dd → E cls dd H'
  | .stuck => False)
def spM (nr : Bool) (n : Nat) (g : List D → M D) : Sp := fun vs H Q E => vs.length = n ∧ ∃ bag b r Hf ds vs' s, bag = b :: r ∧ vs = .ref b :: vs' ∧ Sub Hf H ∧ (∀ b ∈ bag, Hf b = none ∧ H b ≠ none) ∧ BagAt bag H s ∧ IsL K mg Hf ds vs' ∧ (match g ds s with
  | .ok d s' => ∀ v Hf' H', Ste bag Hf H Hf' H' → BagAt bag H' s' → RtOk K mg nr H Hf' H' d v → Q v H'
  | .ex e s' => ∀ cls dd Hf' H', Ste bag Hf H Hf' H' → BagAt bag H' s' → ExIs K mg Hf' H' e cls dd → E cls dd H'
  | .stuck => False)
end
theorem start_at {N : List Str} {vs : List V} {i : Nat} {v : V} (h : vs[i]? = some v) : (start N vs)[i]? = some (some v) := by
  unfold L2.start
  have hl : i < vs.length := (List.getElem?_eq_some_iff.mp h).1
  rw [List.getElem?_append_left (by simpa using hl), List.getElem?_map, h]
  rfl
theorem start_len {N : List Str} {vs : List V} (h : vs.length ≤ N.length) : (start N vs).length = N.length := by
  unfold L2.start
  simp
  omega
theorem isOw_im {ds : List D} {n i : Nat} {x : Sl} (h : (ds.map Sl.im ++ List.replicate n .un)[i]? = some x) (o : isOw x = true) : False := by
  have hm := List.mem_of_getElem? h
  rcases List.mem_append.mp hm with hm | hm
  · obtain ⟨d, _, rfl⟩ := List.mem_map.mp hm
    cases o
  · have := List.eq_of_mem_replicate hm
    subst this
    cases o
section
variable {K : PySem.W.Frag} {mg : Str → Option Value}
theorem slOk_G0 {fx : Fx} {Hf H : Hp} {ds : List D} {vs : List V} {N : List Str} {n : Nat} (l : IsL K mg Hf ds vs) {i : Nat} {x : Sl} (e : (ds.map Sl.im ++ List.replicate n .un)[i]? = some x) : SlOk K mg fx Hf H (vs[i]?.map some) x := by
  by_cases h : i < ds.length
  · rw [List.getElem?_append_left (by simpa using h), List.getElem?_map, List.getElem?_eq_getElem h] at e
    cases e
    obtain ⟨v, hv, hi⟩ := l.get (List.getElem?_eq_getElem h)
    exact ⟨v, by rw [hv]; rfl, hi⟩
  · rw [List.getElem?_append_right (by simpa using Nat.le_of_not_lt h)] at e
    have := List.eq_of_mem_replicate (List.mem_of_getElem? e)
    subst this
    trivial
theorem StS.init0 {nr : Bool} {Hf H : Hp} {E : XK} {ds : List D} {vs : List V} {N : List Str} {s : S} (sb : Sub Hf H) (l : IsL K mg Hf ds vs) (hn : vs.length ≤ N.length) : StS K mg (fxE [] nr H Hf E) Hf H (start N vs) (G0 N ds) s := by
  refine ⟨.refl sb, trivial, fun b hb => (by cases hb), ?_, fun i x e => ?_, fun i j x y p _ ex _ ox _ => (isOw_im ex ox).elim⟩
  · rw [start_len hn]
    unfold G0
    have := l.len
    simp
    omega
  · have q := slOk_G0 (fx := fxE [] nr H Hf E) (H := H) (N := N) l e
    cases x with
    | un => trivial
    | im d =>
      obtain ⟨v, hv, hi⟩ := q
      refine ⟨v, ?_, hi⟩
      cases h : vs[i]? with
      | none => rw [h] at hv; cases hv
      | some w => rw [h] at hv; cases hv; exact start_at h
    | ow ds => exact (isOw_im e rfl).elim
    | od ks ds => exact (isOw_im e rfl).elim
    | ob ns ds => exact (isOw_im e rfl).elim
    | bg =>
      obtain ⟨b, r, e, _⟩ := q
      cases e
theorem StS.init1 {nr : Bool} {Hf H : Hp} {E : XK} {ds : List D} {vs : List V} {N : List Str} {s : S} {bag : List Addr} {b : Addr} {r : List Addr} (eb : bag = b :: r) (sb : Sub Hf H) (hb : ∀ b ∈ bag, Hf b = none ∧ H b ≠ none) (bg : BagAt bag H s) (l : IsL K mg Hf ds vs) (hn : vs.length + 1 ≤ N.length) :
    StS K mg (fxE bag nr H Hf E) Hf H (start N (.ref b :: vs)) (G1 N ds) s := by
  refine ⟨.refl sb, bg, fun b m => ⟨(hb b m).1, (hb b m).2, fun z => nomatch z⟩, ?_, fun i x e => ?_, fun i j x y p _ ex _ ox _ => ?_⟩
  · rw [start_len (by simpa using hn)]
    unfold G1
    have := l.len
    simp
    omega
  · cases i with
    | zero =>
      cases e
      exact ⟨b, r, eb, start_at rfl⟩
    | succ i =>
      have e' : (ds.map Sl.im ++ List.replicate (N.length - ds.length - 1) .un)[i]? = some x := e
      have q := slOk_G0 (fx := fxE bag nr H Hf E) (H := H) (N := N) l e'
      cases x with
      | un => trivial
      | im d =>
        obtain ⟨v, hv, hi⟩ := q
        refine ⟨v, ?_, hi⟩
        cases h : vs[i]? with
        | none => rw [h] at hv; cases hv
        | some w => rw [h] at hv; cases hv; exact start_at (by simpa using h)
      | ow ds => exact (isOw_im e' rfl).elim
      | od ks ds => exact (isOw_im e' rfl).elim
      | ob ns ds => exact (isOw_im e' rfl).elim
      | bg =>
        have hm := List.mem_of_getElem? e'
        rcases List.mem_append.mp hm with hm | hm
        · obtain ⟨d, _, z⟩ := List.mem_map.mp hm
          cases z
        · have := List.eq_of_mem_replicate hm
          cases this
  · cases i with
    | zero => cases ex; cases ox
    | succ i => exact (isOw_im (n := N.length - ds.length - 1) (ds := ds) (i := i) ex ox).elim
end
structure FnG (P : Program) (w : World) (K : PySem.W.Frag) (mg : Str → Option Value) (base : Heap) (k : Nat) (f : Addr) (fd : FuncData) (ps : List Str) (sp : Sp) : Prop where
  len : ∀ vs H Q E, sp vs H Q E → vs.length = ps.length
  run : ∀ (A : Around) (outer : List Env) (s : Shared) (H : Hp) (args : Args) (us : List Value) (vs : List V) (Q : VK) (E : XK), A.guards = some [] → Room k A → Env0 P w K mg base A outer s H → BindsTo s fd args (ps.zip us) → Vals vs us → sp vs H Q E →
    codeAny (model P w) A (.call (.ref f) args) (CR (CXm P w mg) outer P w H s Q E) s
theorem ends_call {X : Cx} {pins : List (Addr × Obj)} {σ : L2.St} {H : Hp} {s s' : Shared} {Q : VK} {E : XK} {r : PySem.Result} (I : Inv X pins σ H s) (hx : PassesAt (CXm X.prog X.w X.mg) X σ E) (hq : CR (CXm X.prog X.w X.mg) X.stack X.prog X.w H s Q E r s') :
    match r with
    | .ok (.ret u) => EP X pins σ Q u s'
    | .ok _ => False
    | .error e => X.xe e s' := by
  cases r with
  | error e => exact hx pins H s e s' I hq
  | ok fl => cases fl <;> first | exact I.after hq | exact hq
theorem run_g {X : Cx} {k : Nat} {f : Addr} {fd : FuncData} {ps : List Str} {sp : Sp} {dvs : List V} {ds : List Value} {E : L2.St → XK} {pins : List (Addr × Obj)} {σ : L2.St} {H : Hp} {s : Shared} {Q : VK} {us : List Value} {vs : List V} (F : FnG X.prog X.w X.K X.mg X.base k f fd ps sp) (hg : X.A.guards = some []) (hr : Room k X.A) (hb : Binds X.K fd ps ds) (hd : Vals dvs ds)
    (hx : PassesAt (CXm X.prog X.w X.mg) X σ (E σ)) (I : Inv X pins σ H s) (r : Vals vs us) (h : sp (vs ++ dvs) H Q (E σ)) : wpAny (model X.prog X.w) X.A (call (.ref f) us) (EP X pins σ Q) X.xe s := by
  have ra := r.append hd
  have hl := F.len _ _ _ _ h
  rw [ra.length] at hl
  refine wpAny_call (codeAny_mono (F.run X.A X.stack s H ⟨us, []⟩ (us ++ ds) (vs ++ dvs) Q (E σ) hg hr I.env0 (hb s us I.kIn hl) ra h) fun r s' hq => ?_)
  have z := ends_call I hx hq
  cases r with
  | error e => exact z
  | ok fl => cases fl <;> first | exact z | exact z.elim
theorem pe_callG {X : Cx} {k : Nat} {f : Addr} {fd : FuncData} {ps : List Str} {sp : Sp} {dvs : List V} {ds : List Value} {E : L2.St → XK} {x : Str} {p pos : Pos} {e : Expr} {es : List Expr} {t : TA} (F : FnG X.prog X.w X.K X.mg X.base k f fd ps sp) (hgd : X.A.guards = some []) (hr : Room k X.A) (hg : Gl X x) (hm : X.mg x = some (.ref f)) (hk : PySem.W.keepIn X.K (.ref f) = true) (hb : Binds X.K fd ps ds) (hd : Vals dvs ds)
    (hx : ∀ σ, PassesAt (CXm X.prog X.w X.mg) X σ (E σ)) (ha : PA X (e :: es) t) (hdb : (x == ("__debug__" : Str)) = false := by decide) (he : starEach (e :: es) X.env = (false, eval e X.env) :: starEach es X.env := by rfl) (hpl : (backTo pos (starEach es X.env)).any (·.1) = false := by rfl) :
    PE X (.Call (.Name x p) (e :: es) [] pos) (fun σ H Q => t σ H fun vs H1 => sp (vs ++ dvs) H1 Q (E σ)) := ⟨fun pins s σ H Q I h =>
  wpAny_Call_Name_kw (ld_glob I hg hm (PySem.W.callWith_K (h₀ := X.base) I.ok.mod.kin hk (thn (ha.run pos pins s σ H _ I h) fun us s1 ⟨vs, H1, I1, r, q⟩ => ⟨I1.kIn, run_g F hgd hr hb hd (hx σ) I1 r q⟩) he hpl) hdb)⟩
section
variable {P : Program} {w : World} {K : PySem.W.Frag} {mg : Str → Option Value} {base : Heap}
open PyProof.Rows PySem.Spec in
theorem fn_g {x qual : Str} {st : Stmt} {f : Addr} {fd : FuncData} {N ps : List Str} {k : Nat} {sp : Sp} (F : Fun K x qual st f fd) (Sc : FnScope N ps (defScope st)) (len : ∀ vs H Q E, sp vs H Q E → vs.length = ps.length)
    (hbody : ∀ (cdv : Value) (A : Around) (outer : List Env) (s : Shared) (H : Hp) (vs : List V) (Q : VK) (E : XK), A.guards = some [] → Room k (A.deeper (envOfC qual (defScope st) s.heap.objs.size f cdv)) → sp vs H Q E →
      ∃ t, PSs (cxOf (CXm P w mg) P w K mg base N qual (defScope st) f cdv A outer s H E) (defBody st) t ∧ t { nx := fun _ H' => Q .non H', rt := Q } (start N vs) H) : FnG P w K mg base (k + 1) f fd ps sp := by
  refine ⟨len, fun A outer s H args us vs Q E gd hr e0 hb r hsp => ?_⟩
  obtain ⟨oc, od, kV, doc, pm, an, cdv, ct, osl, rfl, lk, hcd⟩ := F.ex
  have kp := fun b o e => (e0.bs b o e).1
  have hk : ∀ y ∈ ps.zip us, (defScope st).names.lookup y.1 = some .local ∨ ((defScope st).names.lookup y.1 = some .cell ∧ ((cellsFrom (s.heap.objs.size + 1) (defScope st).names []).lookup y.1).isSome = true) := fun y hy =>
    (Sc.par y.1 (List.of_mem_zip (a := y.1) (b := y.2) hy).1).imp (fun q => q) fun q => ⟨q, PySem.W.cellsFrom_some _ _ _ (.inl q)⟩
  refine codeAny_call_function hr.depth (e0.mod.kin.keeps kp _ _ lk) rfl Sc.co Sc.gen rfl (PySem.W.codeRec_of (e0.mod.kin.keeps kp) hcd) (hb _ _ _ _ (wpAny_newFunctionEnv_cells Sc.kind hk fun env he s1 x => ?_))
  subst he
  obtain ⟨t, ht, hq⟩ := hbody cdv A outer s H vs Q E gd (hr.deeper _) hsp
  have I : Inv (cxOf (CXm P w mg) P w K mg base N qual (defScope st) f cdv A outer s H E) [] (start N vs) H s1 := inv_start Sc hr.hd e0 (len _ _ _ _ hsp) r x
  refine ⟨(e0.mod.nolimit.keeps kp).keeps x.toInCall.keep, codeAny_func (wpAny_mono (ht.run [] s1 (start N vs) H _ I hq) (fun fl s' hs => ?_) fun e s' hs => hs)⟩
  cases fl with
  | ret u =>
    obtain ⟨v, σ', H', J, rv, q⟩ := hs
    exact ⟨v, H', J.os, J.bare, J.base, J.hok, rv, q⟩
  | next =>
    obtain ⟨σ', H', J, q⟩ := hs
    exact ⟨.non, H', J.os, J.bare, J.base, J.hok, rfl, q⟩
  | brk => exact hs.elim fun _ h => h.elim fun _ h => h.2.elim
  | cont => exact hs.elim fun _ h => h.elim fun _ h => h.2.elim
theorem fnR {nr : Bool} {x qual : Str} {st : Stmt} {f : Addr} {fd : FuncData} {N ps : List Str} {k n : Nat} {g : List D → R D} (F : Fun K x qual st f fd) (Sc : FnScope N ps (defScope st)) (hn : ps.length = n) (hN : n ≤ N.length)
    (hb : ∀ (cdv : Value) (A : Around) (outer : List Env) (s : Shared) (H Hf : Hp) (E : XK) (ds : List D), Cok (cxOf (CXm P w mg) P w K mg base N qual (defScope st) f cdv A outer s H E) (fxE [] nr H Hf E) k → ds.length = n →
      ∃ body : R (Fl Unit Empty), PSs (cxOf (CXm P w mg) P w K mg base N qual (defScope st) f cdv A outer s H E) (defBody st)
        (tS (cxOf (CXm P w mg) P w K mg base N qual (defScope st) f cdv A outer s H E).K (cxOf (CXm P w mg) P w K mg base N qual (defScope st) f cdv A outer s H E).mg (fxE [] nr H Hf E) (G0 N ds) (fun _ => unG N) Empty.elim body) ∧ g ds = runR nr body) :
    FnG P w K mg base (k + 1) f fd ps (spR K mg nr n g) := by
  refine fn_g F Sc (fun vs H Q E h => h.1.trans hn.symm) (fun cdv A outer s H vs Q E gd hr h => ?_)
  obtain ⟨hl, Hf, ds, sb, l, q⟩ := h
  have C : Cok (cxOf (CXm P w mg) P w K mg base N qual (defScope st) f cdv A outer s H E) (fxE [] nr H Hf E) k := ⟨rfl, fun _ => passes_of rfl, takes_of rfl rfl rfl rfl, hr, Sc.nd, gd⟩
  obtain ⟨body, hp, hg⟩ := hb cdv A outer s H Hf E ds C (l.len.trans hl)
  refine ⟨_, hp, Hf, ⟨0, 0, 0, [], false⟩, .init0 sb l (by omega), ?_⟩
  rw [hg] at q
  show R.wp body _ _ _
  cases body with
  | ok f =>
    cases f with
    | nx a =>
      cases nr with
      | true => exact (show False from q).elim
      | false => exact fun Hf' H' σ' _ st => q .non Hf' H' st.ste (rfl : V.non = V.non)
    | rt d => exact fun v Hf' H' st _ i => q v Hf' H' st i
    | bk b => exact b.elim
    | ct b => exact b.elim
  | ex e => exact fun cls dd σ' Hf' H' st x => q cls dd Hf' H' st.1 x
  | stuck => exact q
theorem fnM {nr : Bool} {x qual : Str} {st : Stmt} {f : Addr} {fd : FuncData} {N ps : List Str} {k n : Nat} {g : List D → M D} (F : Fun K x qual st f fd) (Sc : FnScope N ps (defScope st)) (hn : ps.length = n + 1) (hN : n + 1 ≤ N.length)
    (hb : ∀ (cdv : Value) (A : Around) (outer : List Env) (s : Shared) (H Hf : Hp) (bag : List Addr) (E : XK) (ds : List D), Cok (cxOf (CXm P w mg) P w K mg base N qual (defScope st) f cdv A outer s H E) (fxE bag nr H Hf E) k → ds.length = n →
      ∃ body : M (Fl Unit Empty), PSs (cxOf (CXm P w mg) P w K mg base N qual (defScope st) f cdv A outer s H E) (defBody st)
        (tS (cxOf (CXm P w mg) P w K mg base N qual (defScope st) f cdv A outer s H E).K (cxOf (CXm P w mg) P w K mg base N qual (defScope st) f cdv A outer s H E).mg (fxE bag nr H Hf E) (G1 N ds) (fun _ => unG N) Empty.elim body) ∧ g ds = runM nr body) :
    FnG P w K mg base (k + 1) f fd ps (spM K mg nr (n + 1) g) := by
  refine fn_g F Sc (fun vs H Q E h => h.1.trans hn.symm) (fun cdv A outer s H vs Q E gd hr h => ?_)
  obtain ⟨hl, bag, b, r, Hf, ds, vs', s0, eb, rfl, sb, hbb, bg, l, q⟩ := h
  have C : Cok (cxOf (CXm P w mg) P w K mg base N qual (defScope st) f cdv A outer s H E) (fxE bag nr H Hf E) k := ⟨rfl, fun _ => passes_of rfl, takes_of rfl rfl rfl rfl, hr, Sc.nd, gd⟩
  have hl' : vs'.length = n := by simpa using hl
  obtain ⟨body, hp, hg⟩ := hb cdv A outer s H Hf bag E ds C (l.len.trans hl')
  refine ⟨_, hp, Hf, s0, .init1 eb sb hbb bg l (by omega), ?_⟩
  rw [hg] at q
  show (body s0).wp _ _
  have e : runM nr body s0 = (match body s0 with
    | .ok (.nx _) s => if nr = true then .stuck else .ok .non s
    | .ok (.rt d) s => .ok d s
    | .ok (.bk b) _ => b.elim
    | .ok (.ct b) _ => b.elim
    | .ex e s => .ex e s
    | .stuck => .stuck) := rfl
  rw [e] at q
  cases z : body s0 with
  | ok f s1 =>
    rw [z] at q
    cases f with
    | nx a =>
      cases nr with
      | true => exact (show False from q).elim
      | false => exact fun Hf' H' σ' _ st => q .non Hf' H' st.ste st.bag (rfl : V.non = V.non)
    | rt d => exact fun v Hf' H' st bg i => q v Hf' H' st bg i
    | bk b => exact b.elim
    | ct b => exact b.elim
  | ex e s1 => rw [z] at q; exact fun cls dd σ' Hf' H' st x => q cls dd Hf' H' st.1 st.2 x
  | stuck => rw [z] at q; exact q
end
section
variable {X : Cx} {fx : Fx} {m : Type → Type} [Mo m] {G : List Sl} {es : List Expr} {pos : Pos} {ys : m (List D)} {kk j n : Nat} {g : List D → R D} {f : Addr} {fd : FuncData} {ps : List Str} {nm : Str} {p : Pos} {e : Expr}
theorem fn_core {vs : List V} {ds : List D} {Hf : Hp} {s : S} {σ : L2.St} {H : Hp} {Q : VK} (hn : vs.length = n) (r : IsL X.K X.mg Hf ds vs) (h : tX X.K X.mg fx G (fun H d v => Is X.K X.mg H d v) (Mo.lift (g ds) : m D) Hf s σ H Q) : spR X.K X.mg false n g vs H Q (WE fx.W σ) := by
  have w := Mo.wp_lift h.2
  refine ⟨hn, Hf, ds, h.1.top, r, ?_⟩
  cases z : g ds with
  | ok d => rw [z] at w; exact fun v Hf' H' st i => w v Hf' H' st.wide (st.bag h.1.bag) i
  | ex e => rw [z] at w; exact fun cls dd Hf' H' st x => w cls dd Hf' H' (h.1.step st.wide (st.bag h.1.bag)) x
  | stuck => rw [z] at w; exact w
theorem de_fn (C : Cok X fx kk) (F : FnG X.prog X.w X.K X.mg X.base j f fd ps (spR X.K X.mg false n g)) (hm : X.mg nm = some (.ref f)) (hk : PySem.W.keepIn X.K (.ref f) = true) (hb : Binds X.K fd ps []) (ha : PA X (e :: es) (tA X.K X.mg fx G ys)) (hn : ∀ ds : List D, g ds ≠ .stuck → ds.length = n)
    (hj : j ≤ kk := by decide) (hg : Gl X nm := by rfl) (hdb : (nm == ("__debug__" : Str)) = false := by decide) (he : starEach (e :: es) X.env = (false, eval e X.env) :: starEach es X.env := by rfl) (hpl : (backTo pos (starEach es X.env)).any (·.1) = false := by rfl) :
    PE X (.Call (.Name nm p) (e :: es) [] pos) (tE X.K X.mg fx G (do let ds ← ys; Mo.lift (g ds))) := peI (pe_callG (E := WE fx.W) F C.gd (C.rm.mono hj) hg hm hk hb .nil (fun σ => passAt C.tk σ) ha hdb he hpl) fun σ H Q ⟨Hf, s, h⟩ =>
  (h.bind.mono fun vs H1 ⟨ds, Hf1, s1, sb, r, h1⟩ => by
    rw [List.append_nil]
    exact fn_core (by
    have w := Mo.wp_lift h1.2
    rw [← r.len]
    refine hn ds fun z => ?_
    rw [z] at w
    exact w) r h1).to
end
section
variable {X : Cx} {fx : Fx} {G : List Sl} {es : List Expr} {pos : Pos} {ys : M (List D)} {kk j n : Nat} {g : List D → M D} {f : Addr} {fd : FuncData} {ps : List Str} {nm bn : Str} {p bp : Pos}
theorem de_fnM (C : Cok X fx kk) (i : Nat) (F : FnG X.prog X.w X.K X.mg X.base j f fd ps (spM X.K X.mg false (n + 1) g)) (hm : X.mg nm = some (.ref f)) (hk : PySem.W.keepIn X.K (.ref f) = true) (hb : Binds X.K fd ps []) (ha : PA X es (tA X.K X.mg fx G ys)) (hn : ∀ ds s, g ds s ≠ .stuck → ds.length = n)
    (hG : G[i]? = some .bg := by rfl) (hN : X.N[i]? = some bn := by rfl) (hv : Vis X.env.scope bn := by first | exact Or.inl rfl | exact Or.inr (Or.inl rfl) | exact Or.inr (Or.inr rfl))
    (hj : j ≤ kk := by decide) (hg : Gl X nm := by rfl) (hdb : (nm == ("__debug__" : Str)) = false := by decide) (he : starEach (.Name bn bp :: es) X.env = (false, eval (.Name bn bp) X.env) :: starEach es X.env := by rfl) (hpl : (backTo pos (starEach es X.env)).any (·.1) = false := by rfl)
    (hd : (bn == ("__debug__" : Str)) = false := by decide) (hcd : (bn == ("__classdict__" : Str)) = false := by decide) :
    PE X (.Call (.Name nm p) (.Name bn bp :: es) [] pos) (tE X.K X.mg fx G (do let ds ← ys; g ds)) :=
  peI (pe_callG (E := WE fx.W) F C.gd (C.rm.mono hj) hg hm hk hb .nil (fun σ => passAt C.tk σ) (pa_cons (pe_var hN hv hd hcd) ha he) hdb he hpl) fun σ H Q ⟨Hf, s, h⟩ => by
    obtain ⟨b, r, eb, ev⟩ := h.1.sl i _ hG
    refine ⟨.ref b, ev, (h.bind.mono fun vs H1 ⟨ds, Hf1, s1, sb, rl, h1⟩ => ?_).to⟩
    show spM X.K X.mg false (n + 1) g ((.ref b :: vs) ++ []) H1 Q (WE fx.W σ)
    rw [List.append_nil]
    have w : (g ds s1).wp _ _ := h1.2
    have hlen : ds.length = n := hn ds s1 fun z => by rw [z] at w; exact w
    refine ⟨by rw [List.length_cons, ← rl.len, hlen], fx.bag, b, r, Hf1, ds, vs, s1, eb, rfl, h1.1.top, h1.1.bagf, h1.1.bag, rl, ?_⟩
    cases z : g ds s1 with
    | ok d s' => rw [z] at w; exact fun v Hf' H' st bg i => w v Hf' H' st bg i
    | ex e s' => rw [z] at w; exact fun cls dd Hf' H' st bg x => w cls dd Hf' H' (h1.1.step st bg) x
    | stuck => rw [z] at w; exact w
end
end DL
namespace DL
open PySem L2
mutual
def toPy : D → Option PyData
  | .non => some .none
  | .bl b => some (.bool b)
  | .int i => some (.int i)
  | .str s => some (.str ⟨s.toArray⟩)
  | .tup ds => (toPyL ds).map .tuple
  | .lst ds => (toPyL ds).map .list
  | _ => none
def toPyL : List D → Option (List PyData)
  | [] => some []
  | d :: ds => do
    let x ← toPy d
    let xs ← toPyL ds
    return x :: xs
end
section
variable {K : PySem.W.Frag} {mg : Str → Option Value}
mutual
theorem Is.dp {H : Hp} : ∀ {d : D} {v : V} {p : PyData}, Is K mg H d v → toPy d = some p → Dp K H v p
  | .non, _, _, h, e => by cases e; cases h; exact .non
  | .bl b, _, _, h, e => by cases e; cases h; exact .bl b
  | .int i, _, _, h, e => by cases e; cases h; exact .int i
  | .str s, _, _, h, e => by cases e; cases h.1; exact .str _
  | .tup ds, _, _, h, e => by
    obtain ⟨_, a, vs, rfl, t, l⟩ := h
    unfold toPy at e
    cases q : toPyL ds with
    | none => rw [q] at e; cases e
    | some ps => rw [q] at e; cases e; exact .tup t (IsL.dp l q)
  | .lst ds, _, _, h, e => by
    obtain ⟨_, a, vs, rfl, t, l⟩ := h
    unfold toPy at e
    cases q : toPyL ds with
    | none => rw [q] at e; cases e
    | some ps => rw [q] at e; cases e; exact .lst (.inl (.inl t)) (IsL.dp l q)
  | .dic _ _, _, _, h, e => by unfold toPy at e; cases e
  | .ins _ _ _, _, _, h, e => by unfold toPy at e; cases e
  | .scr _, _, _, h, e => by unfold toPy at e; cases e
  | .xc _ _ _ _, _, _, h, e => by unfold toPy at e; cases e
theorem IsL.dp {H : Hp} : ∀ {ds : List D} {vs : List V} {ps : List PyData}, IsL K mg H ds vs → toPyL ds = some ps → DpAll K H vs ps
  | [], _, _, h, e => by cases h; unfold toPyL at e; cases e; exact .nil
  | d :: ds, _, _, h, e => by
    obtain ⟨v, r, rfl, i, l⟩ := h
    unfold toPyL at e
    cases q : toPy d with
    | none => rw [q] at e; cases e
    | some x =>
      cases q2 : toPyL ds with
      | none => rw [q, q2] at e; cases e
      | some xs => rw [q, q2] at e; cases e; exact .cons (Is.dp i q) (IsL.dp l q2)
end
end
def eqS (a b : D) : Option Bool := match toPy a, toPy b with
  | some x, some y => if SeqAt.shaped x && SeqAt.shaped y then some (PyData.eqv x y) else none
  | _, _ => none
def eqP : D → D → Option Bool
  | .str x, .str y => some (decide (x = y))
  | .int x, .int y => some (decide (x = y))
  | .bl x, .bl y => some (decide (x = y))
  | .non, .non => some true
  | a, b => eqS a b
def eqD (a b : D) : Option D := (eqP a b).map .bl
def neD (a b : D) : Option D := (eqP a b).map fun x => .bl (!x)
def addD : D → D → Option D
  | .int i, .int j => some (.int (i + j))
  | .str a, .str b => if a.length + b.length ≤ sizeLine then some (.str (a ++ b)) else none
  | .lst a, .lst b => if a.length + b.length ≤ sizeLine then some (.lst (a ++ b)) else none
  | .tup a, .tup b => if a.length + b.length ≤ sizeLine then some (.tup (a ++ b)) else none
  | _, _ => none
def subD : D → D → Option D
  | .int i, .int j => some (.int (i - j))
  | _, _ => none
def mulD : D → D → Option D
  | .int i, .int j => if i.natAbs.log2 + j.natAbs.log2 < 1000000 then some (.int (i * j)) else none
  | .str a, .int k => if 0 ≤ k ∧ k < 1000000 ∧ a.length * k.toNat ≤ 1000000 then some (.str (List.replicate k.toNat a).flatten) else none
  | .lst a, .int k => if 0 ≤ k ∧ k < 1000000 ∧ a.length * k.toNat ≤ 1000000 then some (.lst (List.replicate k.toNat a).flatten) else none
  | _, _ => none
def fdivD : D → D → Option D
  | .int i, .int j => if 0 < j ∧ j.natAbs.log2 < 9000 then some (.int (i / j)) else none
  | _, _ => none
def modD : D → D → Option D
  | .int i, .int j => if 0 < j then some (.int (i % j)) else none
  | _, _ => none
def ltP (a b : D) : Option Bool := match toPy a, toPy b with
  | some x, some y => if PySem.W.alike x y && decide (x.depth ≤ 60) && (isNonP x == false) then some (PySem.W.dataLt x y) else none
  | _, _ => none
where isNonP : PyData → Bool
  | .none => true
  | _ => false
def ltD : D → D → Option D
  | .int i, .int j => some (.bl (decide (i < j)))
  | .str a, .str b => some (.bl (decide (a < b)))
  | a, b => (ltP a b).map .bl
def leD : D → D → Option D
  | .int i, .int j => some (.bl (decide (i ≤ j)))
  | a, b => (leP a b).map .bl
where leP (a b : D) : Option Bool := match toPy a, toPy b with
  | some x, some y => if PySem.W.alike x y && decide (x.depth ≤ 60) && (ltP.isNonP x == false) then some (!PySem.W.dataLt y x) else none
  | _, _ => none
def gtD : D → D → Option D
  | .int i, .int j => some (.bl (decide (j < i)))
  | a, b => (gtP a b).map .bl
where gtP (a b : D) : Option Bool := match toPy a, toPy b with
  | some x, some y => if PySem.W.alike x y && decide (x.depth ≤ 60) && (ltP.isNonP x == false) then some (PySem.W.dataLt y x) else none
  | _, _ => none
def geD : D → D → Option D
  | .int i, .int j => some (.bl (decide (j ≤ i)))
  | a, b => (geP a b).map .bl
where geP (a b : D) : Option Bool := match toPy a, toPy b with
  | some x, some y => if PySem.W.alike x y && decide (x.depth ≤ 60) && (ltP.isNonP x == false) then some (!PySem.W.dataLt x y) else none
  | _, _ => none
def isNone : D → Option Bool
  | .non => some true
  | .bl _ => some false
  | .int _ => some false
  | .str _ => some false
  | .tup _ => some false
  | .lst _ => some false
  | .dic _ _ => some false
  | .ins _ _ _ => some false
  | .scr _ => some false
  | .xc _ _ _ _ => some false
def isD : D → D → Option D
  | a, .non => (isNone a).map .bl
  | .bl a, .bl b => some (.bl (decide (a = b)))
  | _, _ => none
def isNotD : D → D → Option D
  | a, .non => (isNone a).map fun x => .bl (!x)
  | .bl a, .bl b => some (.bl (!decide (a = b)))
  | _, _ => none
def inP : D → D → Option Bool
  | .str [c], .str z => some (decide (c ∈ z))
  | d, .lst ds => match toPy d, toPy (.lst ds) with
    | some x, some (.list ys) => if SeqAt.shaped x && SeqAt.shaped (.list ys) then some (ys.any fun z => PyData.eqv z x) else none
    | _, _ => none
  | d, .tup ds => match toPy d, toPy (.tup ds) with
    | some x, some (.tuple ys) => if SeqAt.shaped x && SeqAt.shaped (.tuple ys) then some (ys.any fun z => PyData.eqv z x) else none
    | _, _ => none
  | _, _ => none
def inD (a b : D) : Option D := (inP a b).map .bl
def notInD (a b : D) : Option D := (inP a b).map fun x => .bl (!x)
section
variable {X : Cx}
theorem str_tl (s : List Nat) : (⟨s.toArray⟩ : Str).cps.toList = s := by simp
theorem str_len (s : List Nat) : (⟨s.toArray⟩ : Str).length = s.length := by
  show s.toArray.size = s.length
  simp
theorem str_app (a b : List Nat) : (⟨a.toArray⟩ ++ ⟨b.toArray⟩ : Str) = ⟨(a ++ b).toArray⟩ := by
  show (⟨a.toArray ++ b.toArray⟩ : Str) = _
  simp
theorem dec_str {a b : List Nat} : decide (V.str ⟨a.toArray⟩ = V.str ⟨b.toArray⟩) = decide (a = b) := by
  by_cases h : a = b
  · subst h; simp
  · rw [decide_eq_false h, decide_eq_false]
    intro z
    apply h
    have z1 : (⟨a.toArray⟩ : Str) = ⟨b.toArray⟩ := V.str.inj z
    have z2 : a.toArray = b.toArray := Str.mk.inj z1
    simpa using z2
theorem eq_core (hu : X.A.units + 64 < cLine) {pins : List (Addr × Obj)} {s : Shared} {σ : L2.St} {H : Hp} {x y : V} {v u : Value} (I : Inv X pins σ H s) (rx : RelV x v) (ry : RelV y u) {Hf : Hp} {dx dy : D} {b : Bool} (sb : Sub Hf H) (ix : Is X.K X.mg Hf dx x) (iy : Is X.K X.mg Hf dy y) (e : eqP dx dy = some b) :
    (∀ Q : VK, Q (.bl b) H → wpAny (model X.prog X.w) X.A (compareOp .Eq v u) (EP X pins σ Q) X.xe s) ∧ (∀ Q : VK, Q (.bl (!b)) H → wpAny (model X.prog X.w) X.A (compareOp .NotEq v u) (EP X pins σ Q) X.xe s) := by
  unfold eqP at e
  split at e
  · obtain ⟨rfl, _⟩ := ix
    obtain ⟨rfl, _⟩ := iy
    cases e
    exact ⟨fun Q q => op_eq pins s σ H _ _ v u Q I rx ry ⟨rfl, by rw [dec_str]; exact q⟩, fun Q q => op_ne pins s σ H _ _ v u Q I rx ry ⟨rfl, by rw [dec_str]; exact q⟩⟩
  · cases ix; cases iy; cases e
    refine ⟨fun Q q => op_eq pins s σ H _ _ v u Q I rx ry ⟨rfl, ?_⟩, fun Q q => op_ne pins s σ H _ _ v u Q I rx ry ⟨rfl, ?_⟩⟩ <;> simpa using q
  · cases ix; cases iy; cases e
    refine ⟨fun Q q => op_eq pins s σ H _ _ v u Q I rx ry ⟨rfl, ?_⟩, fun Q q => op_ne pins s σ H _ _ v u Q I rx ry ⟨rfl, ?_⟩⟩ <;> simpa using q
  · cases ix; cases iy; cases e
    exact ⟨fun Q q => op_eq pins s σ H _ _ v u Q I rx ry ⟨rfl, by simpa using q⟩, fun Q q => op_ne pins s σ H _ _ v u Q I rx ry ⟨rfl, by simpa using q⟩⟩
  · unfold eqS at e
    cases e1 : toPy dx with
    | none => rw [e1] at e; cases e
    | some p1 =>
      cases e2 : toPy dy with
      | none => rw [e1, e2] at e; cases e
      | some p2 =>
        rw [e1, e2] at e
        by_cases c : (SeqAt.shaped p1 && SeqAt.shaped p2) = true
        · simp only [c, if_true, Option.some.injEq] at e
          subst e
          rw [Bool.and_eq_true] at c
          exact ⟨fun Q q => op_eqD hu pins s σ H x y v u Q I rx ry ⟨p1, p2, (ix.mono sb).dp e1, (iy.mono sb).dp e2, c.1, c.2, q⟩, fun Q q => op_neD hu pins s σ H x y v u Q I rx ry ⟨p1, p2, (ix.mono sb).dp e1, (iy.mono sb).dp e2, c.1, c.2, q⟩⟩
        · simp only [c, if_false] at e
          cases e
theorem od_eq (hu : X.A.units + 64 < cLine) : OpR X (compareOp .Eq) (rD2 X.K X.mg eqD) := by
  intro pins s σ H x y v u Q I rx ry h
  obtain ⟨Hf, dx, dy, d, sb, ix, iy, e, q⟩ := h
  unfold eqD at e
  cases e1 : eqP dx dy with
  | none => rw [e1] at e; cases e
  | some b => rw [e1] at e; cases e; exact (eq_core hu I rx ry sb ix iy e1).1 Q (q _ Hf H (.refl sb) (by cases b <;> rw [Is]))
theorem od_ne (hu : X.A.units + 64 < cLine) : OpR X (compareOp .NotEq) (rD2 X.K X.mg neD) := by
  intro pins s σ H x y v u Q I rx ry h
  obtain ⟨Hf, dx, dy, d, sb, ix, iy, e, q⟩ := h
  unfold neD at e
  cases e1 : eqP dx dy with
  | none => rw [e1] at e; cases e
  | some b => rw [e1] at e; cases e; exact (eq_core hu I rx ry sb ix iy e1).2 Q (q _ Hf H (.refl sb) (by cases b <;> rw [Is]))
theorem od_add : OpR X (binaryOp .Add) (rD2 X.K X.mg addD) := by
  intro pins s σ H x y v u Q I rx ry h
  obtain ⟨Hf, dx, dy, d, sb, ix, iy, e, q⟩ := h
  unfold addD at e
  split at e
  · cases e; cases ix; cases iy
    exact op_add pins s σ H _ _ v u Q I rx ry ⟨_, _, rfl, rfl, q _ Hf H (.refl sb) (by rw [Is])⟩
  · split at e
    · rename_i a b hz
      cases e; cases ix.1; cases iy.1
      exact op_add_str pins s σ H _ _ v u Q I rx ry ⟨_, _, rfl, rfl, by rw [str_len, str_len]; exact hz, q _ Hf H (.refl sb) (by rw [Is, str_app]; exact ⟨rfl, by rw [List.length_append]; exact hz⟩)⟩
    · cases e
  · split at e
    · rename_i a b hz
      cases e
      obtain ⟨z1, p1, v1, rfl, h1, l1⟩ := ix
      obtain ⟨z2, p2, v2, rfl, h2, l2⟩ := iy
      refine op_cat pins s σ H _ _ v u Q I rx ry ⟨_, _, _, _, rfl, rfl, sb _ _ h1, sb _ _ h2, by rw [← l1.len, ← l2.len]; exact hz, fun p hp => q _ _ _ (.new sb hp) ?_⟩
      exact ⟨by rw [List.length_append]; exact hz, p, _, rfl, upd_same, (l1.app l2).mono (Ste.new (bag := []) sb hp).sub⟩
    · cases e
  · split at e
    · rename_i a b hz
      cases e
      obtain ⟨z1, p1, v1, rfl, h1, l1⟩ := ix
      obtain ⟨z2, p2, v2, rfl, h2, l2⟩ := iy
      refine op_catA pins s σ H _ _ v u Q I rx ry ⟨_, _, _, _, rfl, rfl, sb.sqt h1, sb.sqt h2, by rw [← l1.len, ← l2.len]; exact hz, fun z => ?_, fun z3 z4 => ?_, fun _ _ p hp => q _ _ _ (.new sb hp) ?_⟩
      · subst z
        have := l1.len
        have ea : a = [] := List.eq_nil_of_length_eq_zero (by simpa using this)
        subst ea
        exact q _ _ _ (.refl sb) ⟨z2, p2, v2, rfl, h2, l2⟩
      · subst z4
        have := l2.len
        have eb : b = [] := List.eq_nil_of_length_eq_zero (by simpa using this)
        subst eb
        rw [List.append_nil] at q
        exact q _ _ _ (.refl sb) ⟨z1, p1, v1, rfl, h1, l1⟩
      · exact ⟨by rw [List.length_append]; exact hz, p, _, rfl, .inl (.inl upd_same), (l1.app l2).mono (Ste.new (bag := []) sb hp).sub⟩
    · cases e
  · cases e
theorem od_fdiv : OpR X (binaryOp .FloorDiv) (rD2 X.K X.mg fdivD) := by
  intro pins s σ H x y v u Q I rx ry h
  obtain ⟨Hf, dx, dy, d, sb, ix, iy, e, q⟩ := h
  unfold fdivD at e
  split at e
  · split at e
    · rename_i hz
      cases e; cases ix; cases iy
      exact op_fdivW pins s σ H _ _ v u Q I rx ry ⟨_, _, rfl, rfl, hz, q _ Hf H (.refl sb) (by rw [Is])⟩
    · cases e
  · cases e
theorem od_mod : OpR X (binaryOp .Mod) (rD2 X.K X.mg modD) := by
  intro pins s σ H x y v u Q I rx ry h
  obtain ⟨Hf, dx, dy, d, sb, ix, iy, e, q⟩ := h
  unfold modD at e
  split at e
  · split at e
    · rename_i hz
      cases e; cases ix; cases iy
      exact op_mod pins s σ H _ _ v u Q I rx ry ⟨_, _, rfl, rfl, hz, q _ Hf H (.refl sb) (by rw [Is])⟩
    · cases e
  · cases e
theorem od_lt (hu : X.A.units + 64 < cLine) : OpR X (compareOp .Lt) (rD2 X.K X.mg ltD) := by
  intro pins s σ H x y v u Q I rx ry h
  obtain ⟨Hf, dx, dy, d, sb, ix, iy, e, q⟩ := h
  unfold ltD at e
  split at e
  · cases e; cases ix; cases iy
    exact op_lt pins s σ H _ _ v u Q I rx ry ⟨_, _, rfl, rfl, q _ Hf H (.refl sb) (by rw [Is])⟩
  · cases e; cases ix.1; cases iy.1
    refine op_lt_str pins s σ H _ _ v u Q I rx ry ⟨_, _, rfl, rfl, ?_⟩
    rw [str_tl, str_tl]
    exact q _ Hf H (.refl sb) (by rw [Is])
  · cases e1 : ltP dx dy with
    | none => rw [e1] at e; cases e
    | some b =>
      rw [e1] at e; cases e
      unfold ltP at e1
      split at e1
      · rename_i p1 p2 f1 f2
        split at e1
        · rename_i hc
          cases e1
          simp only [Bool.and_eq_true, decide_eq_true_eq, beq_iff_eq] at hc
          obtain ⟨as, r1⟩ := Dp.reads I p1 x v ((ix.mono sb).dp f1) rx
          obtain ⟨bs, r2⟩ := Dp.reads I p2 y u ((iy.mono sb).dp f2) ry
          have hm : X.A.units + min p1.depth p2.depth < cLine := by
            have := Nat.min_le_left p1.depth p2.depth
            omega
          exact PySem.W.lt_data r1 r2 hc.1.1 (fun z => by rw [z] at hc; exact Bool.noConfusion hc.2) hm ⟨.bl _, H, I, rfl, q _ Hf H (.refl sb) (by cases (PySem.W.dataLt p1 p2) <;> cases (PySem.W.dataLt p2 p1) <;> rw [Is])⟩
        · cases e1
      · cases e1
theorem od_le (hu : X.A.units + 64 < cLine) : OpR X (compareOp .LtE) (rD2 X.K X.mg leD) := by
  intro pins s σ H x y v u Q I rx ry h
  obtain ⟨Hf, dx, dy, d, sb, ix, iy, e, q⟩ := h
  unfold leD at e
  split at e
  · cases e; cases ix; cases iy
    exact op_le pins s σ H _ _ v u Q I rx ry ⟨_, _, rfl, rfl, q _ Hf H (.refl sb) (by rw [Is])⟩
  · cases e1 : leD.leP dx dy with
    | none => rw [e1] at e; cases e
    | some b =>
      rw [e1] at e; cases e
      unfold leD.leP at e1
      split at e1
      · rename_i p1 p2 f1 f2
        split at e1
        · rename_i hc
          cases e1
          simp only [Bool.and_eq_true, decide_eq_true_eq, beq_iff_eq] at hc
          obtain ⟨as, r1⟩ := Dp.reads I p1 x v ((ix.mono sb).dp f1) rx
          obtain ⟨bs, r2⟩ := Dp.reads I p2 y u ((iy.mono sb).dp f2) ry
          have hm : X.A.units + min p1.depth p2.depth < cLine := by
            have := Nat.min_le_left p1.depth p2.depth
            omega
          exact PySem.W.le_data r1 r2 hc.1.1 (fun z => by rw [z] at hc; exact Bool.noConfusion hc.2) hm ⟨.bl _, H, I, rfl, q _ Hf H (.refl sb) (by cases (PySem.W.dataLt p1 p2) <;> cases (PySem.W.dataLt p2 p1) <;> rw [Is])⟩
        · cases e1
      · cases e1
theorem od_gt (hu : X.A.units + 64 < cLine) : OpR X (compareOp .Gt) (rD2 X.K X.mg gtD) := by
  intro pins s σ H x y v u Q I rx ry h
  obtain ⟨Hf, dx, dy, d, sb, ix, iy, e, q⟩ := h
  unfold gtD at e
  split at e
  · cases e; cases ix; cases iy
    exact op_gt pins s σ H _ _ v u Q I rx ry ⟨_, _, rfl, rfl, q _ Hf H (.refl sb) (by rw [Is])⟩
  · cases e1 : gtD.gtP dx dy with
    | none => rw [e1] at e; cases e
    | some b =>
      rw [e1] at e; cases e
      unfold gtD.gtP at e1
      split at e1
      · rename_i p1 p2 f1 f2
        split at e1
        · rename_i hc
          cases e1
          simp only [Bool.and_eq_true, decide_eq_true_eq, beq_iff_eq] at hc
          obtain ⟨as, r1⟩ := Dp.reads I p1 x v ((ix.mono sb).dp f1) rx
          obtain ⟨bs, r2⟩ := Dp.reads I p2 y u ((iy.mono sb).dp f2) ry
          have hm : X.A.units + min p1.depth p2.depth < cLine := by
            have := Nat.min_le_left p1.depth p2.depth
            omega
          exact PySem.W.gt_data r1 r2 hc.1.1 (fun z => by rw [z] at hc; exact Bool.noConfusion hc.2) hm ⟨.bl _, H, I, rfl, q _ Hf H (.refl sb) (by cases (PySem.W.dataLt p1 p2) <;> cases (PySem.W.dataLt p2 p1) <;> rw [Is])⟩
        · cases e1
      · cases e1
theorem od_ge (hu : X.A.units + 64 < cLine) : OpR X (compareOp .GtE) (rD2 X.K X.mg geD) := by
  intro pins s σ H x y v u Q I rx ry h
  obtain ⟨Hf, dx, dy, d, sb, ix, iy, e, q⟩ := h
  unfold geD at e
  split at e
  · cases e; cases ix; cases iy
    exact op_ge pins s σ H _ _ v u Q I rx ry ⟨_, _, rfl, rfl, q _ Hf H (.refl sb) (by rw [Is])⟩
  · cases e1 : geD.geP dx dy with
    | none => rw [e1] at e; cases e
    | some b =>
      rw [e1] at e; cases e
      unfold geD.geP at e1
      split at e1
      · rename_i p1 p2 f1 f2
        split at e1
        · rename_i hc
          cases e1
          simp only [Bool.and_eq_true, decide_eq_true_eq, beq_iff_eq] at hc
          obtain ⟨as, r1⟩ := Dp.reads I p1 x v ((ix.mono sb).dp f1) rx
          obtain ⟨bs, r2⟩ := Dp.reads I p2 y u ((iy.mono sb).dp f2) ry
          have hm : X.A.units + min p1.depth p2.depth < cLine := by
            have := Nat.min_le_left p1.depth p2.depth
            omega
          exact PySem.W.ge_data r1 r2 hc.1.1 (fun z => by rw [z] at hc; exact Bool.noConfusion hc.2) hm ⟨.bl _, H, I, rfl, q _ Hf H (.refl sb) (by cases (PySem.W.dataLt p1 p2) <;> cases (PySem.W.dataLt p2 p1) <;> rw [Is])⟩
        · cases e1
      · cases e1
end
end DL
namespace DL
open PySem L2
section
variable (K : PySem.W.Frag) (mg : Str → Option Value) (fx : Fx)
def FrQ (Hf H : Hp) (Q : VK) : List D → S → Prop := fun ds s' => ∀ p vs Hf' H', Ste fx.bag Hf H Hf' H' → BagAt fx.bag H' s' → H' p = some (.lst vs) → Hf' p = none → H p = none → IsL K mg Hf' ds vs → ds.length ≤ sizeLine → Q (.ref p) H'
def tF (G : List Sl) {m : Type → Type} [Mo m] (x : m (List D)) : TE := fun σ H Q => ∃ Hf s, StS K mg fx Hf H σ G s ∧ Mo.wp x s (FrQ K mg fx Hf H Q) (EX K mg fx G σ)
end
def mkL {m : Type → Type} [Mo m] (x : m (List D)) : m D := do
  let ds ← x
  pure (.lst ds)
def szL (ds : List D) : Option (List D) := if ds.length ≤ sizeLine then some ds else none
theorem Ste.upd {bag : List Addr} {Hf H Hf' H' : Hp} (e : Ste bag Hf H Hf' H') {p : Addr} {o : HO} (hp : H p = none) (hf : Hf' p = none) : Ste bag Hf H Hf' (L2.upd H' p o) := by
  refine ⟨e.sub, fun a u q => ?_, fun a u q n => ?_, fun a n => ?_, e.fresh⟩
  · have ne : a ≠ p := fun z => by rw [z, hf] at q; cases q
    rw [upd_ne ne]; exact e.top a u q
  · have ne : a ≠ p := fun z => by rw [z, hp] at q; cases q
    rw [upd_ne ne]; exact e.keep a u q n
  · by_cases c : a = p
    · rw [c, upd_same]; simp
    · rw [upd_ne c]; exact e.dom a n
section
variable {K : PySem.W.Frag} {mg : Str → Option Value} {fx : Fx} {Hf H : Hp} {σ : L2.St} {G : List Sl} {s : S}
theorem StS.other (st : StS K mg fx Hf H σ G s) {p : Addr} {o : HO} (hf : Hf p = none) (h0 : fx.H0 p = none) (nb : p ∉ fx.bag) (no : ∀ (j : Nat) (q : Addr), σ[j]? = some (some (.ref q)) → (∀ x, G[j]? = some x → isOw x = true → q ≠ p)) : StS K mg fx Hf (upd H p o) σ G s := by
  refine ⟨st.ste.upd h0 hf, st.bag.upd nb, fun b m => ⟨(st.bagg b m).1, ?_, (st.bagg b m).2.2⟩, st.len, fun j x ex => ?_, st.dis⟩
  · have ne : b ≠ p := fun z => st.owNb h0 nb (z ▸ m)
    rw [upd_ne ne]; exact (st.bagg b m).2.1
  · exact (st.sl j x ex).upd fun q o e => no j q e x ex o
end
section
variable {X : Cx} {fx : Fx} {m : Type → Type} [Mo m] {G : List Sl} {e : Expr}
theorem de_frz {x : m (List D)} (h : PE X e (tF X.K X.mg fx G x)) : PE X e (tE X.K X.mg fx G (mkL x)) := peI h fun σ H Q ⟨Hf, s, st, w⟩ =>
  ⟨Hf, s, st, Mo.wp_mono (Mo.wp_bind w) (fun ds s' k p vs Hf' H' e bg hp hf hn l hz => by
    have k' := Mo.wp_pure k
    have sb : Sub Hf' (upd Hf' p (.lst vs)) := fun a o q => by
      have ne : a ≠ p := fun z => by rw [z, hf] at q; cases q
      rw [upd_ne ne]; exact q
    refine k' (.ref p) (upd Hf' p (.lst vs)) H' ⟨e.sub.trans sb, fun a o q => ?_, e.keep, e.dom, fun a o q => ?_⟩ bg ⟨hz, p, vs, rfl, upd_same, l.mono sb⟩
    · by_cases c : a = p
      · subst c; rw [upd_same] at q; cases q; exact hp
      · rw [upd_ne c] at q; exact e.top a o q
    · by_cases c : a = p
      · subst c; exact .inr hn
      · rw [upd_ne c] at q; exact e.fresh a o q) fun e s' k => k⟩
theorem frq_new {Hf H : Hp} {σ : L2.St} {s : S} {ds : List D} {vs : List V} {Q : VK} (st : StS X.K X.mg fx Hf H σ G s) {Hf0 H0 : Hp} (e : Ste fx.bag Hf0 H0 Hf H) (h : FrQ X.K X.mg fx Hf0 H0 Q ds s) (l : IsL X.K X.mg Hf ds vs) (hz : ds.length ≤ sizeLine) (p : Addr) (hp : H p = none) : Q (.ref p) (upd H p (.lst vs)) := by
  have hn : H0 p = none := by
    cases q : H0 p with
    | none => rfl
    | some o => exact absurd hp (e.dom p (by rw [q]; simp))
  obtain ⟨_, nb, hf⟩ := st.new0 hp
  exact h p vs Hf _ (e.upd hn hf) (st.bag.upd nb) upd_same hf hn l hz
theorem df_list {es : List Expr} {pos : Pos} {ys : m (List D)} (h : PA X es (tA X.K X.mg fx G ys)) : PE X (.List es pos) (tF X.K X.mg fx G (do let ds ← ys; ask (szL ds))) := peI (pe_lst h) fun σ H Q ⟨Hf, s, st, w⟩ =>
  ⟨Hf, s, st, Mo.wp_mono (Mo.wp_bind w) (fun ds s1 k vs Hf1 H1 e bg l => by
    have k' := Mo.wp_lift k
    by_cases hz : ds.length ≤ sizeLine
    · have e1 : szL ds = some ds := if_pos hz
      rw [e1] at k'
      exact ⟨by rw [← l.len]; exact hz, fun p hp => frq_new (st.step e bg) e k' l hz p hp⟩
    · have e1 : szL ds = none := if_neg hz
      rw [e1] at k'
      exact k'.elim) fun e s' k => k⟩
theorem de_tup {es : List Expr} {pos : Pos} {x1 : Nat} {ys : m (List D)} (h : PA X es (tA X.K X.mg fx G ys)) : PE X (.Tuple es x1 pos) (tE X.K X.mg fx G (do let ds ← ys; let ds ← ask (szL ds); pure (.tup ds))) := peI (pe_tup h) fun σ H Q ⟨Hf, s, h⟩ =>
  (h.bind.mono fun vs H1 ⟨ds, Hf1, s1, sb, l, h1⟩ => by
    have k' := Mo.wp_lift (Mo.wp_bind h1.2)
    by_cases hz : ds.length ≤ sizeLine
    · have e1 : szL ds = some ds := if_pos hz
      rw [e1] at k'
      refine ⟨by rw [← l.len]; exact hz, fun p hp => (Mo.wp_pure k') _ _ _ (.new h1.1.top hp) (h1.1.bag.upd (h1.1.new0 hp).2.1) ?_⟩
      exact ⟨hz, p, vs, rfl, .inl (.inl upd_same), l.mono (Ste.new (bag := []) h1.1.top hp).sub⟩
    · have e1 : szL ds = none := if_neg hz
      rw [e1] at k'
      exact k'.elim).to
end
def truD : D → Option Bool
  | .non => some false
  | .bl b => some b
  | .int i => some (i != 0)
  | .str s => some (!s.isEmpty)
  | .tup ds => some (!ds.isEmpty)
  | .lst ds => some (!ds.isEmpty)
  | _ => none
theorem isEmpty_len {α β : Type} {a : List α} {b : List β} (h : a.length = b.length) : a.isEmpty = b.isEmpty := by
  cases a <;> cases b <;> simp at h ⊢
section
variable {K : PySem.W.Frag} {mg : Str → Option Value}
theorem is_bl {H : Hp} (b : Bool) : Is K mg H (.bl b) (.bl b) := by
  cases b <;> rw [Is]
theorem is_int {H : Hp} (b : Int) : Is K mg H (.int b) (.int b) := by rw [Is]
theorem tru_is {Hf H : Hp} (sb : Sub Hf H) {d : D} {v : V} {b : Bool} (i : Is K mg Hf d v) (e : truD d = some b) : TruV K v H b := by
  cases d with
  | non => cases i; cases e; exact rfl
  | bl c => cases i; cases e; exact rfl
  | int c => cases i; cases e; exact rfl
  | str c =>
    obtain ⟨rfl, hz⟩ := i
    cases e
    refine ⟨by rw [str_len]; exact hz, ?_⟩
    rw [str_len]
    cases c with
    | nil => rfl
    | cons x r =>
      show (!(x :: r).isEmpty) = ((((x :: r).length : Nat) : Int) != 0)
      simp
      omega
  | tup ds =>
    obtain ⟨_, a, vs, rfl, t, l⟩ := i
    cases e
    exact .inr (.inl ⟨vs, sb.sqt t, by rw [isEmpty_len l.len]⟩)
  | lst ds =>
    obtain ⟨_, a, vs, rfl, t, l⟩ := i
    cases e
    exact .inl ⟨vs, .inl (.inl (sb _ _ t)), by rw [isEmpty_len l.len]⟩
  | dic _ _ => cases e
  | ins _ _ _ => cases e
  | scr _ => cases e
  | xc _ _ _ _ => cases e
end
section
variable {X : Cx} {fx : Fx} {m : Type → Type} [Mo m] {G : List Sl} {a b c : Expr} {rest : List Expr} {pos : Pos} {x y : m D} {t u : m Bool}
def andM (t u : m Bool) : m Bool := do
  let b ← t
  if b = true then u else pure false
def orM (t u : m Bool) : m Bool := do
  let b ← t
  if b = true then pure true else u
def notM (t : m Bool) : m Bool := do
  let b ← t
  pure (!b)
def iteM {α : Type} (t : m Bool) (x y : m α) : m α := do
  let b ← t
  if b = true then x else y
def andV (x y : m D) : m D := do
  let d ← x
  let b ← ask (truD d)
  if b = true then y else pure d
def notV (x : m D) : m D := do
  let d ← x
  let b ← ask (truD d)
  pure (.bl (!b))
theorem dt_tru (ha : PE X a (tE X.K X.mg fx G x)) (he : ∀ whole, isTrue a X.env whole = (do let v ← whole; standAt a.pos; holding [v] (truthy v)) := by intro _; rfl) :
    PT X a (tT X.K X.mg fx G (do let d ← x; ask (truD d))) := ptI (pt_truth ha he) fun σ H Q ⟨Hf, s, h⟩ =>
  (h.bind.mono fun v H1 ⟨d, Hf1, s1, sb, r, h1⟩ => by
    obtain ⟨k, e, q⟩ := h1.ask
    exact ⟨k, tru_is h1.1.top r e, q k Hf1 H1 (.refl h1.1.top) rfl⟩).to
theorem dw_and1 (ha : PT X a (tT X.K X.mg fx G t)) : PW X (.BoolOp .And [a] pos) (tT X.K X.mg fx G t) := pw_and1 ha
theorem dw_or1 (ha : PT X a (tT X.K X.mg fx G t)) : PW X (.BoolOp .Or [a] pos) (tT X.K X.mg fx G t) := pw_or1 ha
theorem dw_and (ha : PT X a (tT X.K X.mg fx G t)) (hb : PW X (.BoolOp .And (b :: rest) pos) (tT X.K X.mg fx G u)) : PW X (.BoolOp .And (a :: b :: rest) pos) (tT X.K X.mg fx G (andM t u)) := pwI (pw_and ha hb) fun σ H Q ⟨Hf, s, h⟩ =>
  (h.bind.mono fun v H1 ⟨d, Hf1, s1, sb, r, h1⟩ => by
    subst r
    cases v with
    | true => exact h1.to
    | false => exact h1.pure rfl).to
theorem dw_or (ha : PT X a (tT X.K X.mg fx G t)) (hb : PW X (.BoolOp .Or (b :: rest) pos) (tT X.K X.mg fx G u)) : PW X (.BoolOp .Or (a :: b :: rest) pos) (tT X.K X.mg fx G (orM t u)) := pwI (pw_or ha hb) fun σ H Q ⟨Hf, s, h⟩ =>
  (h.bind.mono fun v H1 ⟨d, Hf1, s1, sb, r, h1⟩ => by
    subst r
    cases v with
    | true => exact h1.pure rfl
    | false => exact h1.to).to
theorem dt_not (ha : PT X a (tT X.K X.mg fx G t)) : PT X (.UnaryOp .Not a pos) (tT X.K X.mg fx G (notM t)) := ptI (pt_not ha) fun σ H Q ⟨Hf, s, h⟩ =>
  (h.bind.mono fun v H1 ⟨d, Hf1, s1, sb, r, h1⟩ => by
    subst r
    exact h1.pure rfl).to
theorem de_not (ha : PE X a (tE X.K X.mg fx G x)) : PE X (.UnaryOp .Not a pos) (tE X.K X.mg fx G (notV x)) := peI (pe_notT ha) fun σ H Q ⟨Hf, s, h⟩ =>
  (h.bind.mono fun v H1 ⟨d, Hf1, s1, sb, r, h1⟩ => by
    have h2 := h1.bind (rl := fun _ a b => b = a) (β := Bool)
    have k := Mo.wp_lift (Mo.wp_bind h1.2)
    cases e : truD d with
    | none => rw [e] at k; exact k.elim
    | some b =>
      rw [e] at k
      exact ⟨b, tru_is h1.1.top r e, (Mo.wp_pure k) _ Hf1 H1 (.refl h1.1.top) h1.1.bag (is_bl _)⟩).to
theorem de_and (ha : PE X a (tE X.K X.mg fx G x)) (hb : PE X (.BoolOp .And (b :: rest) pos) (tE X.K X.mg fx G y)) : PE X (.BoolOp .And (a :: b :: rest) pos) (tE X.K X.mg fx G (andV x y)) := peI (pe_andT ha hb) fun σ H Q ⟨Hf, s, h⟩ =>
  (h.bind.mono fun v H1 ⟨d, Hf1, s1, sb, r, h1⟩ => by
    have k := Mo.wp_lift (Mo.wp_bind h1.2)
    cases e : truD d with
    | none => rw [e] at k; exact k.elim
    | some b =>
      rw [e] at k
      refine ⟨b, tru_is h1.1.top r e, ?_⟩
      cases b with
      | true => exact ⟨Hf1, s1, h1.1, k⟩
      | false => exact (Mo.wp_pure k) _ Hf1 H1 (.refl h1.1.top) h1.1.bag r).to
theorem de_one {op : BoolOp} (ha : PE X a (tE X.K X.mg fx G x)) : PE X (.BoolOp op [a] pos) (tE X.K X.mg fx G x) := pe_one ha
theorem de_ifExp (hc : PT X c (tT X.K X.mg fx G t)) (ha : PE X a (tE X.K X.mg fx G x)) (hb : PE X b (tE X.K X.mg fx G y)) : PE X (.IfExp c a b pos) (tE X.K X.mg fx G (iteM t x y)) := peI (pe_ifExp hc ha hb) fun σ H Q ⟨Hf, s, h⟩ =>
  (h.bind.mono fun v H1 ⟨d, Hf1, s1, sb, r, h1⟩ => by
    subst r
    cases v with
    | true => exact h1.to
    | false => exact h1.to).to
def chainM (f g : D → D → Option D) (x y z : m D) : m D := do
  let u ← x
  let v ← y
  let p ← ask ((f u v).bind bOf)
  if p = true then do
    let w ← z
    ask (g v w)
  else pure (.bl false)
theorem chain_read {op op' : CmpOp} {f g : D → D → Option D} {z : m D} {σ : L2.St} {H : Hp} {Q : VK} (h : tE X.K X.mg fx G (chainM f g x y z) σ H Q) :
    tChain (rD2 X.K X.mg f) (rD2 X.K X.mg g) (tE X.K X.mg fx G x) (tE X.K X.mg fx G y) (tE X.K X.mg fx G z) σ H Q := by
  obtain ⟨Hf, s, h⟩ := h
  refine (h.bind.mono fun v1 H1 ⟨d1, Hf1, s1, sb1, r1, h1⟩ => (h1.bind.mono fun v2 H2 ⟨d2, Hf2, s2, sb2, r2, h2⟩ => ?_).to).to
  have k := Mo.wp_lift (Mo.wp_bind h2.2)
  cases e : f d1 d2 with
  | none => rw [e] at k; exact k.elim
  | some d =>
    cases d with
    | bl p =>
      rw [e] at k
      have k' : Mo.wp (if p = true then (do let w ← z; ask (g d2 w)) else pure (.bl false) : m D) s2 _ _ := k
      refine ⟨Hf2, d1, d2, .bl p, h2.1.top, r1.mono sb2, r2, e, fun u Hf3 H3 e3 i3 => ⟨p, i3, ?_⟩⟩
      have st3 := h2.1.step e3.wide (e3.bag h2.1.bag)
      cases p with
      | true =>
        have h3 : tX X.K X.mg fx G (fun H d v => Is X.K X.mg H d v) (do let w ← z; ask (g d2 w) : m D) Hf3 s2 σ H3 Q :=
          ⟨st3, Mo.wp_mono k' (fun a s' q b Hf' H' e bg i => q b Hf' H' (e3.wide.trans e) bg i) fun e s' q => q⟩
        show tE X.K X.mg fx G z σ H3 _
        exact (h3.bind.mono fun v4 H4 ⟨d4, Hf4, s4, sb4, r4, h4⟩ => by
          obtain ⟨d, e, q⟩ := h4.ask
          exact ⟨Hf4, d2, d4, d, h4.1.top, (r2.mono e3.sub).mono sb4, r4, e, q⟩).to
      | false => exact (Mo.wp_pure k') _ Hf3 H3 e3.wide (e3.bag h2.1.bag) (is_bl _)
    | _ => rw [e] at k; exact k.elim
theorem test_read {x : m D} {Hf : Hp} {s : S} {σ : L2.St} {H : Hp} {Q : Bool → Hp → Prop} (h : tX X.K X.mg fx G (fun _ a b => b = a) (do let d ← x; ask (bOf d)) Hf s σ H Q) : tE X.K X.mg fx G x σ H fun v H' => ∃ k, v = .bl k ∧ Q k H' :=
  (h.bind.mono fun v H1 ⟨d, Hf1, s1, sb, r, h1⟩ => by
    obtain ⟨k, e, q⟩ := h1.ask
    cases d with
    | bl b =>
      cases e
      exact ⟨_, r, q _ Hf1 H1 (.refl h1.1.top) rfl⟩
    | _ => cases e).to
theorem dt_chain {op op' : CmpOp} {f g : D → D → Option D} {z : m D} (ho : OpR X (compareOp op) (rD2 X.K X.mg f)) (ho' : OpR X (compareOp op') (rD2 X.K X.mg g)) (ha : PE X a (tE X.K X.mg fx G x)) (hb : PE X b (tE X.K X.mg fx G y)) (hc : PE X c (tE X.K X.mg fx G z))
    (hm : lastMarks [op, op'] [b, c] = false := by with_unfolding_all rfl) : PT X (.Compare a [op, op'] [b, c] pos) (tT X.K X.mg fx G (do let d ← chainM f g x y z; ask (bOf d))) := ptI (pt_chain ho ho' ha hb hc hm) fun σ H Q ⟨Hf, s, h⟩ => chain_read (op := op) (op' := op') (test_read h)
end
end DL
namespace DL
open PySem L2
section
variable {X : Cx} {tg l : Expr} {tl : TE}
theorem piI {it : Expr} {t t' : TI} (h : PI X tg it t) (w : ∀ σ H Q, t' σ H Q → t σ H Q) : PI X tg it t' := ⟨fun pins s σ H Q I q => h.run pins s σ H Q I (w _ _ _ q)⟩
end
def sqOf : D → Option (List D)
  | .lst ds => some ds
  | .tup ds => some ds
  | _ => none
def intOf : D → Option Int
  | .int i => some i
  | _ => none
def rangeL (lo : Int) (n : Nat) : List D := (List.range n).map fun (k : Nat) => .int (lo + (k : Int))
def enumL (ds : List D) : List D := ds.mapIdx fun i d => .tup [.int (i : Int), d]
section
variable {K : PySem.W.Frag} {mg : Str → Option Value}
theorem yl_list {Hf : Hp} {ds : List D} {a : Addr} {vs : List V} (hz : ds.length ≤ sizeLine) (h : Hf a = some (.lst vs)) (l : IsL K mg Hf ds vs) : Yl K mg (Itl K a) Hf ds := ⟨hz, fun Hf2 H s1 s2 i => by
  have hq : SqL K H a vs := .inl (.inl (s2 _ _ (s1 _ _ h)))
  refine ⟨fun d hd => ?_, fun hl => ⟨vs, hq, by rw [← l.len]; exact hl⟩⟩
  obtain ⟨v, hv, iv⟩ := l.get hd
  exact ⟨⟨vs, v, hq, hv⟩, fun x H' ⟨e, f⟩ => by
    subst e
    have := f vs hq
    rw [hv] at this
    cases this
    exact ⟨Hf2, .refl s2, iv.mono s1⟩⟩⟩
theorem yl_tup {Hf : Hp} {ds : List D} {a : Addr} {vs : List V} (hz : ds.length ≤ sizeLine) (h : SqT K Hf a vs) (l : IsL K mg Hf ds vs) : Yl K mg (Itt K a) Hf ds := ⟨hz, fun Hf2 H s1 s2 i => by
  have hq : SqT K H a vs := s2.sqt (s1.sqt h)
  refine ⟨fun d hd => ?_, fun hl => ⟨vs, hq, by rw [← l.len]; exact hl⟩⟩
  obtain ⟨v, hv, iv⟩ := l.get hd
  exact ⟨⟨vs, v, hq, hv⟩, fun x H' ⟨e, f⟩ => by
    subst e
    have := f vs hq
    rw [hv] at this
    cases this
    exact ⟨Hf2, .refl s2, iv.mono s1⟩⟩⟩
theorem yl_range (lo : Int) (n : Nat) {Hf : Hp} (hz : n ≤ sizeLine) : Yl K mg (Itr lo n) Hf (rangeL lo n) := ⟨by simpa [rangeL] using hz, fun Hf2 H s1 s2 i => by
  refine ⟨fun d hd => ?_, fun hl => ?_⟩
  rotate_left
  · have z : n ≤ i := by simpa [rangeL] using hl
    exact z
  have hi : i < n := by
    have := (List.getElem?_eq_some_iff.mp hd).1
    simpa [rangeL] using this
  have e : d = .int (lo + (i : Int)) := by
    unfold rangeL at hd
    rw [List.getElem?_map, List.getElem?_range hi] at hd
    cases hd
    rfl
  subst e
  exact ⟨hi, fun x H' ⟨e1, e2⟩ => by
    subst e1 e2
    exact ⟨Hf2, .refl s2, is_int _⟩⟩⟩
theorem yl_str (s : List Nat) {Hf : Hp} (hz : s.length ≤ sizeLine) : Yl K mg (Its ⟨s.toArray⟩) Hf (s.map fun c => .str [c]) := ⟨by simpa using hz, fun Hf2 H s1 s2 i => by
  refine ⟨fun d hd => ?_, fun hl => ?_⟩
  · have hi : i < s.length := by
      have := (List.getElem?_eq_some_iff.mp hd).1
      simpa using this
    rw [List.getElem?_map, List.getElem?_eq_getElem hi] at hd
    cases hd
    refine ⟨?_, fun x H' ⟨e1, c, e2, e3⟩ => ?_⟩
    · show i < s.toArray.size
      simpa using hi
    · subst e1 e3
      refine ⟨Hf2, .refl s2, ?_⟩
      have e2' : s.toArray[i]? = some c := e2
      rw [List.getElem?_toArray, List.getElem?_eq_getElem hi] at e2'
      cases e2'
      exact ⟨rfl, by show 1 ≤ sizeLine; decide⟩
  · show s.toArray.size ≤ i
    simpa using hl⟩
theorem yl_enum {Hf : Hp} {ds : List D} {a : Addr} {vs : List V} (hz : ds.length ≤ sizeLine) (h : Hf a = some (.lst vs)) (l : IsL K mg Hf ds vs) : Yl K mg (Ite K a) Hf (enumL ds) := ⟨by simpa [enumL] using hz, fun Hf2 H s1 s2 i => by
  have hq : SqL K H a vs := .inl (.inl (s2 _ _ (s1 _ _ h)))
  refine ⟨fun d hd => ?_, fun hl => ⟨vs, hq, by rw [← l.len]; simpa [enumL] using hl⟩⟩
  have hi : i < ds.length := by
    have := (List.getElem?_eq_some_iff.mp hd).1
    simpa [enumL] using this
  have ed : d = .tup [.int (i : Int), ds[i]] := by
    unfold enumL at hd
    rw [List.getElem?_mapIdx, List.getElem?_eq_getElem hi] at hd
    cases hd
    rfl
  subst ed
  obtain ⟨v, hv, iv⟩ := l.get (List.getElem?_eq_getElem hi)
  refine ⟨⟨vs, v, hq, hv⟩, fun x H' ⟨T, y, e1, hT, e2, f⟩ => ?_⟩
  subst e1 e2
  have := f vs hq
  rw [hv] at this
  cases this
  refine ⟨upd Hf2 T (.tup [.int (i : Nat), v]), .new s2 hT, ?_⟩
  exact ⟨by show 2 ≤ sizeLine; decide, T, _, rfl, .inl (.inl upd_same), .cons (is_int _) (.cons ((iv.mono s1).mono (Ste.new (bag := []) s2 hT).sub) .nil)⟩⟩
end
section
variable {X : Cx} {fx : Fx} {m : Type → Type} [Mo m] {G : List Sl} {tg l a b : Expr} {x y : m D} {ys : m (List D)} {pos : Pos} {kk : Nat}
def strOf : D → Option (List Nat)
  | .str s => some s
  | _ => none
def chrs (s : List Nat) : List D := s.map fun c => .str [c]
def rng1 : List D → Option (List D)
  | [.int j] => if -(2 ^ 62) ≤ j ∧ j ≤ 1000000 then some (rangeL 0 j.toNat) else none
  | _ => none
theorem di_range1 {p : Pos} (hg : Gl X "range") (hm : X.mg "range" = none) (ha : PA X [a] (tA X.K X.mg fx G ys)) (hs : starEach [a] X.env = [(false, eval a X.env)] := by rfl) :
    PI X tg (.Call (.Name "range" p) [a] [] pos) (tI X.K X.mg fx G (do let ds ← ys; ask (rng1 ds))) := piI (pi_range1 hg hm ha hs) fun σ H Q ⟨Hf, s, h⟩ =>
  (h.bind.mono fun v H1 ⟨d, Hf1, s1, sb, r, h1⟩ => by
    obtain ⟨ds, e, q⟩ := h1.ask
    unfold rng1 at e
    split at e
    · rename_i j
      split at e
      · rename_i hj
        cases e
        obtain ⟨v1, r1, rfl, rfl, rfl⟩ := r
        exact ⟨j, rfl, hj.1, Int.lt_of_le_of_lt hj.2 (by decide), q _ Hf1 H1 (.refl h1.1.top) (yl_range _ _ (by rw [sizeLine_eq]; omega))⟩
      · cases e
    · cases e).to
def enumOf : List D → Option (List D)
  | [.lst ds] => some (enumL ds)
  | _ => none
theorem di_enumL {p tpos : Pos} {elts : List Expr} {k : Nat} (hg : Gl X "enumerate") (hm : X.mg "enumerate" = none) (ha : PA X [a] (tA X.K X.mg fx G ys)) (hs : starEach [a] X.env = [(false, eval a X.env)] := by rfl) :
    PI X (.Tuple elts k tpos) (.Call (.Name "enumerate" p) [a] [] pos) (tI X.K X.mg fx G (do let ds ← ys; ask (enumOf ds))) := piI (pi_enum hg hm ha hs) fun σ H Q ⟨Hf, s, h⟩ =>
  (h.bind.mono fun v H1 ⟨d, Hf1, s1, sb, r, h1⟩ => by
    obtain ⟨ds, e, q⟩ := h1.ask
    unfold enumOf at e
    split at e
    · rename_i es
      cases e
      obtain ⟨v1, r1, rfl, ⟨hz, a, vs, rfl, t, il⟩, rfl⟩ := r
      exact ⟨a, vs, rfl, .inl (.inl (h1.1.top _ _ t)), q _ Hf1 H1 (.refl h1.1.top) (yl_enum hz t il)⟩
    · cases e).to
def un2 : D → Option (D × D)
  | .tup [a, b] => some (a, b)
  | _ => none
def un3 : D → Option (D × D × D)
  | .tup [a, b, c] => some (a, b, c)
  | _ => none
theorem pgd_tup2 (C : Cok X fx kk) (i j : Nat) {n1 n2 : Str} {p1 p2 : Pos} {k : Nat} (hi : X.N[i]? = some n1 := by rfl) (hx : Loc X.env.scope n1 := by first | exact Or.inl rfl | exact Or.inr rfl) (hf : X.fn n1 = true ∨ X.env.scope.names.lookup n1 = some .local := by first | exact .inl rfl | exact .inr rfl)
    (hi2 : X.N[j]? = some n2 := by rfl) (hx2 : Loc X.env.scope n2 := by first | exact Or.inl rfl | exact Or.inr rfl) (hf2 : X.fn n2 = true ∨ X.env.scope.names.lookup n2 = some .local := by first | exact .inl rfl | exact .inr rfl) :
    PGd X fx (.Tuple [.Name n1 p1, .Name n2 p2] k pos) (gTup X.K 2 (gCons (gName i) (gCons (gName j) gNil))) un2 (fun G d => (G.set i (.im d.1)).set j (.im d.2)) [i, j] :=
  ⟨pg_tup C.calm (pgs_cons (pg_name C.nd hi hx hf) (pgs_cons (pg_name C.nd hi2 hx2 hf2) pgs_nil)), fun {G Hf d v σ H s c Q} st r e q => by
    cases d with
    | tup ds =>
      obtain ⟨hz, a, vs, rfl, t, l⟩ := r
      unfold un2 at e
      split at e
      · rename_i d1 d2 eq
        cases eq
        cases e
        obtain ⟨v1, r1, rfl, i1, v2, r2, rfl, i2, rfl⟩ := l
        refine ⟨a, _, rfl, st.top.sqt t, rfl, v1, _, rfl, v2, _, rfl, rfl, q _ (fun k hk => ?_) (by simp) ((st.set i1).set i2)⟩
        rw [List.getElem?_set_ne (fun z => hk (by simp [z])), List.getElem?_set_ne (fun z => hk (by simp [z]))]
      · cases e
    | _ => cases e⟩
theorem pgd_tup3 (C : Cok X fx kk) (i j l : Nat) {n1 n2 n3 : Str} {p1 p2 p3 : Pos} {k : Nat} (hi : X.N[i]? = some n1 := by rfl) (hx : Loc X.env.scope n1 := by first | exact Or.inl rfl | exact Or.inr rfl) (hf : X.fn n1 = true ∨ X.env.scope.names.lookup n1 = some .local := by first | exact .inl rfl | exact .inr rfl)
    (hi2 : X.N[j]? = some n2 := by rfl) (hx2 : Loc X.env.scope n2 := by first | exact Or.inl rfl | exact Or.inr rfl) (hf2 : X.fn n2 = true ∨ X.env.scope.names.lookup n2 = some .local := by first | exact .inl rfl | exact .inr rfl)
    (hi3 : X.N[l]? = some n3 := by rfl) (hx3 : Loc X.env.scope n3 := by first | exact Or.inl rfl | exact Or.inr rfl) (hf3 : X.fn n3 = true ∨ X.env.scope.names.lookup n3 = some .local := by first | exact .inl rfl | exact .inr rfl) :
    PGd X fx (.Tuple [.Name n1 p1, .Name n2 p2, .Name n3 p3] k pos) (gTup X.K 3 (gCons (gName i) (gCons (gName j) (gCons (gName l) gNil)))) un3 (fun G d => ((G.set i (.im d.1)).set j (.im d.2.1)).set l (.im d.2.2)) [i, j, l] :=
  ⟨pg_tup C.calm (pgs_cons (pg_name C.nd hi hx hf) (pgs_cons (pg_name C.nd hi2 hx2 hf2) (pgs_cons (pg_name C.nd hi3 hx3 hf3) pgs_nil))), fun {G Hf d v σ H s c Q} st r e q => by
    cases d with
    | tup ds =>
      obtain ⟨hz, a, vs, rfl, t, l⟩ := r
      unfold un3 at e
      split at e
      · rename_i d1 d2 d3 eq
        cases eq
        cases e
        obtain ⟨v1, r1, rfl, i1, v2, r2, rfl, i2, v3, r3, rfl, i3, rfl⟩ := l
        refine ⟨a, _, rfl, st.top.sqt t, rfl, v1, _, rfl, v2, _, rfl, v3, _, rfl, rfl, q _ (fun k hk => ?_) (by simp) (((st.set i1).set i2).set i3)⟩
        rw [List.getElem?_set_ne (fun z => hk (by simp [z])), List.getElem?_set_ne (fun z => hk (by simp [z])), List.getElem?_set_ne (fun z => hk (by simp [z]))]
      · cases e
    | _ => cases e⟩
end
end DL
namespace DL
open PySem L2
section
variable {m : Type → Type} [Mo m] {γ : Type}
def lcF (u : D → Option γ) (xt : γ → m Bool) (xe : γ → m D) : List D → m (List D)
  | [] => pure []
  | d :: ds => do
    let c ← ask (u d)
    let b ← Mo.noex (xt c)
    if b = true then do
      let y ← Mo.noex (xe c)
      let r ← lcF u xt xe ds
      pure (y :: r)
    else lcF u xt xe ds
end
abbrev Fx.nox (fx : Fx) : Fx := { fx with W := fun _ _ _ _ => False, gx := none }
def wipeG (G : List Sl) : List Nat → List Sl
  | [] => G
  | v :: vs => (wipeG G vs).set v .un
theorem wipe_get {σ : L2.St} {i : Nat} : ∀ {vs : List Nat}, i ∉ vs → (wipe σ vs)[i]? = σ[i]?
  | [], _ => rfl
  | v :: vs, h => by
    unfold wipe
    rw [List.getElem?_set_ne (fun z => h (by simp [z])), wipe_get (fun z => h (List.mem_cons_of_mem _ z))]
theorem wipe_in {σ : L2.St} {i : Nat} : ∀ {vs : List Nat}, i ∈ vs → i < σ.length → (wipe σ vs)[i]? = some none
  | [], h, _ => by cases h
  | v :: vs, h, hl => by
    unfold wipe
    by_cases c : v = i
    · subst c
      rw [List.getElem?_set_self (by rw [wipe_length]; exact hl)]
    · rw [List.getElem?_set_ne c]
      rcases List.mem_cons.mp h with e | h'
      · exact absurd e.symm c
      · exact wipe_in h' hl
theorem wipeG_len {G : List Sl} : ∀ (vs : List Nat), (wipeG G vs).length = G.length
  | [] => rfl
  | v :: vs => by unfold wipeG; rw [List.length_set, wipeG_len vs]
theorem wipeG_get {G : List Sl} {i : Nat} : ∀ {vs : List Nat}, i ∉ vs → (wipeG G vs)[i]? = G[i]?
  | [], _ => rfl
  | v :: vs, h => by
    unfold wipeG
    rw [List.getElem?_set_ne (fun z => h (by simp [z])), wipeG_get (fun z => h (List.mem_cons_of_mem _ z))]
theorem wipeG_in {G : List Sl} {i : Nat} : ∀ {vs : List Nat} {x : Sl}, i ∈ vs → (wipeG G vs)[i]? = some x → x = .un
  | [], _, h, _ => by cases h
  | v :: vs, x, h, e => by
    unfold wipeG at e
    by_cases c : v = i
    · subst c
      have hl : v < (wipeG G vs).length := by
        have := (List.getElem?_eq_some_iff.mp e).1
        simpa using this
      rw [List.getElem?_set_self hl] at e
      cases e
      rfl
    · rw [List.getElem?_set_ne c] at e
      rcases List.mem_cons.mp h with e' | h'
      · exact absurd e'.symm c
      · exact wipeG_in h' e
theorem wipe_eq {σ σ2 : L2.St} {vs : List Nat} (hl : σ2.length = (wipe σ vs).length) (h : ∀ j, j ∉ vs → σ2[j]? = (wipe σ vs)[j]?) : wipe σ2 vs = wipe σ vs := by
  apply List.ext_getElem?
  intro i
  by_cases c : i ∈ vs
  · by_cases hi : i < σ.length
    · rw [wipe_in c hi, wipe_in c (by rw [hl, wipe_length]; exact hi)]
    · rw [List.getElem?_eq_none (by rw [wipe_length, hl, wipe_length]; omega), List.getElem?_eq_none (by rw [wipe_length]; omega)]
  · rw [wipe_get c, h i c]
section
variable {K : PySem.W.Frag} {mg : Str → Option Value} {fx : Fx} {Hf H : Hp} {σ : L2.St} {G : List Sl} {s : S}
theorem StS.wiped (st : StS K mg fx Hf H σ G s) (vs : List Nat) : StS K mg fx.nox Hf H (wipe σ vs) (wipeG G vs) s := by
  have get : ∀ {i : Nat} {x : Sl}, (wipeG G vs)[i]? = some x → x ≠ .un → G[i]? = some x ∧ (wipe σ vs)[i]? = σ[i]? := fun {i x} e n => by
    by_cases c : i ∈ vs
    · exact absurd (wipeG_in c e) n
    · rw [wipeG_get c] at e
      exact ⟨e, wipe_get c⟩
  refine ⟨st.ste, st.bag, st.bagg, by rw [wipe_length, wipeG_len]; exact st.len, fun i x e => ?_, fun i j x y p hij ex ey ox oy e1 e2 => ?_⟩
  · cases x with
    | un => trivial
    | im d =>
      obtain ⟨e', q⟩ := get e (by simp)
      rw [q]; exact st.sl i _ e'
    | bg =>
      obtain ⟨e', q⟩ := get e (by simp)
      rw [q]; exact st.sl i _ e'
    | ow ds =>
      obtain ⟨e', q⟩ := get e (by simp)
      rw [q]; exact st.sl i _ e'
    | od ks ds =>
      obtain ⟨e', q⟩ := get e (by simp)
      rw [q]; exact st.sl i _ e'
    | ob ns ds =>
      obtain ⟨e', q⟩ := get e (by simp)
      rw [q]; exact st.sl i _ e'
  · have nx : x ≠ .un := fun z => by subst z; cases ox
    have ny : y ≠ .un := fun z => by subst z; cases oy
    obtain ⟨ex', q1⟩ := get ex nx
    obtain ⟨ey', q2⟩ := get ey ny
    rw [q1] at e1
    rw [q2] at e2
    exact st.dis i j x y p hij ex' ey' ox oy e1 e2
theorem StS.nox (st : StS K mg fx Hf H σ G s) : StS K mg fx.nox Hf H σ G s := ⟨st.ste, st.bag, st.bagg, st.len, fun i x e => by
  have so := st.sl i x e
  cases x with
  | un => trivial
  | im d => exact so
  | ow ds => exact so
  | od ks ds => exact so
  | ob ns ds => exact so
  | bg => exact so, st.dis⟩
end
section
variable {X : Cx} {fx : Fx} {m : Type → Type} [Mo m] {G : List Sl} {γ : Type} {kk : Nat}
theorem lc_read {xi : m (List D)} {u : D → Option γ} {xt : γ → m Bool} {xe : γ → m D} {g : TG} {st : List Sl → γ → List Sl} {is vs : List Nat} {tg : Expr} {K : PySem.W.Frag} {mg : Str → Option Value}
    (hg : ∀ {G : List Sl} {Hf : Hp} {d : D} {v : V} {σ : L2.St} {H : Hp} {s : S} {c : γ} {Q : L2.St → Hp → Prop}, StS K mg fx.nox Hf H σ G s → Is K mg Hf d v → u d = some c → (∀ σ', (∀ j, j ∉ is → σ'[j]? = σ[j]?) → σ'.length = σ.length → StS K mg fx.nox Hf H σ' (st G c) s → Q σ' H) → g v σ H Q)
    (hsub : ∀ i ∈ is, i ∈ vs) {σ : L2.St} {H : Hp} {Q : VK} (h : tF K mg fx G (do let ds ← xi; lcF u xt xe ds) σ H Q) :
    tLc (tI K mg fx G xi) g (fun σ H Q => ∃ c, tT K mg fx.nox (st (wipeG G vs) c) (xt c) σ H Q) (fun σ H Q => ∃ c, tE K mg fx.nox (st (wipeG G vs) c) (xe c) σ H Q) vs σ H Q := by
  obtain ⟨Hf0, s0, st0, w0⟩ := h
  refine ⟨Hf0, s0, st0, Mo.wp_mono (Mo.wp_bind w0) (fun ds s1 w1 J Hf1 H1 e1 bg1 yl Da hD => ?_) fun e s' k => k⟩
  have st1 := st0.step e1 bg1
  obtain ⟨nH0, nb, nf⟩ := st1.new0 hD
  have hn0 : H Da = none := by
    cases q : H Da with
    | none => rfl
    | some o => exact absurd hD (e1.dom Da (by rw [q]; simp))
  have no := st1.owNe hD
  refine ⟨fun i m H' => m = ds.length - i ∧ i ≤ ds.length ∧ ∃ Hf s acc accV, Sub Hf1 Hf ∧ StS K mg fx Hf H' σ G s ∧ Ste fx.bag Hf0 H Hf H' ∧ H' Da = some (.lst accV) ∧ IsL K mg Hf acc accV ∧ Hf Da = none ∧ acc.length ≤ i ∧
    Mo.wp (lcF u xt xe (ds.drop i)) s (fun r s' => FrQ K mg fx Hf0 H Q (acc ++ r) s') (EX K mg fx G σ), ⟨ds.length, by simp, Nat.zero_le _, Hf1, s1, [], [], .refl _, st1.other nf nH0 nb no, e1.upd hn0 nf, upd_same, .nil, nf, Nat.zero_le _, w1⟩, ?_⟩
  rintro i m H2 ⟨rfl, hi, Hf2, s2, acc, accV, sb2, st2, e2, hD2, l2, nf2, la, w2⟩
  obtain ⟨y1, y2⟩ := yl.2 Hf2 H2 sb2 st2.top i
  by_cases hlt : i < ds.length
  · obtain ⟨go, yd⟩ := y1 ds[i] (List.getElem?_eq_getElem hlt)
    rw [List.drop_eq_getElem_cons hlt] at w2
    have w4 := Mo.wp_lift (Mo.wp_bind w2)
    refine .inr ⟨go, fun H' => i + 1 ≤ ds.length ∧ ∃ Hf s acc accV, Sub Hf1 Hf ∧ StS K mg fx Hf H' σ G s ∧ Ste fx.bag Hf0 H Hf H' ∧ H' Da = some (.lst accV) ∧ IsL K mg Hf acc accV ∧ Hf Da = none ∧ acc.length ≤ i + 1 ∧
      Mo.wp (lcF u xt xe (ds.drop (i + 1))) s (fun r s' => FrQ K mg fx Hf0 H Q (acc ++ r) s') (EX K mg fx G σ), fun H' q => ⟨ds.length - (i + 1), by omega, rfl, q⟩, fun x H3 y => ?_⟩
    obtain ⟨Hf3, e3, is3⟩ := yd x H3 y
    cases q : u ds[i] with
    | none => rw [q] at w4; exact w4.elim
    | some c =>
      rw [q] at w4
      have st3 := st2.step e3.wide (e3.bag st2.bag)
      refine hg (st3.wiped vs) is3 q fun σ2 hs hl st4 => ⟨wipe_eq hl fun j hj => hs j fun z => hj (hsub j z), c, Hf3, s2, st4, ?_⟩
      refine Mo.wp_mono (Mo.wp_noex (Mo.wp_bind w4)) (fun b s5 w5 b' Hf5 H5 e5 bg5 eb => ?_) fun _ _ f => f.elim
      subst eb
      have st5 := st3.step (fx := fx) (Hf' := Hf5) (H' := H5) e5 bg5
      have hD5 : H5 Da = some (.lst accV) := e5.keep _ _ (e3.keep _ _ hD2 (by simp)) nb
      have nf5 : Hf5 Da = none := e5.stayNone (e3.stayNone nf2 (by rw [hD2]; simp)) (by rw [e3.keep _ _ hD2 (by simp)]; simp)
      have e25 : Ste fx.bag Hf2 H2 Hf5 H5 := (e3.wide).trans e5
      cases b' with
      | true =>
        refine ⟨c, Hf5, s5, st4.step e5 bg5, ?_⟩
        have w6 : Mo.wp (Mo.noex (xe c) >>= fun y => lcF u xt xe (ds.drop (i + 1)) >>= fun r => pure (y :: r)) s5 _ _ := w5
        refine Mo.wp_mono (Mo.wp_noex (Mo.wp_bind w6)) (fun y s6 w7 yv Hf6 H6 e6 bg6 is6 => ?_) fun _ _ f => f.elim
        have hD6 : H6 Da = some (.lst accV) := e6.keep _ _ hD5 nb
        have nf6 : Hf6 Da = none := e6.stayNone nf5 (by rw [hD5]; simp)
        have e26 := e25.trans e6
        have st6 := st5.step (fx := fx) (Hf' := Hf6) (H' := H6) e6 bg6
        refine ⟨accV, hD6, ?_, hlt, Hf6, s6, acc ++ [y], accV ++ [yv], sb2.trans e26.sub, st6.other nf6 nH0 nb no, (e2.trans e26).upd hn0 nf6, upd_same, (l2.mono e26.sub).app (.cons is6 .nil), nf6, ?_, ?_⟩
        · rw [← l2.len]
          exact Nat.lt_of_lt_of_le (Nat.lt_of_le_of_lt la hlt) yl.1
        · rw [List.length_append, List.length_singleton]
          omega
        · refine Mo.wp_mono (Mo.wp_bind w7) (fun r s8 w8 => ?_) fun e s' k => k
          have w9 := Mo.wp_pure w8
          rw [List.append_assoc, List.singleton_append]
          exact w9
      | false => exact ⟨hlt, Hf5, s5, acc, accV, sb2.trans e25.sub, st5, e2.trans e25, hD5, l2.mono e25.sub, nf5, Nat.le_succ_of_le la, w5⟩
  · have e : i = ds.length := by omega
    subst e
    refine .inl ⟨y2 (Nat.le_refl _), ?_⟩
    rw [List.drop_length] at w2
    have w3 := Mo.wp_pure w2
    rw [List.append_nil] at w3
    exact w3 Da accV Hf2 H2 e2 st2.bag hD2 nf2 hn0 l2 (Nat.le_trans la yl.1)
end
end DL
namespace DL
open PySem L2
theorem Cok.blk {X : Cx} {fx : Fx} {kk : Nat} (C : Cok X fx kk) (s : Shared) (H : Hp) (scope : Scope) (cenv : Env) (fp : List Addr) : Cok (X.blk s H scope cenv fp) fx.nox kk :=
  ⟨C.calm, fun _ => PassesOwn.never, ⟨fun _ _ ⟨_, _, _, _, _, _, _, _, _, _, _, _, _, _, _, _, w⟩ => w.1.elim, fun _ _ ⟨_, _, _, _, _, _, _, _, _, _, _, _, _, _, _, _, w⟩ => w.elim⟩, C.rm, C.nd, C.gd⟩
theorem pts_true {X : Cx} {fx : Fx} {m : Type → Type} [Mo m] {G : List Sl} : PTs X [] (tT X.K X.mg fx G (pure true : m Bool)) := ⟨fun pins s σ H Q I ⟨Hf, s', h⟩ => pts_nil.run pins s σ H Q I (h.pure rfl)⟩
theorem pts_test {X : Cx} {fx : Fx} {m : Type → Type} [Mo m] {G : List Sl} {c : Expr} {t : m Bool} (h : PT X c (tT X.K X.mg fx G t)) : PTs X [c] (tT X.K X.mg fx G t) := pts_one h
theorem pts_ex {X : Cx} {ι : Type} {ifs : List Expr} {t : ι → TT} (h : ∀ i, PTs X ifs (t i)) : PTs X ifs (fun σ H Q => ∃ i, t i σ H Q) := ⟨fun pins s σ H Q I ⟨i, q⟩ => (h i).run pins s σ H Q I q⟩
theorem pe_ex {X : Cx} {ι : Type} {e : Expr} {t : ι → TE} (h : ∀ i, PE X e (t i)) : PE X e (fun σ H Q => ∃ i, t i σ H Q) := ⟨fun pins s σ H Q I ⟨i, q⟩ => (h i).run pins s σ H Q I q⟩
section
variable {X : Cx} {fx : Fx} {m : Type → Type} [Mo m] {G : List Sl} {γ α β : Type} {kk : Nat} {elt tg iter : Expr} {ifs : List Expr} {scope : Scope} {pos : Pos} {xi : m (List D)} {u : D → Option γ} {xt : γ → m Bool} {xe : γ → m D} {g : TG} {st : List Sl → γ → List Sl} {is : List Nat}
theorem df_lc (own : List (Str × Nat)) (C : Cok X fx kk) (hi : PI X tg iter (tI X.K X.mg fx G xi)) (ok : BlkOk X.N X.env.scope scope own)
    (hg : ∀ (s : Shared) (H : Hp) (A : Addr) (cl : List (Str × Addr)) (fp : List Addr), PGd (X.blk s H scope (compEnvC scope cl A X.env) fp) fx.nox tg g u st is)
    (ht : ∀ (s : Shared) (H : Hp) (A : Addr) (cl : List (Str × Addr)) (fp : List Addr), Cok (X.blk s H scope (compEnvC scope cl A X.env) fp) fx.nox kk → ∀ c, PTs (X.blk s H scope (compEnvC scope cl A X.env) fp) ifs (tT X.K X.mg fx.nox (st (wipeG G (own.map (·.2))) c) (xt c)))
    (he : ∀ (s : Shared) (H : Hp) (A : Addr) (cl : List (Str × Addr)) (fp : List Addr), Cok (X.blk s H scope (compEnvC scope cl A X.env) fp) fx.nox kk → ∀ c, PE (X.blk s H scope (compEnvC scope cl A X.env) fp) elt (tE X.K X.mg fx.nox (st (wipeG G (own.map (·.2))) c) (xe c)))
    (hsub : ∀ i ∈ is, i ∈ own.map (·.2)) (hs : ∀ x, foldedSetIterable iter X.env x = pure x := by intro _; rfl) :
    PE X (.ListComp elt [⟨tg, iter, ifs, 0⟩] scope pos) (tF X.K X.mg fx G (do let ds ← xi; lcF u xt xe ds)) :=
  peI (pe_lc (own := own) C.calm C.nd hi ok (fun s H A cl fp => (hg s H A cl fp).1) (fun s H A cl fp => pts_ex (ht s H A cl fp (C.blk ..))) (fun s H A cl fp => pe_ex (he s H A cl fp (C.blk ..))) hs) fun σ H Q h =>
    lc_read (tg := tg) (fun {G Hf d v σ H s c Q} => (hg {} (fun _ => none) 0 [] []).2) hsub h
theorem dss_asgOw {e : Expr} {rest : List Stmt} {ex : α → List Sl} {exb : β → List Sl} {x : m (List D)} {k : List D → m (Fl α β)} (C : Cok X fx kk) {n : Str} {pos' : Pos} (i : Nat) (he : PE X e (tF X.K X.mg fx G x)) (hr : ∀ ds, PSs X rest (tS X.K X.mg fx (G.set i (.ow ds)) ex exb (k ds))) (hi : X.N[i]? = some n := by rfl) (hx : Loc X.env.scope n := by first | exact Or.inl rfl | exact Or.inr rfl)
    (hs : swapsWith e (some (.Name n pos')) pos.line X.env = pure false := by rfl) (hf : X.fn n = true ∨ X.env.scope.names.lookup n = some .local := by first | exact .inl rfl | exact .inr rfl) (hg : GxOk fx G := by first | exact True.intro | repeat' (first | exact True.intro | exact Or.inl rfl | exact Or.inr rfl | refine And.intro ?_ ?_)) :
    PSs X (.Assign [.Name n pos'] e pos :: rest) (tS X.K X.mg fx G ex exb (do let ds ← x; k ds)) := pssI (pss_cons (ps_set C.nd hi hx he hs hf) (pss_ex hr)) fun D σ H ⟨Hf, s, h⟩ =>
  ⟨Hf, s, h.1, Mo.wp_mono (Mo.wp_bind h.2) (fun ds s1 w p vs Hf1 H1 e bg hp hf1 hn l hz => by
    have st1 := h.1.step e bg
    have n0 : fx.H0 p = none ∧ p ∉ fx.bag := ⟨(h.1.new0 hn).1, (h.1.new0 hn).2.1⟩
    exact ⟨ds, Hf1, s1, st1.setOw (h.1.owNe hn) hp hf1 n0.1 n0.2 l hz, Mo.wp_mono w (fun f s2 h2 => h2.up e.sub) fun e s' k => k⟩) fun e s' k => exs_ex hg k⟩
theorem ps_setLcF (own : List (Str × Nat)) (C : Cok X fx kk) {n : Str} {pos' : Pos} (i : Nat) (hi : PI X tg iter (tI X.K X.mg fx G xi)) (ok : BlkOk X.N X.env.scope scope own)
    (hg : ∀ (s : Shared) (H : Hp) (A : Addr) (cl : List (Str × Addr)) (fp : List Addr), PGd (X.blk s H scope (compEnvC scope cl A X.env) fp) fx.nox tg g u st is)
    (ht : ∀ (s : Shared) (H : Hp) (A : Addr) (cl : List (Str × Addr)) (fp : List Addr), Cok (X.blk s H scope (compEnvC scope cl A X.env) fp) fx.nox kk → ∀ c, PTs (X.blk s H scope (compEnvC scope cl A X.env) fp) ifs (tT X.K X.mg fx.nox (st (wipeG G (own.map (·.2))) c) (xt c)))
    (he : ∀ (s : Shared) (H : Hp) (A : Addr) (cl : List (Str × Addr)) (fp : List Addr), Cok (X.blk s H scope (compEnvC scope cl A X.env) fp) fx.nox kk → ∀ c, PE (X.blk s H scope (compEnvC scope cl A X.env) fp) elt (tE X.K X.mg fx.nox (st (wipeG G (own.map (·.2))) c) (xe c)))
    (hsub : ∀ i ∈ is, i ∈ own.map (·.2)) {spos : Pos} (hn : X.N[i]? = some n := by rfl) (hyl : X.env.scope.names.lookup n = some .local := by rfl)
    (hsw : swapsWith (.ListComp elt [⟨tg, iter, ifs, 0⟩] scope pos) (some (.Name n pos')) spos.line X.env = pure true := by exact sw_true rfl rfl rfl (by decide +kernel)) (hs : ∀ x, foldedSetIterable iter X.env x = pure x := by intro _; rfl) :
    PS X (.Assign [.Name n pos'] (.ListComp elt [⟨tg, iter, ifs, 0⟩] scope pos) spos) (fun D σ H => tF X.K X.mg fx G (do let ds ← xi; lcF u xt xe ds) σ H fun x H1 => D.nx (σ.set i (some x)) H1) :=
  psI (ps_setLc (own := own) C.calm C.nd hn hyl hsw hi ok (fun s H A cl fp => (hg s H A cl fp).1) (fun s H A cl fp => pts_ex (ht s H A cl fp (C.blk ..))) (fun s H A cl fp => pe_ex (he s H A cl fp (C.blk ..))) hs) fun D σ H h =>
    lc_read (tg := tg) (fun {G Hf d v σ H s c Q} => (hg {} (fun _ => none) 0 [] []).2) hsub h
theorem dss_setF {stm : Stmt} {rest : List Stmt} {ex : α → List Sl} {exb : β → List Sl} {x : m (List D)} {k : D → m (Fl α β)} {i : Nat} (h : PS X stm (fun D σ H => tF X.K X.mg fx G x σ H fun v H1 => D.nx (σ.set i (some v)) H1)) (hr : ∀ d, PSs X rest (tS X.K X.mg fx (G.set i (.im d)) ex exb (k d))) (hg : GxOk fx G := by first | exact True.intro | repeat' (first | exact True.intro | exact Or.inl rfl | exact Or.inr rfl | refine And.intro ?_ ?_)) :
    PSs X (stm :: rest) (tS X.K X.mg fx G ex exb (do let d ← mkL x; k d)) := pssI (pss_cons h (pss_ex hr)) fun D σ H ⟨Hf, s, h⟩ =>
  ⟨Hf, s, h.1, Mo.wp_mono (Mo.wp_bind (Mo.wp_bind h.2)) (fun ds s1 w p vs Hf1 H1 e bg hp hf1 hn l hz => by
    have st1 := h.1.step e bg
    have n0 := h.1.new0 hn
    have w' := Mo.wp_pure w
    have st2 := st1.setOw (i := i) (h.1.owNe hn) hp hf1 n0.1 n0.2.1 l hz
    have sb : Sub Hf1 (L2.upd Hf1 p (.lst vs)) := fun a o q => by
      have ne : a ≠ p := fun z => by rw [z, hf1] at q; cases q
      rw [upd_ne ne]; exact q
    have e2 : Ste fx.bag Hf H (L2.upd Hf1 p (.lst vs)) H1 := by
      refine ⟨e.sub.trans sb, fun a o q => ?_, e.keep, e.dom, fun a o q => ?_⟩
      · by_cases c : a = p
        · subst c; rw [upd_same] at q; cases q; exact hp
        · rw [upd_ne c] at q; exact e.top a o q
      · by_cases c : a = p
        · subst c; exact .inr hn
        · rw [upd_ne c] at q; exact e.fresh a o q
    exact ⟨.lst ds, _, s1, (h.1.step e2 bg).set ⟨hz, p, vs, rfl, upd_same, l.mono sb⟩, Mo.wp_mono w' (fun f s2 h2 => h2.up e2.sub) fun e s' k => k⟩) fun e s' k => exs_ex hg k⟩
theorem dss_frz {rest : List Stmt} {ex : α → List Sl} {exb : β → List Sl} {ds : List D} {x : m (Fl α β)} (i : Nat) (hG : G[i]? = some (.ow ds)) (hr : PSs X rest (tS X.K X.mg fx (G.set i (.im (.lst ds))) ex exb x)) : PSs X rest (tS X.K X.mg fx G ex exb x) := pssI hr fun D σ H ⟨Hf, s, h⟩ => by
  obtain ⟨Hf', sb, st⟩ := h.1.freeze hG
  exact ⟨Hf', s, st, Mo.wp_mono h.2 (fun f s2 h2 => h2.up sb) fun e s' k => k⟩
def apd (ds : List D) (d : D) : Option (List D) := if ds.length < sizeLine then some (ds ++ [d]) else none
theorem dss_append {e : Expr} {rest : List Stmt} {ex : α → List Sl} {exb : β → List Sl} {x : m D} {ds : List D} {k : List D → m (Fl α β)} {n : Str} {np apos cpos : Pos} (i : Nat) (he : PE X e (tE X.K X.mg fx G x)) (hr : ∀ ds, PSs X rest (tS X.K X.mg fx (G.set i (.ow ds)) ex exb (k ds)))
    (hG : G[i]? = some (.ow ds) := by rfl) (hN : X.N[i]? = some n := by rfl) (hv : Vis X.env.scope n := by first | exact Or.inl rfl | exact Or.inr (Or.inl rfl) | exact Or.inr (Or.inr rfl)) (hd : (n == ("__debug__" : Str)) = false := by decide) (hcd : (n == ("__classdict__" : Str)) = false := by decide)
    (hst : starEach [e] X.env = [(false, eval e X.env)] := by rfl) (hbase : attributeBase (.Name n np) "append" X.env (eval (.Name n np) X.env) = eval (.Name n np) X.env := by rfl)
    (hfew : ((backTo cpos (starEach [e] X.env)).all (fun x => !x.1) && (backToKw cpos (keywordEach [] X.env)).all (fun x => x.1.isSome) && decide ([e].length + ([] : List Keyword).length + (if ([] : List Keyword).isEmpty then 0 else 1) < 30)) = true := by rfl)
    (hline : (apos.endLine == cpos.line) = true := by rfl) (hplain : (backTo cpos (starEach [] X.env)).any (·.1) = false := by rfl)
    (hs : swapsWith (.Call (.Attribute (.Name n np) "append" apos) [e] [] cpos) none pos.line X.env = pure false := by rfl) (hg : GxOk fx G := by first | exact True.intro | repeat' (first | exact True.intro | exact Or.inl rfl | exact Or.inr rfl | refine And.intro ?_ ?_)) :
    PSs X (.Expr (.Call (.Attribute (.Name n np) "append" apos) [e] [] cpos) pos :: rest) (tS X.K X.mg fx G ex exb (do let d ← x; let ds ← ask (apd ds d); k ds)) :=
  pssI (pss_cons (ps_expr (pe_bm PySem.F.plainAttrs_list PySem.F.slot_list_append PySem.F.type_list_append mt_append (pe_var hN hv hd hcd) (pa_cons he pa_nil hst) hbase hfew hline hst hplain) hs) (pss_ex hr)) fun D σ H ⟨Hf, s, h⟩ => by
    obtain ⟨p, vs, ep, hp, hf, h0, nb, l, hz⟩ := h.1.sl i _ hG
    refine ⟨.ref p, ep, .inl ⟨rfl, _, .inl (.inl hp)⟩, ?_⟩
    refine ((h.bind hg).mono fun v H1 ⟨d, Hf1, s1, sb, r, h1⟩ => ?_).to
    obtain ⟨p1, vs1, ep1, hp1, hf1, _, _, l1, hz1⟩ := h1.1.sl i _ hG
    have eq : p1 = p := by rw [ep] at ep1; cases ep1; rfl
    subst eq
    have k' := Mo.wp_lift (Mo.wp_bind h1.2)
    by_cases c : ds.length < sizeLine
    · have e1 : apd ds d = some (ds ++ [d]) := if_pos c
      rw [e1] at k'
      refine ⟨p1, vs1, v, rfl, rfl, hp1, by rw [← l1.len]; exact c, ds ++ [d], Hf1, s1, h1.1.updOw hG ep (l1.app (.cons r .nil)) (by rw [List.length_append, List.length_singleton]; exact c), k'⟩
    · have e1 : apd ds d = none := if_neg c
      rw [e1] at k'
      exact k'.elim
end
end DL
namespace DL
open PySem L2
theorem IsL.atI {K : PySem.W.Frag} {mg : Str → Option Value} {H : Hp} {ds : List D} {vs : List V} {i : Int} {d : D} (l : IsL K mg H ds vs) (e : L2.atI ds i = some d) : ∃ v, L2.atI vs i = some v ∧ Is K mg H d v := by
  unfold L2.atI at e ⊢
  rw [← l.len]
  cases q : ixN ds.length i with
  | none => rw [q] at e; cases e
  | some j =>
    rw [q] at e
    exact l.get e
def ixD : D → D → Option D
  | .lst ds, .int i => L2.atI ds i
  | .tup ds, .int i => L2.atI ds i
  | .str s, .int i => (L2.atI s i).map fun c => .str [c]
  | .scr is, .int i => (L2.atI is i).map .int
  | _, _ => none
def cutL {α : Type} (xs : List α) (lo hi : Option Int) : List α := (xs.drop (HT.sIx xs.length 0 lo)).take (HT.sIx xs.length xs.length hi - HT.sIx xs.length 0 lo)
theorem cutL_len {α : Type} (xs : List α) (lo hi : Option Int) : (cutL xs lo hi).length ≤ xs.length := by
  unfold cutL
  rw [List.length_take, List.length_drop]
  omega
def sliceD : D → Option Int → Option Int → Option D
  | .lst ds, lo, hi => some (.lst (cutL ds lo hi))
  | .tup ds, lo, hi => some (.tup (cutL ds lo hi))
  | .str s, lo, hi => some (.str (cutL s lo hi))
  | .scr is, lo, hi => some (.lst ((cutL is lo hi).map .int))
  | _, _, _ => none
section
variable {X : Cx}
theorem oix : IxR X (rD2 X.K X.mg ixD) := by
  intro value slice pins s σ H x y v u Q I rx ry h hs
  obtain ⟨Hf, dx, dy, d, sb, ix, iy, e, q⟩ := h
  unfold ixD at e
  split at e
  · obtain ⟨z1, p1, v1, rfl, h1, l1⟩ := ix
    cases iy
    obtain ⟨w, hw, iw⟩ := l1.atI e
    exact ix_list value slice pins s σ H _ _ v u Q I rx ry ⟨_, _, _, _, rfl, rfl, .inl (.inl (sb _ _ h1)), hw, q _ Hf H (.refl sb) iw⟩ hs
  · obtain ⟨z1, p1, v1, rfl, h1, l1⟩ := ix
    cases iy
    obtain ⟨w, hw, iw⟩ := l1.atI e
    exact ix_tup value slice pins s σ H _ _ v u Q I rx ry ⟨_, _, _, _, rfl, rfl, sb.sqt h1, hw, q _ Hf H (.refl sb) iw⟩ hs
  · rename_i z i
    obtain ⟨rfl, hz⟩ := ix
    cases iy
    cases e1 : L2.atI z i with
    | none => rw [e1] at e; cases e
    | some c =>
      rw [e1] at e
      cases e
      exact ix_str value slice pins s σ H _ _ v u Q I rx ry ⟨_, _, c, rfl, rfl, by rw [str_len]; exact hz, by rw [str_tl]; exact e1, q _ Hf H (.refl sb) ⟨rfl, by show 1 ≤ sizeLine; decide⟩⟩ hs
  · rename_i z i
    obtain ⟨z1, p1, rfl, h1⟩ := ix
    cases iy
    cases e1 : L2.atI z i with
    | none => rw [e1] at e; cases e
    | some c =>
      rw [e1] at e
      cases e
      refine ix_list value slice pins s σ H _ _ v u Q I rx ry ⟨_, _, _, _, rfl, rfl, sb.sql h1.sq, ?_, q _ Hf H (.refl sb) (is_int _)⟩ hs
      unfold L2.atI at e1 ⊢
      rw [List.length_map]
      cases q2 : ixN z.length i with
      | none => rw [q2] at e1; cases e1
      | some j =>
        rw [q2] at e1
        have e1' : z[j]? = some c := e1
        show (z.map V.int)[j]? = _
        rw [List.getElem?_map, e1']
        rfl
  · cases e
theorem isL_ints {K : PySem.W.Frag} {mg : Str → Option Value} {H : Hp} : ∀ z : List Int, IsL K mg H (z.map .int) (z.map V.int)
  | [] => rfl
  | c :: z => ⟨_, _, rfl, is_int _, isL_ints z⟩
theorem osl : SlR X (fun x lo hi H Q => ∃ Hf dx d, Sub Hf H ∧ Is X.K X.mg Hf dx x ∧ sliceD dx lo hi = some d ∧ ∀ u Hf' H', Ste [] Hf H Hf' H' → Is X.K X.mg Hf' d u → Q u H') := by
  intro pins s σ H x v vl vu lo hi sl Q I rx hs pl pu h
  obtain ⟨Hf, dx, d, sb, ix, e, q⟩ := h
  unfold sliceD at e
  split at e
  · cases e
    obtain ⟨z1, p1, v1, rfl, h1, l1⟩ := ix
    refine sl_list pins s σ H _ v vl vu lo hi sl Q I rx hs pl pu ⟨_, _, rfl, .inl (.inl (sb _ _ h1)), fun p hp => q _ _ _ (.new sb hp) ?_⟩
    refine ⟨Nat.le_trans (cutL_len _ _ _) z1, p, _, rfl, upd_same, ?_⟩
    have l2 := l1.mono (Ste.new (bag := []) (o := .lst (cutV v1 lo hi)) sb hp).sub
    unfold cutL cutV
    rw [l1.len]
    exact (l2.drop _).take _
  · cases e
    obtain ⟨z1, p1, v1, rfl, h1, l1⟩ := ix
    refine sl_tupA pins s σ H _ v vl vu lo hi sl Q I rx hs pl pu ⟨_, _, rfl, sb.sqt h1, fun z => ?_, fun z p hp => q _ _ _ (.new sb hp) ?_⟩
    · refine q _ _ _ (.refl sb) ⟨Nat.le_trans (cutL_len _ _ _) z1, p1, v1, rfl, h1, ?_⟩
      unfold cutL
      rw [l1.len, z.1, z.2, List.drop_zero, Nat.sub_zero, ← l1.len, List.take_length]
      exact l1
    · refine ⟨Nat.le_trans (cutL_len _ _ _) z1, p, _, rfl, .inl (.inl upd_same), ?_⟩
      have l2 := l1.mono (Ste.new (bag := []) (o := .tup (cutV v1 lo hi)) sb hp).sub
      unfold cutL cutV
      rw [l1.len]
      exact (l2.drop _).take _
  · cases e
    obtain ⟨rfl, hz⟩ := ix
    refine sl_str pins s σ H _ v vl vu lo hi sl Q I rx hs pl pu ⟨_, rfl, by rw [str_len]; exact hz, q _ Hf H (.refl sb) ?_⟩
    refine ⟨?_, Nat.le_trans (cutL_len _ _ _) hz⟩
    unfold cutS cutL
    rw [str_tl, str_len]
  · cases e
    obtain ⟨z1, p1, rfl, h1⟩ := ix
    refine sl_list pins s σ H _ v vl vu lo hi sl Q I rx hs pl pu ⟨_, _, rfl, sb.sql h1.sq, fun p hp => q _ _ _ (.new sb hp) ?_⟩
    refine ⟨by rw [List.length_map]; exact Nat.le_trans (cutL_len _ _ _) z1, p, _, rfl, upd_same, ?_⟩
    have e2 : ∀ (z : List Int) (lo hi : Option Int), cutV (z.map V.int) lo hi = (cutL z lo hi).map V.int := fun z lo hi => by
      unfold cutL cutV
      rw [List.length_map, List.map_take, List.map_drop]
    rw [e2]
    exact isL_ints _
  · cases e
end
section
variable {X : Cx} {fx : Fx} {m : Type → Type} [Mo m] {G : List Sl} {a b e : Expr} {lo hi : Option Expr} {pos p2 : Pos} {x y : m D} {tl th : m (Option Int)}
theorem de_ix (ha : PE X a (tE X.K X.mg fx G x)) (hb : PE X b (tE X.K X.mg fx G y)) (hs : PlainIx b := by exact fun _ _ => rfl) : PE X (.Subscript a b pos) (tE X.K X.mg fx G (do let u ← x; let v ← y; ask (ixD u v))) := peI (pe_ix oix ha hb hs) fun σ H Q ⟨Hf, s, h⟩ =>
  (h.bind.mono fun v1 H1 ⟨d1, Hf1, s1, sb1, r1, h1⟩ => (h1.bind.mono fun v2 H2 ⟨d2, Hf2, s2, sb2, r2, h2⟩ => by
    obtain ⟨d, e, q⟩ := h2.ask
    exact ⟨Hf2, d1, d2, d, h2.1.top, r1.mono sb2, r2, e, q⟩).to).to
theorem poI {o : Option Expr} {t t' : TO} (h : PO X o t) (w : ∀ σ H Q, t' σ H Q → t σ H Q) : PO X o t' := ⟨fun pins s σ H Q I q => h.run pins s σ H Q I (w _ _ _ q)⟩
abbrev tOp' (K : PySem.W.Frag) (mg : Str → Option Value) (fx : Fx) (G : List Sl) (x : m (Option Int)) : TO := tG K mg fx G (fun _ a b => b = a) x
theorem do_none : PO X none (tOp' X.K X.mg fx G (pure none : m (Option Int))) := poI po_none fun σ H Q ⟨Hf, s, h⟩ => h.pure rfl
theorem do_some (he : PE X e (tE X.K X.mg fx G x)) : PO X (some e) (tOp' X.K X.mg fx G (do let d ← x; let i ← ask (intOf d); pure (some i))) := poI (po_some he) fun σ H Q ⟨Hf, s, h⟩ =>
  (h.bind.mono fun v1 H1 ⟨d1, Hf1, s1, sb1, r1, h1⟩ => by
    have k := Mo.wp_lift (Mo.wp_bind h1.2)
    cases d1 with
    | int i => exact ⟨i, r1, (Mo.wp_pure k) _ Hf1 H1 (.refl h1.1.top) h1.1.bag rfl⟩
    | _ => exact k.elim).to
theorem de_sl (he : PE X e (tE X.K X.mg fx G x)) (hl : PO X lo (tOp' X.K X.mg fx G tl)) (hu : PO X hi (tOp' X.K X.mg fx G th)) : PE X (.Subscript e (.Slice lo hi none p2) pos) (tE X.K X.mg fx G (do let d ← x; let l ← tl; let u ← th; ask (sliceD d l u))) :=
  peI (pe_slice osl he hl hu) fun σ H Q ⟨Hf, s, h⟩ =>
  (h.bind.mono fun v1 H1 ⟨d1, Hf1, s1, sb1, r1, h1⟩ => (h1.bind.mono fun v2 H2 ⟨d2, Hf2, s2, sb2, r2, h2⟩ => (h2.bind.mono fun v3 H3 ⟨d3, Hf3, s3, sb3, r3, h3⟩ => by
    subst r2 r3
    obtain ⟨d, e, q⟩ := h3.ask
    exact ⟨Hf3, d1, d, h3.1.top, (r1.mono sb2).mono sb3, e, q⟩).to).to).to
end
def lenD : List D → Option D
  | [.lst ds] => some (.int ds.length)
  | [.tup ds] => some (.int ds.length)
  | [.str s] => some (.int s.length)
  | [.scr s] => some (.int s.length)
  | _ => none
def listD : List D → Option (List D)
  | [.lst ds] => some ds
  | [.tup ds] => some ds
  | [.str s] => some (chrs s)
  | _ => none
def tupleD : List D → Option D
  | [.lst ds] => some (.tup ds)
  | [.tup ds] => some (.tup ds)
  | _ => none
def intD : List D → Option D
  | [.int i] => some (.int i)
  | [.bl b] => some (.int (if b then 1 else 0))
  | _ => none
def absD : List D → Option D
  | [.int i] => some (.int (if i < 0 then -i else i))
  | _ => none
def maxD : List D → Option D
  | [.int i, .int j] => some (.int (if j > i then j else i))
  | _ => none
def minD : List D → Option D
  | [.int i, .int j] => some (.int (if j < i then j else i))
  | _ => none
section
variable {X : Cx}
theorem oc_len : CallR X (.builtin "len") (rDs X.K X.mg lenD) := by
  intro pins s σ H xs us Q I r h
  obtain ⟨Hf, ds, d, sb, l, e, q⟩ := h
  unfold lenD at e
  split at e
  · cases e
    obtain ⟨v, r1, rfl, ⟨z1, p1, v1, rfl, h1, l1⟩, rfl⟩ := l
    exact call_len_seq pins s σ H _ us Q I r ⟨_, _, rfl, .inl (.inl (.inl (sb _ _ h1))), by rw [← l1.len]; exact q _ Hf H (.refl sb) (is_int _)⟩
  · cases e
    obtain ⟨v, r1, rfl, ⟨z1, p1, v1, rfl, h1, l1⟩, rfl⟩ := l
    exact call_len_seq pins s σ H _ us Q I r ⟨_, _, rfl, .inr (sb.sqt h1), by rw [← l1.len]; exact q _ Hf H (.refl sb) (is_int _)⟩
  · cases e
    obtain ⟨v, r1, rfl, ⟨rfl, hz⟩, rfl⟩ := l
    exact call_len_str pins s σ H _ us Q I r ⟨_, rfl, by rw [str_len]; exact hz, by rw [str_len]; exact q _ Hf H (.refl sb) (is_int _)⟩
  · cases e
    obtain ⟨v, r1, rfl, ⟨z1, p1, rfl, h1⟩, rfl⟩ := l
    exact call_len_seq pins s σ H _ us Q I r ⟨_, _, rfl, .inl (sb.sql h1.sq), by rw [List.length_map]; exact q _ Hf H (.refl sb) (is_int _)⟩
  · cases e
theorem oc_tuple : CallR X (.type "tuple") (rDs X.K X.mg tupleD) := by
  intro pins s σ H xs us Q I r h
  obtain ⟨Hf, ds, d, sb, l, e, q⟩ := h
  unfold tupleD at e
  split at e
  · cases e
    obtain ⟨v, r1, rfl, ⟨z1, p1, v1, rfl, h1, l1⟩, rfl⟩ := l
    refine call_tuple_of pins s σ H _ us Q I r ⟨_, _, rfl, .inl ⟨.inl (.inl (sb _ _ h1)), fun p hp => q _ _ _ (.new sb hp) ?_⟩⟩
    exact ⟨z1, p, _, rfl, .inl (.inl upd_same), l1.mono (Ste.new (bag := []) sb hp).sub⟩
  · cases e
    obtain ⟨v, r1, rfl, ⟨z1, p1, v1, rfl, h1, l1⟩, rfl⟩ := l
    exact call_tuple_of pins s σ H _ us Q I r ⟨_, _, rfl, .inr ⟨sb.sqt h1, q _ _ _ (.refl sb) ⟨z1, p1, v1, rfl, h1, l1⟩⟩⟩
  · cases e
theorem oc_int : CallR X (.type "int") (rDs X.K X.mg intD) := by
  intro pins s σ H xs us Q I r h
  obtain ⟨Hf, ds, d, sb, l, e, q⟩ := h
  unfold intD at e
  split at e
  · cases e
    obtain ⟨v, r1, rfl, rfl, rfl⟩ := l
    exact call_int1 pins s σ H _ us Q I r (.inl ⟨_, rfl, q _ Hf H (.refl sb) (is_int _)⟩)
  · cases e
    obtain ⟨v, r1, rfl, rfl, rfl⟩ := l
    exact call_int1 pins s σ H _ us Q I r (.inr ⟨_, rfl, q _ Hf H (.refl sb) (is_int _)⟩)
  · cases e
theorem oc_abs : CallR X (.builtin "abs") (rDs X.K X.mg absD) := by
  intro pins s σ H xs us Q I r h
  obtain ⟨Hf, ds, d, sb, l, e, q⟩ := h
  unfold absD at e
  split at e
  · cases e
    obtain ⟨v, r1, rfl, rfl, rfl⟩ := l
    exact call_abs pins s σ H _ us Q I r ⟨_, rfl, q _ Hf H (.refl sb) (is_int _)⟩
  · cases e
theorem oc_max (hc : X.calm = true) : CallR X (.builtin "max") (rDs X.K X.mg maxD) := by
  intro pins s σ H xs us Q I r h
  obtain ⟨Hf, ds, d, sb, l, e, q⟩ := h
  unfold maxD at e
  split at e
  · cases e
    obtain ⟨v, r1, rfl, rfl, v2, r2, rfl, rfl, rfl⟩ := l
    exact call_max2 hc pins s σ H _ us Q I r ⟨_, _, rfl, q _ Hf H (.refl sb) (is_int _)⟩
  · cases e
theorem oc_min (hc : X.calm = true) : CallR X (.builtin "min") (rDs X.K X.mg minD) := by
  intro pins s σ H xs us Q I r h
  obtain ⟨Hf, ds, d, sb, l, e, q⟩ := h
  unfold minD at e
  split at e
  · cases e
    obtain ⟨v, r1, rfl, rfl, v2, r2, rfl, rfl, rfl⟩ := l
    exact call_min2 hc pins s σ H _ us Q I r ⟨_, _, rfl, q _ Hf H (.refl sb) (is_int _)⟩
  · cases e
theorem call_list_chrs (hc : X.calm = true) : CallR X (.type "list") (fun xs H Q => ∃ z : List Nat, xs = [.str ⟨z.toArray⟩] ∧ z.length ≤ sizeLine ∧ ∀ q, H q = none → Q (.ref q) (upd H q (.lst (z.map fun c => .str ⟨#[c]⟩)))) := by
  intro pins s σ H xs us Q I r h
  obtain ⟨z, rfl, hz, q⟩ := h
  obtain ⟨u, rfl, rx⟩ := vals1 r
  obtain ⟨t, rfl⟩ := rx
  have hz' : (⟨z.toArray⟩ : Str).cps.size ≤ sizeLine := by
    show z.toArray.size ≤ sizeLine
    simpa using hz
  refine PySem.call_list_str (hn := hz') (I.ok.hd hc) _ t fun h' tk acc' c' hk hS hacc => ?_
  refine ⟨.ref s.heap.objs.size, upd H s.heap.objs.size (.lst (z.map fun c => .str ⟨#[c]⟩)), I.laid hk (Nat.le_refl _) (show ObjOk X.prog X.w _ _ _ (.lst (z.map fun c => .str ⟨#[c]⟩)) from ⟨by simpa using hz, acc'.toList, c', ?_, by rw [Array.toArray_toList]; exact hS⟩), rfl, q _ (I.hok.fresh (Nat.le_refl _))⟩
  have el : acc'.toList.length = z.length := by
    have := hacc.1
    simpa using this
  refine vals_of_at (by rw [List.length_map, el]) fun j x w h1 h2 => ?_
  obtain ⟨c, u, hc', ew⟩ := hacc.2 j w (by rw [← Array.getElem?_toList]; exact h2)
  subst ew
  have hc2 : z[j]? = some c := by
    have : z.toArray[j]? = some c := hc'
    rwa [List.getElem?_toArray] at this
  rw [List.getElem?_map, hc2] at h1
  cases h1
  exact ⟨u, rfl⟩
def rDl (K : PySem.W.Frag) (mg : Str → Option Value) (g : List D → Option (List D)) : List V → Hp → VK → Prop := fun xs H Q => ∃ Hf ds es, Sub Hf H ∧ IsL K mg Hf ds xs ∧ g ds = some es ∧ es.length ≤ sizeLine ∧ ∀ p Hf' H' vs, Ste [] Hf H Hf' H' → H p = none → Hf' p = none → H' p = some (.lst vs) → IsL K mg Hf' es vs → Q (.ref p) H'
theorem isL_chrs {K : PySem.W.Frag} {mg : Str → Option Value} {H : Hp} : ∀ z : List Nat, IsL K mg H (chrs z) (z.map fun c => .str ⟨#[c]⟩)
  | [] => rfl
  | c :: z => ⟨_, _, rfl, ⟨rfl, by show 1 ≤ sizeLine; decide⟩, isL_chrs z⟩
theorem oc_list (hc : X.calm = true) : CallR X (.type "list") (rDl X.K X.mg listD) := by
  intro pins s σ H xs us Q I r h
  obtain ⟨Hf, ds, d, sb, l, e, hz, q⟩ := h
  unfold listD at e
  split at e
  · cases e
    obtain ⟨v, r1, rfl, ⟨z1, p1, v1, rfl, h1, l1⟩, rfl⟩ := l
    exact call_list_of pins s σ H _ us Q I r ⟨_, _, rfl, .inl (.inl (.inl (sb _ _ h1))), fun p hp => q p Hf _ _ (.new' sb hp) hp (sb.none hp) upd_same l1⟩
  · cases e
    obtain ⟨v, r1, rfl, ⟨z1, p1, v1, rfl, h1, l1⟩, rfl⟩ := l
    exact call_list_of pins s σ H _ us Q I r ⟨_, _, rfl, .inr (sb.sqt h1), fun p hp => q p Hf _ _ (.new' sb hp) hp (sb.none hp) upd_same l1⟩
  · cases e
    obtain ⟨v, r1, rfl, ⟨rfl, hz⟩, rfl⟩ := l
    exact call_list_chrs hc pins s σ H _ us Q I r ⟨_, rfl, hz, fun p hp => q p Hf _ _ (.new' sb hp) hp (sb.none hp) upd_same (isL_chrs _)⟩
  · cases e
end
section
variable {X : Cx} {fx : Fx} {m : Type → Type} [Mo m] {G : List Sl} {e : Expr} {es : List Expr} {pos p : Pos} {ys : m (List D)}
theorem df_callTy {g : List D → Option (List D)} {T : String} {n : Str} (hc : CallR X (.type T) (rDl X.K X.mg g)) (hg : Gl X n) (hm : X.mg n = none) (hv : bootBuiltins n = some (.type T)) (ha : PA X (e :: es) (tA X.K X.mg fx G ys))
    (hn : n ≠ "__name__" := by decide) (hdb : (n == ("__debug__" : Str)) = false := by decide) (he : starEach (e :: es) X.env = (false, eval e X.env) :: starEach es X.env := by rfl) (hpl : (backTo pos (starEach es X.env)).any (·.1) = false := by rfl) :
    PE X (.Call (.Name n p) (e :: es) [] pos) (tF X.K X.mg fx G (do let ds ← ys; let ds ← ask (g ds); ask (szL ds))) := peI (pe_callTy hc hg hm hv ha hn hdb he hpl) fun σ H Q ⟨Hf, s, st, w⟩ =>
  ⟨Hf, s, st, Mo.wp_mono (Mo.wp_bind w) (fun ds s1 k vs Hf1 H1 e bg l => by
    have k' := Mo.wp_lift (Mo.wp_bind k)
    cases e1 : g ds with
    | none => rw [e1] at k'; exact k'.elim
    | some es =>
      rw [e1] at k'
      have k2 := Mo.wp_lift k'
      by_cases hz : es.length ≤ sizeLine
      · have e2 : szL es = some es := if_pos hz
        rw [e2] at k2
        exact ⟨Hf1, ds, es, (st.step e bg).top, l, e1, hz, fun p Hf' H' vs e3 hp hf' hp' l' => by
          have hn : H p = none := by
            cases q : H p with
            | none => rfl
            | some o => exact absurd hp (e.dom p (by rw [q]; simp))
          exact k2 p vs Hf' H' (e.trans e3.wide) (e3.bag bg) hp' hf' hn l' hz⟩
      · have e2 : szL es = none := if_neg hz
        rw [e2] at k2
        exact k2.elim) fun e s' k => k⟩
end
def joinN (S : List Nat) : List (List Nat) → List Nat
  | [] => []
  | [p] => p
  | p :: q :: r => p ++ (S ++ joinN S (q :: r))
def strsOf : List D → Option (List (List Nat))
  | [] => some []
  | .str s :: r => (strsOf r).map (s :: ·)
  | _ :: _ => none
def joinD (a b : D) : Option D := match a, sqOf b with
  | .str S, some ds => match strsOf ds with
    | some ps => if (ps.map (·.length)).sum + ps.length * S.length ≤ 16777216 then some (.str (joinN S ps)) else none
    | none => none
  | _, _ => none
theorem joinN_eq (S : List Nat) : ∀ ps, joinN S ps = TL.joinL S ps
  | [] => rfl
  | [_] => rfl
  | p :: q :: r => by rw [joinN, TL.joinL, joinN_eq S (q :: r)]
theorem joinN_len (S : List Nat) : ∀ ps : List (List Nat), (joinN S ps).length ≤ (ps.map (·.length)).sum + ps.length * S.length
  | [] => by simp [joinN]
  | [p] => by simp [joinN]
  | p :: q :: r => by
    have := joinN_len S (q :: r)
    rw [joinN, List.length_append, List.length_append, List.map_cons, List.sum_cons, List.length_cons, Nat.add_mul]
    omega
theorem isL_strs {K : PySem.W.Frag} {mg : Str → Option Value} {H : Hp} : ∀ {ds : List D} {vs : List V} {ps : List (List Nat)}, IsL K mg H ds vs → strsOf ds = some ps → vs = ps.map fun p => .str ⟨p.toArray⟩
  | [], _, _, h, e => by cases h; cases e; rfl
  | .str s :: ds, _, _, h, e => by
    obtain ⟨v, r, rfl, ⟨rfl, _⟩, l⟩ := h
    unfold strsOf at e
    cases q : strsOf ds with
    | none => rw [q] at e; cases e
    | some ps => rw [q] at e; cases e; rw [isL_strs l q]; rfl
  | .non :: _, _, _, _, e => by cases e
  | .bl _ :: _, _, _, _, e => by cases e
  | .int _ :: _, _, _, _, e => by cases e
  | .tup _ :: _, _, _, _, e => by cases e
  | .lst _ :: _, _, _, _, e => by cases e
  | .dic _ _ :: _, _, _, _, e => by cases e
  | .ins _ _ _ :: _, _, _, _, e => by cases e
  | .scr _ :: _, _, _, _, e => by cases e
  | .xc _ _ _ _ :: _, _, _, _, e => by cases e
section
variable {X : Cx} {fx : Fx} {m : Type → Type} [Mo m] {G : List Sl} {o e : Expr} {apos pos : Pos} {x y : m D}
theorem de_join (ho : PE X o (tE X.K X.mg fx G x)) (he : PE X e (tE X.K X.mg fx G y)) (hs : starEach [e] X.env = [(false, eval e X.env)] := by rfl) (hbase : attributeBase o "join" X.env (eval o X.env) = eval o X.env := by rfl) (hline : (apos.endLine == pos.line) = true := by rfl) :
    PE X (.Call (.Attribute o "join" apos) [e] [] pos) (tE X.K X.mg fx G (do let u ← x; let _ ← ask (strOf u); let v ← y; ask (joinD u v))) := peI (pe_join ho he hs hbase hline) fun σ H Q ⟨Hf, s, h⟩ =>
  (h.bind.mono fun v1 H1 ⟨d1, Hf1, s1, sb1, r1, h1⟩ => by
    have k := Mo.wp_lift (Mo.wp_bind h1.2)
    cases d1 with
    | str S =>
      obtain ⟨rfl, hz1⟩ := r1
      refine ⟨⟨_, rfl⟩, ?_⟩
      have h2 : tX X.K X.mg fx G (fun H d v => Is X.K X.mg H d v) (do let v ← y; ask (joinD (.str S) v) : m D) Hf1 s1 σ H1 Q := ⟨h1.1, k⟩
      refine (h2.bind.mono fun v2 H2 ⟨d2, Hf2, s2, sb2, r2, h3⟩ => ?_).to
      obtain ⟨d, e, q⟩ := h3.ask
      unfold joinD at e
      cases e2 : sqOf d2 with
      | none => rw [e2] at e; cases e
      | some ds =>
        rw [e2] at e
        cases e3 : strsOf ds with
        | none => simp only [e3] at e; cases e
        | some ps =>
          simp only [e3] at e
          split at e
          · rename_i hz
            cases e
            have fin : Q (.str (Txt.join ⟨S.toArray⟩ (ps.map fun p => (⟨p.toArray⟩ : Str)))) H2 := by
              refine q _ Hf2 H2 (.refl h3.1.top) ⟨?_, Nat.le_trans (joinN_len S ps) (by rw [sizeLine_eq]; exact hz)⟩
              rw [TL.join_eq]
              congr 1
              have e4 := TL.tl_join ⟨S.toArray⟩ (ps.map fun p => (⟨p.toArray⟩ : Str))
              refine TL.ext_tl ?_
              refine (e4.trans ?_).trans (str_tl (joinN S ps)).symm
              rw [joinN_eq, List.map_map]
              have e5 : (ps.map (TL.tl ∘ fun p => (⟨p.toArray⟩ : Str))) = ps := by
                conv => rhs; rw [← List.map_id ps]
                exact List.map_congr_left fun p _ => str_tl p
              rw [e5]
            have hz' : ((ps.map fun p => (⟨p.toArray⟩ : Str)).map (·.length)).sum + (ps.map fun p => (⟨p.toArray⟩ : Str)).length * (⟨S.toArray⟩ : Str).length ≤ 16777216 := by
              rw [List.map_map, List.length_map, str_len]
              have e5 : (ps.map ((fun x : Str => x.length) ∘ fun p => (⟨p.toArray⟩ : Str))) = ps.map (·.length) := List.map_congr_left fun p _ => str_len p
              rw [e5]
              exact hz
            have em : (ps.map fun p => V.str ⟨p.toArray⟩) = (ps.map fun p => (⟨p.toArray⟩ : Str)).map V.str := by rw [List.map_map]; rfl
            cases d2 with
            | lst es =>
              cases e2
              obtain ⟨z1, p1, w1, rfl, t1, l1⟩ := r2
              have ew := isL_strs l1 e3
              subst ew
              exact ⟨_, p1, _, rfl, rfl, .inl (.inl (.inl (by rw [← em]; exact h3.1.top _ _ t1))), hz', fin⟩
            | tup es =>
              cases e2
              obtain ⟨z1, p1, w1, rfl, t1, l1⟩ := r2
              have ew := isL_strs l1 e3
              subst ew
              exact ⟨_, p1, _, rfl, rfl, .inr (by rw [← em]; exact h3.1.top.sqt t1), hz', fin⟩
            | _ => cases e2
          · cases e
    | _ => exact k.elim).to
end
end DL
namespace DL
open PySem L2
theorem foldl_app (x : Array Nat) : ∀ (n : Nat) (acc : Array Nat), (List.replicate n x).foldl (· ++ ·) acc = acc ++ (List.replicate n x.toList).flatten.toArray
  | 0, acc => by simp
  | n + 1, acc => by
    rw [List.replicate_succ, List.foldl_cons, foldl_app x n, List.replicate_succ, List.flatten_cons]
    apply Array.ext'
    simp
theorem mulS_eq (a : List Nat) (k : Int) (h0 : 0 ≤ k) : Txt.mul ⟨a.toArray⟩ k = ⟨(List.replicate k.toNat a).flatten.toArray⟩ := by
  unfold Txt.mul
  by_cases h1 : k < 1
  · have : k = 0 := by omega
    subst this
    rfl
  · rw [if_neg h1]
    by_cases h2 : (k == 1 || (⟨a.toArray⟩ : Str).length == 0) = true
    · rw [if_pos h2]
      rw [str_len] at h2
      by_cases h3 : k = 1
      · subst h3
        simp
      · have : a.length = 0 := by simpa [h3] using h2
        have : a = [] := List.length_eq_zero_iff.mp this
        subst this
        simp
    · rw [if_neg h2, foldl_app]
      simp
theorem rep_len {α : Type} (a : List α) (n : Nat) : (List.replicate n a).flatten.length = a.length * n := by
  simp [Nat.mul_comm]
theorem isL_rep {K : PySem.W.Frag} {mg : Str → Option Value} {H : Hp} {ds : List D} {vs : List V} (l : IsL K mg H ds vs) : ∀ n : Nat, IsL K mg H (List.replicate n ds).flatten (List.replicate n vs).flatten
  | 0 => rfl
  | n + 1 => by
    rw [List.replicate_succ, List.replicate_succ, List.flatten_cons, List.flatten_cons]
    exact l.app (isL_rep l n)
section
variable {X : Cx}
theorem od_mul : OpR X (binaryOp .Mult) (rD2 X.K X.mg mulD) := by
  intro pins s σ H x y v u Q I rx ry h
  obtain ⟨Hf, dx, dy, d, sb, ix, iy, e, q⟩ := h
  unfold mulD at e
  split at e
  · split at e
    · rename_i i j hc
      cases e; cases ix; cases iy
      exact op_mulW pins s σ H _ _ v u Q I rx ry ⟨_, _, rfl, rfl, hc, q _ Hf H (.refl sb) (is_int _)⟩
    · cases e
  · split at e
    · rename_i a k hc
      cases e
      obtain ⟨rfl, hz⟩ := ix
      cases iy
      obtain ⟨t, rfl⟩ := rx
      obtain ⟨t2, rfl⟩ := ry
      have hl : (⟨a.toArray⟩ : Str).length = a.length := str_len a
      refine SB.mul ⟨?_, fun h1 _ => ?_, fun h1 _ => ?_⟩ fun t' k' => ?_
      · rw [Bool.or_eq_false_iff]
        exact ⟨decide_eq_false (by omega), decide_eq_false (by omega)⟩
      · rw [hl]
        have h2 : ((a.length * k.toNat : Nat) : Int) ≤ 1000000 := by omega
        rw [Int.natCast_mul, Int.toNat_of_nonneg hc.1] at h2
        have := Int.le_ediv_of_mul_le (a := (a.length : Int)) (b := 2 ^ 63 - 1) (c := k) (by omega) (by omega)
        omega
      · unfold Builtin.Str.tooLong
        rw [hl, sizeLine_eq]
        exact decide_eq_false (by omega)
      · rw [mulS_eq a k hc.1]
        refine ⟨.str _, H, I.tok k', ⟨t', rfl⟩, q _ Hf H (.refl sb) ⟨rfl, ?_⟩⟩
        rw [rep_len, sizeLine_eq]
        omega
    · cases e
  · split at e
    · rename_i a k hc
      cases e
      obtain ⟨z1, p1, v1, rfl, h1, l1⟩ := ix
      cases iy
      refine op_rep pins s σ H _ _ v u Q I rx ry ⟨_, _, _, rfl, rfl, sb _ _ h1, by omega, by omega, ?_, fun p hp => q _ _ _ (.new sb hp) ⟨?_, p, _, rfl, upd_same, ?_⟩⟩
      · rw [← l1.len, sizeLine_eq]; omega
      · rw [rep_len, sizeLine_eq]; omega
      · have l2 := l1.mono (Ste.new (bag := []) (o := .lst (List.replicate k.toNat v1).flatten) sb hp).sub
        exact isL_rep l2 _
    · cases e
  · cases e
end
end DL
namespace DL
open PySem L2
section
variable {X : Cx}
theorem isNone_is {K : PySem.W.Frag} {mg : Str → Option Value} {H : Hp} {d : D} {v : V} {b : Bool} (i : Is K mg H d v) (e : isNone d = some b) : decide (v = .non) = b := by
  cases d with
  | non => cases i; cases e; rfl
  | bl c => cases i; cases e; rfl
  | int c => cases i; cases e; rfl
  | str c => obtain ⟨rfl, _⟩ := i; cases e; rfl
  | tup ds => obtain ⟨_, a, vs, rfl, _⟩ := i; cases e; rfl
  | lst ds => obtain ⟨_, a, vs, rfl, _⟩ := i; cases e; rfl
  | dic _ _ => obtain ⟨a, vs, rfl, _⟩ := i; cases e; rfl
  | ins _ _ _ => obtain ⟨a, c, dd, vs, rfl, _⟩ := i; cases e; rfl
  | scr _ => obtain ⟨_, a, rfl, _⟩ := i; cases e; rfl
  | xc _ _ _ _ => obtain ⟨rfl, _⟩ := i; cases e; rfl
theorem od_is : OpR X (compareOp .Is) (rD2 X.K X.mg isD) := by
  intro pins s σ H x y v u Q I rx ry h
  obtain ⟨Hf, dx, dy, d, sb, ix, iy, e, q⟩ := h
  unfold isD at e
  split at e
  · cases iy
    cases e1 : isNone dx with
    | none => rw [e1] at e; cases e
    | some b =>
      rw [e1] at e; cases e
      have e2 := isNone_is ix e1
      exact op_isN pins s σ H _ _ v u Q I rx ry ⟨rfl, by rw [e2]; exact q _ Hf H (.refl sb) (is_bl _)⟩
  · cases e; cases ix; cases iy
    exact op_isBl pins s σ H _ _ v u Q I rx ry ⟨_, _, rfl, rfl, q _ Hf H (.refl sb) (is_bl _)⟩
  · cases e
theorem in_core (hu : X.A.units + 65 < cLine) {pins : List (Addr × Obj)} {s : Shared} {σ : L2.St} {H : Hp} {x y : V} {v u : Value} (I : Inv X pins σ H s) (rx : RelV x v) (ry : RelV y u) {Hf : Hp} {dx dy : D} {b : Bool} (sb : Sub Hf H) (ix : Is X.K X.mg Hf dx x) (iy : Is X.K X.mg Hf dy y) (e : inP dx dy = some b) :
    (∀ Q : VK, Q (.bl b) H → wpAny (model X.prog X.w) X.A (compareOp .In v u) (EP X pins σ Q) X.xe s) ∧ (∀ Q : VK, Q (.bl (!b)) H → wpAny (model X.prog X.w) X.A (compareOp .NotIn v u) (EP X pins σ Q) X.xe s) := by
  unfold inP at e
  split at e
  · obtain ⟨rfl, _⟩ := ix
    obtain ⟨rfl, _⟩ := iy
    cases e
    refine ⟨fun Q q => op_in_sign pins s σ H _ _ v u Q I rx ry ⟨_, _, rfl, rfl, by rw [str_tl]; exact q⟩, fun Q q => op_notIn_sign pins s σ H _ _ v u Q I rx ry ⟨_, _, rfl, rfl, by rw [str_tl]; exact q⟩⟩
  · rename_i ds
    split at e
    · rename_i p ys e1 e2
      split at e
      · rename_i hc
        cases e
        rw [Bool.and_eq_true] at hc
        refine ⟨fun Q q => op_inD hu pins s σ H _ _ v u Q I rx ry ⟨p, ys, (ix.mono sb).dp e1, (iy.mono sb).dp e2, hc.1, hc.2, q⟩, fun Q q => op_notInD hu pins s σ H _ _ v u Q I rx ry ⟨p, ys, (ix.mono sb).dp e1, (iy.mono sb).dp e2, hc.1, hc.2, q⟩⟩
      · cases e
    · cases e
  · rename_i ds
    split at e
    · rename_i p ys e1 e2
      split at e
      · rename_i hc
        cases e
        rw [Bool.and_eq_true] at hc
        obtain ⟨as, r1⟩ := Dp.reads I p x v ((ix.mono sb).dp e1) rx
        obtain ⟨bs, r2⟩ := Dp.reads I _ y u ((iy.mono sb).dp e2) ry
        have cl : PyData.canLayAll0 ys = true := by
          have := SeqAt.canLay_of_shaped hc.2
          simpa [PyData.canLay0] using this
        exact ⟨fun Q q => SeqAt.in_tuple_reads r2 r1 cl (SeqAt.canLay_of_shaped hc.1) (PyProof.Rows.room_in_shaped hc.1 hu) ⟨.bl _, H, I, rfl, q⟩,
          fun Q q => SeqAt.notIn_tuple_reads r2 r1 cl (SeqAt.canLay_of_shaped hc.1) (PyProof.Rows.room_in_shaped hc.1 hu) ⟨.bl _, H, I, rfl, q⟩⟩
      · cases e
    · cases e
  · cases e
theorem od_in (hu : X.A.units + 65 < cLine) : OpR X (compareOp .In) (rD2 X.K X.mg inD) := by
  intro pins s σ H x y v u Q I rx ry h
  obtain ⟨Hf, dx, dy, d, sb, ix, iy, e, q⟩ := h
  unfold inD at e
  cases e1 : inP dx dy with
  | none => rw [e1] at e; cases e
  | some b => rw [e1] at e; cases e; exact (in_core hu I rx ry sb ix iy e1).1 Q (q _ Hf H (.refl sb) (is_bl _))
theorem od_notIn (hu : X.A.units + 65 < cLine) : OpR X (compareOp .NotIn) (rD2 X.K X.mg notInD) := by
  intro pins s σ H x y v u Q I rx ry h
  obtain ⟨Hf, dx, dy, d, sb, ix, iy, e, q⟩ := h
  unfold notInD at e
  cases e1 : inP dx dy with
  | none => rw [e1] at e; cases e
  | some b => rw [e1] at e; cases e; exact (in_core hu I rx ry sb ix iy e1).2 Q (q _ Hf H (.refl sb) (is_bl _))
end
def tyD : D → Option String
  | .non => some "NoneType"
  | .bl _ => some "bool"
  | .int _ => some "int"
  | .str _ => some "str"
  | .tup _ => some "tuple"
  | .lst _ => some "list"
  | .scr _ => some "list"
  | .xc _ _ _ _ => none
  | .dic _ _ => some "dict"
  | .ins _ _ _ => none
def isiD (T : String) (d : D) : Option D := match tyD d with
  | some a => (kitB a T).map .bl
  | none => none
theorem tyD_is {K : PySem.W.Frag} {mg : Str → Option Value} {Hf H : Hp} (sb : Sub Hf H) {d : D} {v : V} {T : String} (i : Is K mg Hf d v) (e : tyD d = some T) : TyX K H v (.type T) := by
  cases d with
  | non => cases i; cases e; exact .base .non
  | bl c => cases i; cases e; exact .base (.bl _)
  | int c => cases i; cases e; exact .base (.int _)
  | str c => obtain ⟨rfl, _⟩ := i; cases e; exact .base (.str _)
  | tup ds =>
    obtain ⟨_, a, vs, rfl, h, _⟩ := i
    cases e
    rcases sb.sqt h with (h | ⟨o, h⟩) | h
    · exact .base (.tup h)
    · exact .fTuple h
    · obtain ⟨o, its, n, h1, h2, h3⟩ := h
      exact .kTuple h1 h2
  | lst ds =>
    obtain ⟨_, a, vs, rfl, h, _⟩ := i
    cases e
    exact .base (.lst (sb _ _ h))
  | dic _ _ =>
    obtain ⟨a, vs, rfl, h, _⟩ := i
    cases e
    rcases sb.rd h with h | ⟨o, h⟩
    · exact .base (.dK h)
    · exact .fDict h
  | ins _ _ _ => cases e
  | xc _ _ _ _ => cases e
  | scr _ =>
    obtain ⟨_, a, rfl, h⟩ := i
    cases e
    rcases sb.sql h.sq with (h | ⟨o, h⟩) | h
    · exact .base (.lst h)
    · exact .base (.frz h)
    · obtain ⟨o, its, n, h1, h2, h3⟩ := h
      exact .kList h1 h2
section
variable {X : Cx} {fx : Fx} {m : Type → Type} [Mo m] {G : List Sl} {e : Expr} {p p2 pos : Pos} {x : m D}
theorem de_isi (T : String) {n : Str} (he : PE X e (tE X.K X.mg fx G x)) (hg : Gl X "isinstance") (hm : X.mg "isinstance" = none) (hg2 : Gl X n) (hm2 : X.mg n = none) (hv2 : bootBuiltins n = some (.type T))
    (hn : n ≠ "__name__" := by decide) (hdb : (n == ("__debug__" : Str)) = false := by decide) (hs : starEach [e, .Name n p2] X.env = (false, eval e X.env) :: starEach [.Name n p2] X.env := by rfl) (hs2 : starEach [.Name n p2] X.env = (false, eval (.Name n p2) X.env) :: starEach [] X.env := by rfl) (hpl : (backTo pos (starEach [.Name n p2] X.env)).any (·.1) = false := by rfl) :
    PE X (.Call (.Name "isinstance" p) [e, .Name n p2] [] pos) (tE X.K X.mg fx G (do let d ← x; ask (isiD T d))) :=
  peI (pe_callB call_isi hg hm rfl (pa_cons he (pa_cons (pe_bltn (v := .ty T) hg2 hm2 hv2 rfl hn hdb) pa_nil hs2) hs) (by decide) (by decide) hs hpl) fun σ H Q ⟨Hf, s, h⟩ =>
  (h.bind.mono fun v1 H1 ⟨d1, Hf1, s1, sb1, r1, h1⟩ => by
    obtain ⟨d, e, q⟩ := h1.ask
    unfold isiD at e
    cases e1 : tyD d1 with
    | none => rw [e1] at e; cases e
    | some a =>
      simp only [e1] at e
      cases e2 : kitB a T with
      | none => rw [e2] at e; cases e
      | some b =>
        rw [e2] at e
        cases e
        exact ⟨v1, .ty T, _, _, b, rfl, .ty T, tyD_is h1.1.top r1 e1, kit_ty e2, q _ Hf1 H1 (.refl h1.1.top) (is_bl _)⟩).to
end
def bolsOf : List D → Option (List Bool)
  | [] => some []
  | .bl b :: r => (bolsOf r).map (b :: ·)
  | _ :: _ => none
def allD : List D → Option D
  | [.lst ds] => (bolsOf ds).map fun bs => .bl (bs.all id)
  | _ => none
def reprD : List D → Option D
  | [d] => match toPy d with
    | some p => if p.showable && !p.hasDict && decide (p.depth ≤ 60) && decide (p.shown.length ≤ sizeLine) then some (.str p.shown.cps.toList) else none
    | none => none
  | _ => none
section
variable {X : Cx}
theorem shown_is {K : PySem.W.Frag} {mg : Str → Option Value} {H : Hp} (z : Str) (h : z.length ≤ sizeLine) : Is K mg H (.str z.cps.toList) (.str z) := ⟨by rw [Array.toArray_toList], h⟩
theorem oc_repr (hg : X.A.guards = some []) (hu : X.A.units + 64 < cLine) : CallR X (.builtin "repr") (rDs X.K X.mg reprD) := by
  intro pins s σ H xs us Q I r h
  obtain ⟨Hf, ds, d, sb, l, e, q⟩ := h
  unfold reprD at e
  split at e
  · rename_i d1
    obtain ⟨v, r1, rfl, i1, rfl⟩ := l
    split at e
    · rename_i p e1
      split at e
      · rename_i hc
        cases e
        simp only [Bool.and_eq_true, Bool.not_eq_true', decide_eq_true_eq] at hc
        obtain ⟨⟨⟨h1, h2⟩, h3⟩, h4⟩ := hc
        have dp := (i1.mono sb).dp e1
        obtain ⟨u, rfl, ru⟩ := vals1 r
        have fin : ∀ (h' : Heap) (t : Tok) (tk : Nat), (∀ b o, s.heap.get? b = some o → h'.get? b = some o) → EP X pins σ Q (.str p.shown t) { s with heap := h', toks := tk } := fun h' t tk hk =>
          ⟨.str _, H, I.kept hk, ⟨t, rfl⟩, q _ Hf H (.refl sb) (shown_is _ h4)⟩
        have tok : ∀ (t : Tok) (tk : Nat), EP X pins σ Q (.str p.shown t) { s with toks := tk } := fun t tk => fin s.heap t tk fun _ _ e => e
        cases p with
        | none => cases dp; cases ru; exact PySem.P.repr_of_none (tok _ _)
        | bool b => cases dp; cases ru; exact PySem.P.repr_of_bool (tok _ _)
        | int i => cases dp; obtain ⟨t, rfl⟩ := ru; exact PySem.P.repr_of_int (by simpa [PyData.showable] using h1) (tok _ _)
        | str z => cases dp; obtain ⟨t, rfl⟩ := ru; exact PySem.P.repr_of_str (tok _ _) h4
        | list ps =>
          obtain ⟨as, rr⟩ := Dp.reads I _ v u dp ru
          cases dp
          cases ru
          exact PySem.repr_of_reads' rr h1 (fun z => by rw [h2] at z; cases z) hg (by omega) (fun _ _ e => e) (fun h' t tk hk => fin h' t tk hk) h4
        | tuple ps =>
          obtain ⟨as, rr⟩ := Dp.reads I _ v u dp ru
          cases dp
          cases ru
          exact PySem.repr_of_reads' rr h1 (fun z => by rw [h2] at z; cases z) hg (by omega) (fun _ _ e => e) (fun h' t tk hk => fin h' t tk hk) h4
        | dict kv => simp [PyData.hasDict] at h2
      · cases e
    · cases e
  · cases e
end
end DL
namespace DL
open PySem L2
def popI (ds : List D) (k : D) : Option (D × List D) := match k with
  | .int i => match ixN ds.length i with
    | some j => (ds[j]?).map fun d => (d, ds.eraseIdx j)
    | none => none
  | _ => none
theorem ixN_lt {n : Nat} {i : Int} {j : Nat} (h : ixN n i = some j) : j < n := (ixN_seq h).2.1
def tP (K : PySem.W.Frag) (mg : Str → Option Value) (fx : Fx) (G : List Sl) (i : Nat) {m : Type → Type} [Mo m] (x : m (D × List D)) : TE := fun σ H Q => ∃ Hf s, StS K mg fx Hf H σ G s ∧
  Mo.wp x s (fun r s' => ∀ v Hf' H', Sub Hf Hf' → StS K mg fx Hf' H' σ (G.set i (.ow r.2)) s' → Is K mg Hf' r.1 v → Q v H') (EX K mg fx G σ)
section
variable {X : Cx} {fx : Fx} {m : Type → Type} [Mo m] {G : List Sl} {α β : Type} {kk : Nat} {e o c : Expr} {rest : List Stmt} {ex : α → List Sl} {exb : β → List Sl} {x y : m D} {ds : List D} {n : Str} {np apos cpos pos : Pos}
theorem dp_pop (i : Nat) (hc : PE X c (tE X.K X.mg fx G y))
    (hG : G[i]? = some (.ow ds) := by rfl) (hN : X.N[i]? = some n := by rfl) (hv : Vis X.env.scope n := by first | exact Or.inl rfl | exact Or.inr (Or.inl rfl) | exact Or.inr (Or.inr rfl)) (hd : (n == ("__debug__" : Str)) = false := by decide) (hcd : (n == ("__classdict__" : Str)) = false := by decide)
    (hst : starEach [c] X.env = [(false, eval c X.env)] := by rfl) (hbase : attributeBase (.Name n np) "pop" X.env (eval (.Name n np) X.env) = eval (.Name n np) X.env := by rfl)
    (hfew : ((backTo cpos (starEach [c] X.env)).all (fun x => !x.1) && (backToKw cpos (keywordEach [] X.env)).all (fun x => x.1.isSome) && decide ([c].length + ([] : List Keyword).length + (if ([] : List Keyword).isEmpty then 0 else 1) < 30)) = true := by rfl)
    (hline : (apos.endLine == cpos.line) = true := by rfl) (hplain : (backTo cpos (starEach [] X.env)).any (·.1) = false := by rfl) :
    PE X (.Call (.Attribute (.Name n np) "pop" apos) [c] [] cpos) (tP X.K X.mg fx G i (do let j ← y; ask (popI ds j))) :=
  peI (pe_bm PySem.F.plainAttrs_list PySem.F.slot_list_pop PySem.F.type_list_pop mt_popAt (pe_var hN hv hd hcd) (pa_cons hc pa_nil hst) hbase hfew hline hst hplain) fun σ H Q ⟨Hf, s, st, w⟩ => by
    obtain ⟨p, vs, ep, hp, hf, h0, nb, l, hz⟩ := st.sl i _ hG
    refine ⟨.ref p, ep, .inl ⟨rfl, _, .inl (.inl hp)⟩, ?_⟩
    refine ⟨Hf, s, st, Mo.wp_mono (Mo.wp_bind w) (fun j s1 k v Hf1 H1 e1 bg1 r1 => ?_) fun e s' k => k⟩
    have st1 := st.step e1 bg1
    obtain ⟨p1, vs1, ep1, hp1, hf1, _, _, l1, hz1⟩ := st1.sl i _ hG
    have eq : p1 = p := by rw [ep] at ep1; cases ep1; rfl
    subst eq
    have k' := Mo.wp_lift k
    unfold popI at k'
    cases j with
    | int t =>
      cases r1
      cases q : ixN ds.length t with
      | none => exact absurd k' (by simp [q])
      | some z =>
        have hlt := ixN_lt q
        obtain ⟨hsq, _, hb1, hb2⟩ := ixN_seq q
        have ed : ds[z]? = some ds[z] := List.getElem?_eq_getElem hlt
        simp only [q, ed, Option.map_some] at k'
        obtain ⟨w', hw', iw⟩ := l1.get ed
        have hs2 : (sizeLine : Nat) = 16777216 := sizeLine_eq
        have hle := List.length_eraseIdx_le ds z
        refine ⟨p1, vs1, t, z, w', rfl, rfl, hp1, by omega, by omega, by rw [← l1.len]; exact hsq, hw', k' w' Hf1 _ e1.sub (st1.updOw hG ep (l1.eraseIdx z) (by omega)) iw⟩
    | _ => exact k'.elim
theorem dss_appendP {x : m (D × List D)} {es : List D} {k : D × List D → List D → m (Fl α β)} (i j : Nat) (hij : i ≠ j := by decide) (he : PE X e (tP X.K X.mg fx G i x)) (hr : ∀ (r : D × List D) es, PSs X rest (tS X.K X.mg fx ((G.set i (.ow r.2)).set j (.ow es)) ex exb (k r es)))
    (hG : G[j]? = some (.ow es) := by rfl) (hN : X.N[j]? = some n := by rfl) (hv : Vis X.env.scope n := by first | exact Or.inl rfl | exact Or.inr (Or.inl rfl) | exact Or.inr (Or.inr rfl)) (hd : (n == ("__debug__" : Str)) = false := by decide) (hcd : (n == ("__classdict__" : Str)) = false := by decide)
    (hst : starEach [e] X.env = [(false, eval e X.env)] := by rfl) (hbase : attributeBase (.Name n np) "append" X.env (eval (.Name n np) X.env) = eval (.Name n np) X.env := by rfl)
    (hfew : ((backTo cpos (starEach [e] X.env)).all (fun x => !x.1) && (backToKw cpos (keywordEach [] X.env)).all (fun x => x.1.isSome) && decide ([e].length + ([] : List Keyword).length + (if ([] : List Keyword).isEmpty then 0 else 1) < 30)) = true := by rfl)
    (hline : (apos.endLine == cpos.line) = true := by rfl) (hplain : (backTo cpos (starEach [] X.env)).any (·.1) = false := by rfl)
    (hs : swapsWith (.Call (.Attribute (.Name n np) "append" apos) [e] [] cpos) none pos.line X.env = pure false := by rfl) (hg : GxOk fx G := by first | exact True.intro | repeat' (first | exact True.intro | exact Or.inl rfl | exact Or.inr rfl | refine And.intro ?_ ?_)) :
    PSs X (.Expr (.Call (.Attribute (.Name n np) "append" apos) [e] [] cpos) pos :: rest) (tS X.K X.mg fx G ex exb (do let r ← x; let es ← ask (apd es r.1); k r es)) :=
  pssI (pss_cons (ps_expr (pe_bm PySem.F.plainAttrs_list PySem.F.slot_list_append PySem.F.type_list_append mt_append (pe_var hN hv hd hcd) (pa_cons he pa_nil hst) hbase hfew hline hst hplain) hs) (pss_ex (ι := (D × List D) × List D) fun r => hr r.1 r.2)) fun De σ H ⟨Hf, s, h⟩ => by
    obtain ⟨p, vs, ep, hp, hf, h0, nb, l, hz⟩ := h.1.sl j _ hG
    refine ⟨.ref p, ep, .inl ⟨rfl, _, .inl (.inl hp)⟩, ?_⟩
    refine ⟨Hf, s, h.1, Mo.wp_mono (Mo.wp_bind h.2) (fun r s1 w v Hf1 H1 sb st1 is1 => ?_) fun e s' k => exs_ex hg k⟩
    have hG1 : (G.set i (.ow r.2))[j]? = some (.ow es) := by rw [List.getElem?_set_ne hij]; exact hG
    obtain ⟨p1, vs1, ep1, hp1, hf1, _, _, l1, hz1⟩ := st1.sl j _ hG1
    have eq : p1 = p := by rw [ep] at ep1; cases ep1; rfl
    subst eq
    have k' := Mo.wp_lift (Mo.wp_bind w)
    by_cases c : es.length < sizeLine
    · have e1 : apd es r.1 = some (es ++ [r.1]) := if_pos c
      rw [e1] at k'
      refine ⟨p1, vs1, v, rfl, rfl, hp1, by rw [← l1.len]; exact c, (r, es ++ [r.1]), Hf1, s1, st1.updOw hG1 ep (l1.app (.cons is1 .nil)) (by rw [List.length_append, List.length_singleton]; exact c), Mo.wp_mono k' (fun f s2 h2 => h2.up sb) fun e s' k => k⟩
    · have e1 : apd es r.1 = none := if_neg c
      rw [e1] at k'
      exact k'.elim
end
section
variable {X : Cx} {fx : Fx} {m : Type → Type} [Mo m] {G : List Sl} {α β : Type} {kk : Nat} {e : Expr} {rest : List Stmt} {ex : α → List Sl} {exb : β → List Sl} {pos : Pos}
theorem dss_retF {x : m (List D)} (he : PE X e (tF X.K X.mg fx G x)) (hnr : fx.nr = true := by rfl) (hg : GxOk fx G := by first | exact True.intro | repeat' (first | exact True.intro | exact Or.inl rfl | exact Or.inr rfl | refine And.intro ?_ ?_)) : PSs X (.Return (some e) pos :: rest) (tS X.K X.mg fx G ex exb (do let ds ← x; pure (.rt (.lst ds)))) := pssI (pss_cons (ps_ret he) pss_never) fun De σ H ⟨Hf, s, h⟩ =>
  ⟨Hf, s, h.1, Mo.wp_mono (Mo.wp_bind h.2) (fun ds s1 w p vs Hf1 H1 e bg hp hf1 hn l hz => (Mo.wp_pure w) (.ref p) Hf1 H1 (h.1.ste.trans e.wider) bg (by rw [hnr]; exact ⟨p, vs, ds, rfl, rfl, hp, hf1, (h.1.new0 hn).1, l, hz⟩)) fun e s' k => exs_ex hg k⟩
end
end DL
namespace DL
open PySem L2
def bagX : M D := fun s => if s.w = false then .ok (.int s.x) s else .stuck
def bagY : M D := fun s => if s.w = false then .ok (.int s.y) s else .stuck
def bagSetX (i : Int) : M Unit := fun s => if s.w = false then .ok () { s with x := i } else .stuck
def bagSetY (i : Int) : M Unit := fun s => if s.w = false then .ok () { s with y := i } else .stuck
theorem bag_one {bag : List Addr} {H : Hp} {s : S} {b : Addr} {r : List Addr} (h : BagAt bag H s) (hw : s.w = false) (e : bag = b :: r) : bag = [b] ∧ H b = some (.lst [.int s.x, .int s.y]) := by
  subst e
  cases r with
  | nil => exact ⟨rfl, h.2⟩
  | cons c r => exact absurd h.1 (by rw [hw]; simp)
section
variable {X : Cx} {fx : Fx} {G : List Sl} {α β : Type} {kk : Nat} {e : Expr} {rest : List Stmt} {ex : α → List Sl} {exb : β → List Sl} {pos p2 np apos : Pos} {n : Str} {j : Nat}
theorem de_bagX (i : Nat) (hG : G[i]? = some .bg := by rfl) (hN : X.N[i]? = some n := by rfl) (hv : Vis X.env.scope n := by first | exact Or.inl rfl | exact Or.inr (Or.inl rfl) | exact Or.inr (Or.inr rfl)) (hd : (n == ("__debug__" : Str)) = false := by decide) (hcd : (n == ("__classdict__" : Str)) = false := by decide)
    (hs : PlainIx (.Constant (.int 0) j p2) := by exact fun _ _ => rfl) : PE X (.Subscript (.Name n np) (.Constant (.int 0) j p2) pos) (tE X.K X.mg fx G bagX) :=
  peI (pe_ix ix_list (pe_var hN hv hd hcd) pe_int hs) fun σ H Q ⟨Hf, s, h⟩ => by
    obtain ⟨b, r, eb, ev⟩ := h.1.sl i _ hG
    have w : (bagX s).wp _ _ := h.2
    unfold bagX at w
    by_cases hw : s.w = false
    · rw [if_pos hw] at w
      obtain ⟨e1, hb⟩ := bag_one h.1.bag hw eb
      exact ⟨.ref b, ev, b, _, 0, .int s.x, rfl, rfl, .inl (.inl hb), rfl, w _ Hf H (.refl h.1.top) h.1.bag (is_int _)⟩
    · rw [if_neg hw] at w
      exact w.elim
theorem de_bagY (i : Nat) (hG : G[i]? = some .bg := by rfl) (hN : X.N[i]? = some n := by rfl) (hv : Vis X.env.scope n := by first | exact Or.inl rfl | exact Or.inr (Or.inl rfl) | exact Or.inr (Or.inr rfl)) (hd : (n == ("__debug__" : Str)) = false := by decide) (hcd : (n == ("__classdict__" : Str)) = false := by decide)
    (hs : PlainIx (.Constant (.int 1) j p2) := by exact fun _ _ => rfl) : PE X (.Subscript (.Name n np) (.Constant (.int 1) j p2) pos) (tE X.K X.mg fx G bagY) :=
  peI (pe_ix ix_list (pe_var hN hv hd hcd) pe_int hs) fun σ H Q ⟨Hf, s, h⟩ => by
    obtain ⟨b, r, eb, ev⟩ := h.1.sl i _ hG
    have w : (bagY s).wp _ _ := h.2
    unfold bagY at w
    by_cases hw : s.w = false
    · rw [if_pos hw] at w
      obtain ⟨e1, hb⟩ := bag_one h.1.bag hw eb
      exact ⟨.ref b, ev, b, _, 1, .int s.y, rfl, rfl, .inl (.inl hb), rfl, w _ Hf H (.refl h.1.top) h.1.bag (is_int _)⟩
    · rw [if_neg hw] at w
      exact w.elim
theorem StS.bagUpd {K : PySem.W.Frag} {mg : Str → Option Value} {Hf H : Hp} {σ : L2.St} {s s' : S} {b : Addr} {o : HO} (st : StS K mg fx Hf H σ G s) (hb : b ∈ fx.bag) (bg : BagAt fx.bag (upd H b o) s') : StS K mg fx Hf (upd H b o) σ G s' := by
  have hf := (st.bagf b hb).1
  refine ⟨⟨st.ste.sub, fun a u q => ?_, fun a u q n => ?_, fun a n => ?_, st.ste.fresh⟩, bg, fun c hc => ⟨(st.bagg c hc).1, ?_, (st.bagg c hc).2.2⟩, st.len, fun i x ex => ?_, st.dis⟩
  · have ne : a ≠ b := fun z => by rw [z, hf] at q; cases q
    rw [upd_ne ne]; exact st.top a u q
  · have ne : a ≠ b := fun z => n (List.mem_append_right _ (z ▸ hb))
    rw [upd_ne ne]; exact st.ste.keep a u q n
  · by_cases c : a = b
    · rw [c, upd_same]; simp
    · rw [upd_ne c]; exact st.ste.dom a n
  · by_cases q : c = b
    · rw [q, upd_same]; simp
    · rw [upd_ne q]; exact (st.bagg c hc).2.1
  · exact (st.sl i x ex).upd fun q ox e z => by
      obtain ⟨q2, e2, _, _, nb, _⟩ := (st.sl i x ex).ref ox
      rw [e] at e2
      cases e2
      exact nb (z ▸ hb)
theorem dss_bagSetX {x : M D} {k : M (Fl α β)} (i : Nat) (he : PE X e (tE X.K X.mg fx G x)) (hr : PSs X rest (tS X.K X.mg fx G ex exb k)) (hG : G[i]? = some .bg := by rfl) (hN : X.N[i]? = some n := by rfl) (hv : Vis X.env.scope n := by first | exact Or.inl rfl | exact Or.inr (Or.inl rfl) | exact Or.inr (Or.inr rfl)) (hd : (n == ("__debug__" : Str)) = false := by decide) (hcd : (n == ("__classdict__" : Str)) = false := by decide)
    (ha : ∀ v, assign (.Subscript (.Name n np) (.Constant (.int 0) j p2) apos) X.env v = (do
      let ov ← holding [v] (eval (.Name n np) X.env)
      let iv ← holding [v, ov] (eval (.Constant (.int 0) j p2) X.env)
      standAt apos
      holding [v, ov, iv] (setItem ov iv v)
      release [v, ov, iv] []) := by intro _; rfl)
    (hs : swapsWithSole [.Subscript (.Name n np) (.Constant (.int 0) j p2) apos] e pos.line X.env = pure false := by rfl) (hw : swappedStores [.Subscript (.Name n np) (.Constant (.int 0) j p2) apos] e X.env = pure none := by rfl)
    (h1 : (assignEach [.Subscript (.Name n np) (.Constant (.int 0) j p2) apos] X.env).map (·.2) = [assign (.Subscript (.Name n np) (.Constant (.int 0) j p2) apos) X.env] := by rfl) (hg : GxOk fx G := by first | exact True.intro | repeat' (first | exact True.intro | exact Or.inl rfl | exact Or.inr rfl | refine And.intro ?_ ?_)) :
    PSs X (.Assign [.Subscript (.Name n np) (.Constant (.int 0) j p2) apos] e pos :: rest) (tS X.K X.mg fx G ex exb (do let d ← x; let i ← ask (intOf d); bagSetX i; k)) :=
  pssI (pss_cons (ps_asg he (pg_sub (pe_var hN hv hd hcd) pe_int set_list ha) hs hw h1) hr) fun De σ H ⟨Hf, s, h⟩ =>
    ((h.bind hg).mono fun v H1 ⟨d, Hf1, s1, sb, r, h1⟩ => by
      obtain ⟨b, rr, eb, ev⟩ := h1.1.sl i _ hG
      have w := Mo.wp_lift (Mo.wp_bind h1.2)
      cases d with
      | int t =>
        cases r
        have w2 : (bagSetX t s1).wp _ _ := Mo.wp_bind w
        unfold bagSetX at w2
        by_cases hw : s1.w = false
        · rw [if_pos hw] at w2
          obtain ⟨e1, hb⟩ := bag_one h1.1.bag hw eb
          refine ⟨.ref b, ev, b, _, 0, 0, rfl, rfl, hb, rfl, Hf1, _, h1.1.bagUpd (s' := { s1 with x := t }) (by rw [e1]; simp) ?_, w2⟩
          rw [e1]
          exact ⟨hw, upd_same⟩
        · rw [if_neg hw] at w2
          exact w2.elim
      | _ => exact w.elim).to
theorem dss_bagSetY {x : M D} {k : M (Fl α β)} (i : Nat) (he : PE X e (tE X.K X.mg fx G x)) (hr : PSs X rest (tS X.K X.mg fx G ex exb k)) (hG : G[i]? = some .bg := by rfl) (hN : X.N[i]? = some n := by rfl) (hv : Vis X.env.scope n := by first | exact Or.inl rfl | exact Or.inr (Or.inl rfl) | exact Or.inr (Or.inr rfl)) (hd : (n == ("__debug__" : Str)) = false := by decide) (hcd : (n == ("__classdict__" : Str)) = false := by decide)
    (ha : ∀ v, assign (.Subscript (.Name n np) (.Constant (.int 1) j p2) apos) X.env v = (do
      let ov ← holding [v] (eval (.Name n np) X.env)
      let iv ← holding [v, ov] (eval (.Constant (.int 1) j p2) X.env)
      standAt apos
      holding [v, ov, iv] (setItem ov iv v)
      release [v, ov, iv] []) := by intro _; rfl)
    (hs : swapsWithSole [.Subscript (.Name n np) (.Constant (.int 1) j p2) apos] e pos.line X.env = pure false := by rfl) (hw : swappedStores [.Subscript (.Name n np) (.Constant (.int 1) j p2) apos] e X.env = pure none := by rfl)
    (h1 : (assignEach [.Subscript (.Name n np) (.Constant (.int 1) j p2) apos] X.env).map (·.2) = [assign (.Subscript (.Name n np) (.Constant (.int 1) j p2) apos) X.env] := by rfl) (hg : GxOk fx G := by first | exact True.intro | repeat' (first | exact True.intro | exact Or.inl rfl | exact Or.inr rfl | refine And.intro ?_ ?_)) :
    PSs X (.Assign [.Subscript (.Name n np) (.Constant (.int 1) j p2) apos] e pos :: rest) (tS X.K X.mg fx G ex exb (do let d ← x; let i ← ask (intOf d); bagSetY i; k)) :=
  pssI (pss_cons (ps_asg he (pg_sub (pe_var hN hv hd hcd) pe_int set_list ha) hs hw h1) hr) fun De σ H ⟨Hf, s, h⟩ =>
    ((h.bind hg).mono fun v H1 ⟨d, Hf1, s1, sb, r, h1⟩ => by
      obtain ⟨b, rr, eb, ev⟩ := h1.1.sl i _ hG
      have w := Mo.wp_lift (Mo.wp_bind h1.2)
      cases d with
      | int t =>
        cases r
        have w2 : (bagSetY t s1).wp _ _ := Mo.wp_bind w
        unfold bagSetY at w2
        by_cases hw : s1.w = false
        · rw [if_pos hw] at w2
          obtain ⟨e1, hb⟩ := bag_one h1.1.bag hw eb
          refine ⟨.ref b, ev, b, _, 1, 1, rfl, rfl, hb, rfl, Hf1, _, h1.1.bagUpd (s' := { s1 with y := t }) (by rw [e1]; simp) ?_, w2⟩
          rw [e1]
          exact ⟨hw, upd_same⟩
        · rw [if_neg hw] at w2
          exact w2.elim
      | _ => exact w.elim).to
end
def lstOf : D → Option (List D)
  | .lst ds => some ds
  | _ => none
section
variable {X : Cx} {fx : Fx} {m : Type → Type} [Mo m] {G : List Sl} {es : List Expr} {pos : Pos} {ys : m (List D)} {kk j n : Nat} {g : List D → R D} {f : Addr} {fd : FuncData} {ps : List Str} {nm : Str} {p : Pos} {e : Expr}
theorem df_fn (C : Cok X fx kk) (F : FnG X.prog X.w X.K X.mg X.base j f fd ps (spR X.K X.mg true n g)) (hm : X.mg nm = some (.ref f)) (hk : PySem.W.keepIn X.K (.ref f) = true) (hb : Binds X.K fd ps []) (ha : PA X (e :: es) (tA X.K X.mg fx G ys)) (hn : ∀ ds : List D, g ds ≠ .stuck → ds.length = n)
    (hj : j ≤ kk := by decide) (hg : Gl X nm := by rfl) (hdb : (nm == ("__debug__" : Str)) = false := by decide) (he : starEach (e :: es) X.env = (false, eval e X.env) :: starEach es X.env := by rfl) (hpl : (backTo pos (starEach es X.env)).any (·.1) = false := by rfl) :
    PE X (.Call (.Name nm p) (e :: es) [] pos) (tF X.K X.mg fx G (do let ds ← ys; let d ← Mo.lift (g ds); ask (lstOf d))) := peI (pe_callG (E := WE fx.W) F C.gd (C.rm.mono hj) hg hm hk hb .nil (fun σ => passAt C.tk σ) ha hdb he hpl) fun σ H Q ⟨Hf, s, st, w⟩ =>
  ⟨Hf, s, st, Mo.wp_mono (Mo.wp_bind w) (fun ds s1 k vs Hf1 H1 e1 bg1 l1 => by
    show spR X.K X.mg true n g (vs ++ []) H1 Q (WE fx.W σ)
    rw [List.append_nil]
    have st1 := st.step e1 bg1
    have w2 := Mo.wp_lift (Mo.wp_bind k)
    have hnv : vs.length = n := by
      rw [← l1.len]
      refine hn ds fun z => ?_
      rw [z] at w2
      exact w2
    refine ⟨hnv, Hf1, ds, st1.top, l1, ?_⟩
    cases z : g ds with
    | ok d =>
      rw [z] at w2
      rintro v Hf' H' e2 ⟨p, vs2, ds2, rfl, rfl, hp, hf, h0, l2, hz⟩
      have w3 := Mo.wp_lift w2
      have hn0 : H p = none := by
        cases q : H p with
        | none => rfl
        | some o => exact absurd h0 (e1.dom p (by rw [q]; simp))
      exact w3 p vs2 Hf' H' (e1.trans e2.wide) (e2.bag bg1) hp hf hn0 l2 hz
    | ex e => rw [z] at w2; exact fun cls dd Hf' H' e2 x => w2 cls dd Hf' H' (st1.step e2.wide (e2.bag bg1)) x
    | stuck => rw [z] at w2; exact w2) fun e s' k => k⟩
end
def withBag {α β : Type} (d : D) (body : M (Fl α β)) : R (Fl α β) := match d with
  | .lst [.int x, .int y] => match body ⟨x, y, 0, [], false⟩ with
    | .ok f _ => .ok f
    | .ex e _ => .ex e
    | .stuck => .stuck
  | _ => .stuck
abbrev Fx.bagged (fx : Fx) (b : Addr) : Fx := { fx with bag := [b] }
section
variable {K : PySem.W.Frag} {mg : Str → Option Value} {fx : Fx}
theorem Ste.unbag {b : Addr} {Hf H Hf' H' : Hp} (e : Ste [b] Hf H Hf' H') (hb : H b = none) : Ste [] Hf H Hf' H' :=
  ⟨e.sub, e.top, fun a o q _ => e.keep a o q (fun m => by
    have : a = b := by simpa using m
    subst this
    rw [hb] at q; cases q), e.dom, e.fresh⟩
def noBg : Sl → Bool
  | .bg => false
  | _ => true
theorem StS.unbag {b : Addr} {Hf H : Hp} {σ : L2.St} {G : List Sl} {s s0 : S} (hfx : fx.bag = []) (hme : fx.me = []) (hb : fx.H0 b = none) (st : StS K mg (fx.bagged b) Hf H σ G s) (hG : G.all noBg = true) : StS K mg fx Hf H σ G s0 := by
  have st0 : Ste [b] fx.Hf0 fx.H0 Hf H := by
    have z := st.ste
    have e : (fx.bagged b).me = [] := hme
    rw [e] at z
    exact z
  refine ⟨by rw [hfx, hme]; exact Ste.unbag st0 hb, by rw [hfx]; trivial, by rw [hfx, hme]; intro b hb; (cases hb), st.len, fun i x e => ?_, st.dis⟩
  have so := st.sl i x e
  cases x with
  | un => trivial
  | im d => exact so
  | bg =>
    have := List.all_eq_true.mp hG _ (List.mem_of_getElem? e)
    cases this
  | ow ds =>
    obtain ⟨p, vs, e1, h, hf, h0, nb, l, hz⟩ := so
    exact ⟨p, vs, e1, h, hf, h0, by rw [hfx]; simp, l, hz⟩
  | od ks ds =>
    obtain ⟨p, vs, e1, h, hf, h0, nb, l, l', hz⟩ := so
    exact ⟨p, vs, e1, h, hf, h0, by rw [hfx]; simp, l, l', hz⟩
  | ob ks ds =>
    obtain ⟨p, C, dx, vs, e1, h, hf, h0, nb, l⟩ := so
    exact ⟨p, C, dx, vs, e1, h, hf, h0, by rw [hfx]; simp, l⟩
end
section
variable {X : Cx} {fx : Fx} {G : List Sl} {α β : Type} {kk : Nat} {e : Expr} {rest : List Stmt} {ex : α → List Sl} {exb : β → List Sl} {pos : Pos} {n : Str} {pos' : Pos}
theorem Cok.bagged (C : Cok X fx kk) (b : Addr) : Cok X (fx.bagged b) kk := ⟨C.calm, C.hp, C.tk, C.rm, C.nd, C.gd⟩
theorem StS.setBg {i : Nat} {b : Addr} {Hf H : Hp} {σ : L2.St} {x y : Int} {s : S} (hfx : fx.bag = []) (hme : fx.me = []) (st : StS X.K X.mg fx Hf H σ G s) (no : ∀ (j : Nat) (q : Addr), σ[j]? = some (some (.ref q)) → (∀ x, G[j]? = some x → isOw x = true → q ≠ b)) (hb : H b = some (.lst [.int x, .int y])) (hf : Hf b = none) (h0 : fx.H0 b = none) (hG : G.all noBg = true) :
    StS X.K X.mg (fx.bagged b) Hf H (σ.set i (some (.ref b))) (G.set i .bg) ⟨x, y, 0, [], false⟩ := by
  refine ⟨⟨st.ste.sub, st.ste.top, fun a o q _ => st.ste.keep a o q (by rw [hfx, hme]; simp), st.ste.dom, st.ste.fresh⟩, ⟨rfl, hb⟩, fun c hc => ?_, by simpa using st.len, fun j z e => ?_, fun j k z w p hjk ex ey ox oy e1 e2 => ?_⟩
  · have hm : (fx.bagged b).me = [] := hme
    rw [hm] at hc ⊢
    have : c = b := by simpa using hc
    subst this
    exact ⟨hf, by rw [hb]; simp, fun z => nomatch z⟩
  · by_cases q : i = j
    · subst q
      have hi : i < G.length := by
        have := (List.getElem?_eq_some_iff.mp e).1
        simpa using this
      rw [List.getElem?_set_self hi] at e
      cases e
      exact ⟨b, [], rfl, List.getElem?_set_self (by rw [st.len]; exact hi)⟩
    · rw [List.getElem?_set_ne q] at e
      rw [List.getElem?_set_ne q]
      have so := st.sl j z e
      cases z with
      | un => trivial
      | im d => exact so
      | bg =>
        have := List.all_eq_true.mp hG _ (List.mem_of_getElem? e)
        cases this
      | ow ds =>
        obtain ⟨p, vs, e1, h, hf', h0', nb, l, hz⟩ := so
        refine ⟨p, vs, e1, h, hf', h0', fun m => ?_, l, hz⟩
        have : p = b := by simpa using m
        exact no j p e1 _ e rfl this
      | od ks ds =>
        obtain ⟨p, vs, e1, h, hf', h0', nb, l, l', hz⟩ := so
        refine ⟨p, vs, e1, h, hf', h0', fun m => ?_, l, l', hz⟩
        have : p = b := by simpa using m
        exact no j p e1 _ e rfl this
      | ob ks ds =>
        obtain ⟨p, C, dx, vs, e1, h, hf', h0', nb, l⟩ := so
        refine ⟨p, C, dx, vs, e1, h, hf', h0', fun m => ?_, l⟩
        have : p = b := by simpa using m
        exact no j p e1 _ e rfl this
  · have nj : i ≠ j := by
      rintro rfl
      have hi : i < G.length := by
        have := (List.getElem?_eq_some_iff.mp ex).1
        simpa using this
      rw [List.getElem?_set_self hi] at ex
      cases ex; cases ox
    have nk : i ≠ k := by
      rintro rfl
      have hi : i < G.length := by
        have := (List.getElem?_eq_some_iff.mp ey).1
        simpa using this
      rw [List.getElem?_set_self hi] at ey
      cases ey; cases oy
    rw [List.getElem?_set_ne nj] at ex e1
    rw [List.getElem?_set_ne nk] at ey e2
    exact st.dis j k z w p hjk ex ey ox oy e1 e2
theorem dss_bag {x : R (List D)} {k : M (Fl α β)} (C : Cok X fx kk) (i : Nat) (he : PE X e (tF X.K X.mg fx G x)) (hr : ∀ b, Cok X (fx.bagged b) kk → PSs X rest (tS X.K X.mg (fx.bagged b) (G.set i .bg) ex exb k)) (hex : ∀ a, (ex a).all noBg = true) (hexb : ∀ a, (exb a).all noBg = true) (hfx : fx.bag = [] := by rfl) (hme : fx.me = [] := by rfl) (hgx : fx.gx = none := by rfl) (hnr : fx.nr = false := by rfl) (hG : G.all noBg = true := by rfl)
    (hi : X.N[i]? = some n := by rfl) (hx : Loc X.env.scope n := by first | exact Or.inl rfl | exact Or.inr rfl)
    (hs : swapsWith e (some (.Name n pos')) pos.line X.env = pure false := by rfl) (hf : X.fn n = true ∨ X.env.scope.names.lookup n = some .local := by first | exact .inl rfl | exact .inr rfl) :
    PSs X (.Assign [.Name n pos'] e pos :: rest) (tS X.K X.mg fx G ex exb (do let ds ← x; withBag (.lst ds) k)) := pssI (pss_cons (ps_set C.nd hi hx he hs hf) (pss_ex fun b => hr b (C.bagged b))) fun D σ H ⟨Hf, s, h⟩ =>
  ⟨Hf, s, h.1, Mo.wp_mono (Mo.wp_bind h.2) (fun ds s1 w p vs Hf1 H1 e bg hp hf1 hn l hz => by
    have st1 := h.1.step e bg
    have n0 := h.1.new0 hn
    have w1 : R.wp (withBag (.lst ds) k) s1 _ _ := w
    unfold withBag at w1
    split at w1
    · rename_i x y hd
      cases hd
      obtain ⟨v1, r1, rfl, rfl, v2, r2, rfl, rfl, rfl⟩ := l
      refine ⟨p, Hf1, ⟨x, y, 0, [], false⟩, StS.setBg hfx hme st1 (h.1.owNe hn) hp hf1 n0.1 hG, ?_⟩
      show (k _).wp _ _
      cases q : k ⟨x, y, 0, [], false⟩ with
      | ok f s2 =>
        rw [q] at w1
        have w2 : FP X.K X.mg fx Hf ex exb D f s1 := w1
        show FP X.K X.mg (fx.bagged p) Hf1 ex exb D f s2
        cases f with
        | nx a => exact fun Hf' H' σ' sb st => w2 Hf' H' σ' (e.sub.trans sb) (StS.unbag hfx hme n0.1 st (hex a))
        | rt d => exact fun v Hf' H' st bg' r => w2 v Hf' H' (by rw [hfx, hme]; exact Ste.unbag (by have e : (fx.bagged p).me = [] := hme; rw [e] at st; exact st) n0.1) (by rw [hfx]; trivial) r
        | bk b => exact fun Hf' H' σ' sb st => w2 Hf' H' σ' (e.sub.trans sb) (StS.unbag hfx hme n0.1 st (hexb b))
        | ct b => exact fun Hf' H' σ' sb st => w2 Hf' H' σ' (e.sub.trans sb) (StS.unbag hfx hme n0.1 st (hexb b))
      | ex e2 s2 =>
        rw [q] at w1
        have w2 : EXS X.K X.mg fx e2 s1 := w1
        show EXS X.K X.mg (fx.bagged p) e2 s2
        intro cls dd σ' Hf' H' xs xi
        refine w2 cls dd σ' Hf' H' ?_ xi
        unfold XSt at xs ⊢
        have hgx' : (fx.bagged p).gx = none := hgx
        rw [hgx'] at xs
        rw [hgx]
        exact ⟨by rw [hfx, hme]; exact Ste.unbag (by have z := xs.1; have e : (fx.bagged p).me = [] := hme; rw [e] at z; exact z) n0.1, by rw [hfx]; trivial⟩
      | stuck => rw [q] at w1; exact w1.elim
    · exact w1.elim) fun e s' k => by
      have k' := k
      exact exs_ex (by unfold GxOk; rw [hgx]; trivial) k'⟩
end
end DL
namespace DL
open PySem L2 PyProof.Rows PySem.Spec
section
variable {P : Program} {w : World} {K : PySem.W.Frag} {mg mb : Str → Option Value} {k : Nat} {fa a : Addr} {fd : FuncData} {x : Str} {g : List D → R D} {s1 : Shared} {vs : List Value} {ns : List Int}
theorem mod_hid {H : Hp} (KX : K.In s1.heap) (hns : s1.heap.Ns mainGlobals mg) (hb : s1.heap.Ns builtinsNs mb) (hbb : ∀ x : Str, x ≠ "__name__" → mb x = bootBuiltins x) (hlim : s1.heap.NoLimit)
    (hd : ∀ (b : Addr) (o : Obj) (es : Array DictEntry) (ep : Nat), s1.heap.get? b = some o → o.data = .dict es ep → H b = none) (hk : ∀ b o, K.lookup b = some o → H b = none) : Mod K mg (hidT s1.heap H) := by
  have nsK : ∀ {b : Addr} {m : Str → Option Value}, s1.heap.Ns b m → (hidT s1.heap H).Ns b m := fun {b m} ⟨o, es, ep, e, d, r⟩ => ⟨o, es, ep, hidT_get e (hd _ _ _ _ e d), d, r⟩
  exact ⟨fun b o e => hidT_get (KX b o e) (hk b o e), nsK hns, ⟨mb, nsK hb, hbb⟩, let ⟨mc, h1, h2⟩ := hlim; ⟨mc, nsK h1, h2⟩⟩
theorem call_at {H : Hp} (KX : K.In s1.heap) (hns : s1.heap.Ns mainGlobals mg) (hb : s1.heap.Ns builtinsNs mb) (hbb : ∀ x : Str, x ≠ "__name__" → mb x = bootBuiltins x) (hlim : s1.heap.NoLimit) (hgn : s1.gens = #[])
    (hd : ∀ (b : Addr) (o : Obj) (es : Array DictEntry) (ep : Nat), s1.heap.get? b = some o → o.data = .dict es ep → H b = none) (hk : ∀ b o, K.lookup b = some o → H b = none) (hf : ∀ b u, H b = some u → ∃ o xs, u = .frz o (.lst xs)) (hok : HOk P w H s1.heap) (hr : Room k callerA)
    (F : ∀ base : Heap, K.In base → base.Ns mainGlobals mg → FnG P w K mg base k fa fd [x] (spR K mg false 1 g)) (hbind : ∀ (s : Shared) (u : Value), BindsTo s fd ⟨[u], []⟩ [(x, u)])
    (hS : ScL K H a (ns.map V.int)) (hl : ns.length ≤ sizeLine) (hg : g [.scr ns] = .ok (.bl true)) :
    codeAny (model P w) callerA (.call (.ref fa) ⟨[.ref a], []⟩) (fun r s' => r = .ok (.ret (.bool true)) ∧ OldK s1.heap s'.heap ∧ s'.os = s1.os ∧ AllBare s'.gens) s1 := by
  have hM := mod_hid (H := H) KX hns hb hbb hlim hd hk
  have e0 : Env0 P w K mg (hidT s1.heap H) callerA [] s1 H := ⟨rfl, hM, fun b o e => of_hidT e, Nat.le_of_eq (hidT_size _ _), trivial, fun b hb => absurd (show b ∈ ([] : List Addr) from hb) (by simp), hok, .of_eq hgn⟩
  have hsp : spR K mg false 1 g [.ref a] H (fun v _ => v = .bl true) (fun _ _ _ => False) := by
    refine ⟨rfl, H, [.scr ns], .refl H, ⟨_, _, rfl, ⟨hl, a, rfl, hS⟩, rfl⟩, ?_⟩
    rw [hg]
    exact fun v Hf' H' _ e => e
  refine codeAny_mono ((F _ hM.kin hM.glob).run callerA [] s1 H ⟨[.ref a], []⟩ [.ref a] [.ref a] _ _ rfl hr e0 (hbind s1 (.ref a)) (.cons rfl .nil) hsp) fun r s' h => ?_
  cases r with
  | error e =>
    exact (cxm_false (show CXm P w mg [] H s1 (fun _ _ _ => False) e s' from h)).elim
  | ok fl =>
    cases fl with
    | next => exact False.elim h
    | brk => exact False.elim h
    | cont => exact False.elim h
    | ret u =>
      obtain ⟨v, H', os, bare, un, hok', r', q⟩ := h
      have q' : v = .bl true := q
      subst q'
      obtain rfl : u = Value.bool true := r'
      refine ⟨rfl, OldK.of_keep fun b o e => ?_, os, bare⟩
      cases q : H b with
      | none => exact un.keep b o e q (by intro z; exact absurd (show b ∈ ([] : List Addr) from z) (by simp)) (by simp)
      | some u =>
        obtain ⟨ob, xs, rfl⟩ := hf b u q
        have z2 := un.frzs b ob _ q
        obtain ⟨e1, _⟩ := hok b _ q
        obtain ⟨e2, _⟩ := hok' b _ z2
        rw [e] at e1; cases e1
        exact e2
def scrH (a : Addr) (o : Obj) (xs : List V) : Hp := fun b => if b = a then some (.frz o (.lst xs)) else none
theorem scrH_at {a : Addr} {o : Obj} {xs : List V} : scrH a o xs a = some (.frz o (.lst xs)) := if_pos rfl
theorem scrH_ne {a b : Addr} {o : Obj} {xs : List V} (h : b ≠ a) : scrH a o xs b = none := if_neg h
theorem scrH_inv {a b : Addr} {o : Obj} {xs : List V} {u : HO} (h : scrH a o xs b = some u) : b = a ∧ u = .frz o (.lst xs) := by
  by_cases q : b = a
  · subst q
    rw [scrH_at] at h
    exact ⟨rfl, (Option.some.inj h).symm⟩
  · rw [scrH_ne q] at h
    cases h
theorem law_callG (KX : K.In s1.heap) (hns : s1.heap.Ns mainGlobals mg) (hb : s1.heap.Ns builtinsNs mb) (hbb : ∀ x : Str, x ≠ "__name__" → mb x = bootBuiltins x) (hlim : s1.heap.NoLimit) (hgn : s1.gens = #[])
    (ha : s1.heap.get? a = some { cls := .type "list", data := .seq vs.toArray }) (hi : IntsAre vs ns) (hl : ns.length ≤ sizeLine) (hr : Room k callerA)
    (F : ∀ base : Heap, K.In base → base.Ns mainGlobals mg → FnG P w K mg base k fa fd [x] (spR K mg false 1 g)) (hbind : ∀ (s : Shared) (u : Value), BindsTo s fd ⟨[u], []⟩ [(x, u)]) (hg : g [.scr ns] = .ok (.bl true)) :
    codeAny (model P w) callerA (.call (.ref fa) ⟨[.ref a], []⟩) (fun r s' => r = .ok (.ret (.bool true)) ∧ OldK s1.heap s'.heap ∧ s'.os = s1.os ∧ AllBare s'.gens) s1 := by
  have rv := vals_ints hi
  cases hk : K.lookup a with
  | some o =>
    have e := KX a o hk
    rw [ha] at e
    cases e
    refine call_at (H := fun _ => none) KX hns hb hbb hlim hgn (fun _ _ _ _ _ _ => rfl) (fun _ _ _ => rfl) (fun b u z => nomatch z) (fun b u z => nomatch z) hr F hbind (.inr ⟨_, vs.toArray, _, hk, rfl, rfl, rfl, ?_, by simpa using rv⟩) hl hg
    rw [List.size_toArray, hi.length]
    exact hl
  | none =>
    refine call_at (H := scrH a { cls := .type "list", data := .seq vs.toArray } (ns.map V.int)) KX hns hb hbb hlim hgn (fun b o es ep e d => ?_) (fun b o e => ?_) (fun b u z => ⟨_, _, (scrH_inv z).2⟩) (fun b u z => ?_) hr F hbind (.inl ⟨_, scrH_at⟩) hl hg
    · refine scrH_ne fun q => ?_
      subst q
      rw [ha] at e; cases e
      have d' : Data.seq vs.toArray _ = Data.dict es ep := d
      cases d'
    · refine scrH_ne fun q => ?_
      subst q
      rw [hk] at e; cases e
    · obtain ⟨rfl, rfl⟩ := scrH_inv z
      exact ⟨ha, by rw [List.length_map]; exact hl, vs, _, rv, ha⟩
end
end DL
namespace DL
open PySem L2
section
variable {X : Cx} {tg l : Expr} {tl : TE}
section
variable {X : Cx} {tg l : Expr} {tl : TE}
/-- an iterator over a list or a tuple is made -/
theorem iter_sq {tg : Expr} {pins : List (Addr × Obj)} {σ : L2.St} {H1 : Hp} {s1 : Shared} {R : It → Hp → Prop} {a : Addr} (I : L2.Inv X pins σ H1 s1) (hq : ((∃ xs, SqL X.K H1 a xs) ∧ R (Itl X.K a) H1) ∨ ((∃ xs, SqT X.K H1 a xs) ∧ R (Itt X.K a) H1)) :
    wpAny (model X.prog X.w) X.A (pyIter (.ref a)) (PIE X pins σ tg R) X.xe s1 :=
  hq.elim (fun ⟨⟨_, is⟩, q⟩ => let ⟨_, _, lies, _⟩ := I.list is
      wpAny_pyIter_list lies.isList (pi_one (tk := s1.toks) I _ (turn_list a _) ⟨_, Heap.get?_push_size _ rfl, rfl, rfl⟩ q))
    fun ⟨⟨_, is⟩, q⟩ => let ⟨its, _, lies, _⟩ := I.tuple is
      wpAny_pyIter_tuple (show s1.heap.IsTuple a its.toArray from lies) (pi_one (tk := s1.toks) I _ (turn_tuple a _) ⟨_, Heap.get?_push_size _ rfl, rfl, rfl⟩ q)
end
section
variable {X : Cx} {tg l : Expr} {tl : TE}
/-- a list, a tuple or a text is walked -/
theorem iter_any {pins : List (Addr × Obj)} {σ : L2.St} {H1 : Hp} {s1 : Shared} {R : It → Hp → Prop} {x : V} {v : Value} (I : L2.Inv X pins σ H1 s1) (rel : RelV x v)
    (h : (∃ z : Str, x = .str z ∧ R (Its z) H1) ∨ ∃ a, x = .ref a ∧ (((∃ xs, SqL X.K H1 a xs) ∧ R (Itl X.K a) H1) ∨ ((∃ xs, SqT X.K H1 a xs) ∧ R (Itt X.K a) H1))) :
    wpAny (model X.prog X.w) X.A (pyIter v) (PIE X pins σ tg R) X.xe s1 := by
  rcases h with ⟨z, rfl, q⟩ | ⟨a, rfl, q⟩
  · obtain ⟨t, rfl⟩ := rel
    by_cases narrow : z.cps.all (· < 128) = true
    · exact wpAny_pyIter_ascii narrow (pi_one (tk := s1.toks) I _ (turn_str _ z t "str_ascii_iterator" (.inl rfl)) ⟨_, Heap.get?_push_size _ rfl, rfl, rfl⟩ q)
    · exact wpAny_pyIter_wide (Bool.eq_false_iff.mpr narrow) (pi_one (tk := s1.toks) I _ (turn_str _ z t "str_iterator" (.inr rfl)) ⟨_, Heap.get?_push_size _ rfl, rfl, rfl⟩ q)
  · cases rel
    exact iter_sq I q
theorem pi_any (hl : PE X l tl) : PI X tg l (fun σ H R => tl σ H fun x H1 => (∃ z : Str, x = .str z ∧ R (Its z) H1) ∨ ∃ a, x = .ref a ∧ (((∃ xs, SqL X.K H1 a xs) ∧ R (Itl X.K a) H1) ∨ ((∃ xs, SqT X.K H1 a xs) ∧ R (Itt X.K a) H1))) where
  run pins s σ H R I h := wpAny_mono (hl.run pins s σ H _ I h) (fun v s1 ⟨x, H1, I1, rel, q⟩ => iter_any I1 rel q) fun _ _ z => z
end
end
section
variable {X : Cx} {fx : Fx} {m : Type → Type} [Mo m] {G : List Sl} {tg l c a b : Expr} {x y : m D} {t : m Bool} {pos : Pos} {kk : Nat}
def itD : D → Option (List D)
  | .lst ds => some ds
  | .tup ds => some ds
  | .str s => some (chrs s)
  | .scr is => some (is.map .int)
  | _ => none
theorem yl_scr {K : PySem.W.Frag} {mg : Str → Option Value} {Hf : Hp} {is : List Int} {a : Addr} (hz : is.length ≤ sizeLine) (h : SqL K Hf a (is.map V.int)) : Yl K mg (Itl K a) Hf (is.map .int) := ⟨by simpa using hz, fun Hf2 H s1 s2 i => by
  have hq : SqL K H a (is.map V.int) := s2.sql (s1.sql h)
  have l : IsL K mg Hf (is.map .int) (is.map V.int) := isL_ints is
  refine ⟨fun d hd => ?_, fun hl => ⟨_, hq, by rw [← l.len]; exact hl⟩⟩
  obtain ⟨v, hv, iv⟩ := l.get hd
  exact ⟨⟨_, v, hq, hv⟩, fun x H' ⟨e, f⟩ => by
    subst e
    have := f _ hq
    rw [hv] at this
    cases this
    exact ⟨Hf2, .refl s2, iv.mono s1⟩⟩⟩
theorem di_any (h : PE X l (tE X.K X.mg fx G x)) : PI X tg l (tI X.K X.mg fx G (do let d ← x; ask (itD d))) := piI (pi_any h) fun σ H Q ⟨Hf, s, h⟩ =>
  (h.bind.mono fun v H1 ⟨d, Hf1, s1, sb, r, h1⟩ => by
    obtain ⟨ds, e, q⟩ := h1.ask
    cases d with
    | lst es =>
      cases e
      obtain ⟨hz, a, vs, rfl, t, il⟩ := r
      exact .inr ⟨a, rfl, .inl ⟨⟨vs, .inl (.inl (h1.1.top _ _ t))⟩, q _ Hf1 H1 (.refl h1.1.top) (yl_list hz t il)⟩⟩
    | tup es =>
      cases e
      obtain ⟨hz, a, vs, rfl, t, il⟩ := r
      exact .inr ⟨a, rfl, .inr ⟨⟨vs, h1.1.top.sqt t⟩, q _ Hf1 H1 (.refl h1.1.top) (yl_tup hz t il)⟩⟩
    | str z =>
      cases e
      exact .inl ⟨_, r.1, q _ Hf1 H1 (.refl h1.1.top) (yl_str z r.2)⟩
    | scr is =>
      cases e
      obtain ⟨hz, a, rfl, t⟩ := r
      exact .inr ⟨a, rfl, .inl ⟨⟨_, h1.1.top.sql t.sq⟩, q _ Hf1 H1 (.refl h1.1.top) (yl_scr hz t.sq)⟩⟩
    | _ => cases e).to
mutual
def imm : D → Bool
  | .non => true
  | .bl _ => true
  | .int _ => true
  | .str _ => true
  | .tup ds => immL ds
  | .ins _ _ ds => immL ds
  | _ => false
def immL : List D → Bool
  | [] => true
  | d :: ds => imm d && immL ds
end
def flatD (d : D) : Option D := if imm d = true then some d else none
section
variable {K : PySem.W.Frag} {mg : Str → Option Value} {H H' : Hp}
theorem Rd.off {a : Addr} {u : HO} (hh : ∀ a, H' a = H a ∨ ∃ vs, H a = some (.lst vs)) (h : Rd H a u) (hu : ∀ vs, u ≠ .lst vs) : Rd H' a u := by
  rcases h with h | ⟨o, h⟩
  · rcases hh a with e | ⟨vs, e⟩
    · exact .inl (e.trans h)
    · rw [h] at e; cases e; exact absurd rfl (hu vs)
  · rcases hh a with e | ⟨vs, e⟩
    · exact .inr ⟨o, e.trans h⟩
    · rw [h] at e; cases e
mutual
theorem Is.off (hh : ∀ a, H' a = H a ∨ ∃ vs, H a = some (.lst vs)) : ∀ {d : D} {v : V}, imm d = true → Is K mg H d v → Is K mg H' d v
  | .non, _, _, h => h
  | .bl _, _, _, h => h
  | .int _, _, _, h => h
  | .str _, _, _, h => h
  | .tup ds, _, m, h => by
    obtain ⟨z, a, vs, e, t, l⟩ := h
    refine ⟨z, a, vs, e, ?_, IsL.off hh (ds := ds) (by simpa [imm] using m) l⟩
    rcases t with t | t
    · exact .inl (Rd.off hh t fun vs z => by cases z)
    · exact .inr t
  | .ins c ns ds, _, m, h => by
    obtain ⟨a, C, dx, vs, e, q, t, n, l⟩ := h
    refine ⟨a, C, dx, vs, e, q, ?_, n, IsL.off hh (ds := ds) (by simpa [imm] using m) l⟩
    rcases hh a with z | ⟨us, z⟩
    · exact z.trans t
    · rw [t] at z; cases z
  | .lst _, _, m, _ => by simp [imm] at m
  | .dic _ _, _, m, _ => by simp [imm] at m
  | .scr _, _, m, _ => by simp [imm] at m
  | .xc _ _ _ _, _, m, _ => by simp [imm] at m
theorem IsL.off (hh : ∀ a, H' a = H a ∨ ∃ vs, H a = some (.lst vs)) : ∀ {ds : List D} {vs : List V}, immL ds = true → IsL K mg H ds vs → IsL K mg H' ds vs
  | [], _, _, h => h
  | d :: ds, vs, m, h => by
    have m' : imm d = true ∧ immL ds = true := by simpa [immL] using m
    obtain ⟨v, r, e, i, l⟩ := h
    exact ⟨v, r, e, Is.off hh m'.1 i, IsL.off hh m'.2 l⟩
end
end
open Classical in
noncomputable def offH (Hf Hf2 : Hp) : Hp := fun a => if ∃ vs, Hf2 a = some (.lst vs) then Hf a else Hf2 a
theorem offH_or {Hf Hf2 : Hp} (a : Addr) : offH Hf Hf2 a = Hf2 a ∨ ∃ vs, Hf2 a = some (.lst vs) := by
  by_cases c : ∃ vs, Hf2 a = some (.lst vs)
  · exact .inr c
  · exact .inl (if_neg c)
theorem Ste.off {bag : List Addr} {Hf Hf1 H Hf2 H2 : Hp} (sb : Sub Hf Hf1) (nw : ∀ a o, Hf1 a = some o → Hf a = some o ∨ ∃ vs, o = .lst vs) (e : Ste bag Hf1 H Hf2 H2) : Ste bag Hf H (offH Hf Hf2) H2 := by
  have s2 : Sub Hf Hf2 := sb.trans e.sub
  refine ⟨fun a o z => ?_, fun a o z => ?_, e.keep, e.dom, fun a o z => ?_⟩
  · unfold offH
    by_cases c : ∃ vs, Hf2 a = some (.lst vs)
    · rw [if_pos c]; exact z
    · rw [if_neg c]; exact s2 a o z
  · unfold offH at z
    by_cases c : ∃ vs, Hf2 a = some (.lst vs)
    · rw [if_pos c] at z; exact e.top a o (s2 a o z)
    · rw [if_neg c] at z; exact e.top a o z
  · unfold offH at z
    by_cases c : ∃ vs, Hf2 a = some (.lst vs)
    · rw [if_pos c] at z; exact .inl z
    · rw [if_neg c] at z
      rcases e.fresh a o z with h | h
      · rcases nw a o h with h | ⟨vs, h⟩
        · exact .inl h
        · exact absurd ⟨vs, h ▸ z⟩ c
      · exact .inr h
theorem de_thaw {e : Expr} {ds : List D} (i : Nat) (h : PE X e (tE X.K X.mg fx (G.set i (.im (.lst ds))) x)) (hG : G[i]? = some (.ow ds) := by rfl) : PE X e (tE X.K X.mg fx G (do let d ← Mo.noex x; ask (flatD d))) := peI h fun σ H Q ⟨Hf, s, st, w⟩ => by
  obtain ⟨Hf', sb, nw, st'⟩ := st.freeze2 hG
  refine ⟨Hf', s, st', Mo.wp_mono (Mo.wp_noex (Mo.wp_bind w)) (fun a s' k b Hf2 H2 e bg r => ?_) fun _ _ f => f.elim⟩
  have k' := Mo.wp_lift k
  unfold flatD at k'
  by_cases q : imm a = true
  · rw [if_pos q] at k'
    exact k' b (offH Hf Hf2) H2 (e.off sb nw) bg (r.off offH_or q)
  · rw [if_neg q] at k'; exact k'.elim
def negD : D → Option D
  | .int i => some (.int (-i))
  | _ => none
end
section
variable {X : Cx} {fx : Fx} {m : Type → Type} [Mo m] {G : List Sl} {α β : Type} {kk : Nat} {a b : Expr} {rest : List Stmt} {ex : α → List Sl} {exb : β → List Sl} {pos px py pt pt2 : Pos} {n1 n2 : Str} {kt k2 : Nat}
theorem dss_parFF {x y : m (List D)} {k : List D → List D → m (Fl α β)} (C : Cok X fx kk) (i j : Nat) (ha : PE X a (tF X.K X.mg fx G x)) (hb : PE X b (tF X.K X.mg fx G y)) (hr : ∀ ds es, PSs X rest (tS X.K X.mg fx ((G.set i (.ow ds)).set j (.ow es)) ex exb (k ds es)))
    (hij : i ≠ j := by decide) (hi : X.N[i]? = some n1 := by rfl) (hj : X.N[j]? = some n2 := by rfl) (hx : X.env.scope.names.lookup n1 = some .local := by rfl) (hy : X.env.scope.names.lookup n2 = some .local := by rfl)
    (hw : swappedStores [.Tuple [.Name n1 px, .Name n2 py] kt pt] (.Tuple [a, b] k2 pt2) X.env = pure (some [n1, n2]) := by rfl)
    (hs : swapsWithSole [.Tuple [.Name n1 px, .Name n2 py] kt pt] (.Tuple [a, b] k2 pt2) pos.line X.env = pure false := by rfl)
    (hsa : starEach [a, b] X.env = (false, eval a X.env) :: starEach [b] X.env := by rfl) (hsb : starEach [b] X.env = (false, eval b X.env) :: starEach [] X.env := by rfl) (hg : GxOk fx G := by first | exact True.intro | repeat' (first | exact True.intro | exact Or.inl rfl | exact Or.inr rfl | refine And.intro ?_ ?_)) :
    PSs X (.Assign [.Tuple [.Name n1 px, .Name n2 py] kt pt] (.Tuple [a, b] k2 pt2) pos :: rest) (tS X.K X.mg fx G ex exb (do let ds ← x; let es ← y; k ds es)) :=
  pssI (pss_cons (ps_par C.calm C.nd hi hj hij hx hy (pa_cons ha (pa_cons hb pa_nil hsb) hsa) hw hs) (pss_ex (ι := List D × List D) fun r => hr r.1 r.2)) fun D σ H ⟨Hf, s, h⟩ =>
  ⟨Hf, s, h.1, Mo.wp_mono (Mo.wp_bind h.2) (fun ds s1 w p vs Hf1 H1 e bg hp hf1 hn l hz => by
    have st1 := h.1.step e bg
    have n0 := h.1.new0 hn
    refine ⟨Hf1, s1, st1, Mo.wp_mono (Mo.wp_bind w) (fun es s2 w2 p2 vs2 Hf2 H2 e2 bg2 hp2 hf2 hn2 l2 hz2 => ?_) fun e s' k => exs_ex hg k⟩
    have st2 := st1.step e2 bg2
    have n2 := st1.new0 hn2
    have hpp : H2 p = some (.lst vs) := e2.keep _ _ hp n0.2.1
    have hff : Hf2 p = none := e2.stayNone hf1 (by rw [hp]; simp)
    have ne : p ≠ p2 := fun z => by rw [z, hn2] at hp; cases hp
    have st3 := st2.setOw (i := i) (fun j q e1 x ex ox z => h.1.owNe hn j q e1 x ex ox z) hpp hff n0.1 n0.2.1 (l.mono e2.sub) hz
    refine ⟨.ref p, .ref p2, rfl, (ds, es), Hf2, s2, st3.setOw (i := j) (fun j' q e1 x ex ox z => ?_) hp2 hf2 n2.1 n2.2.1 l2 hz2, Mo.wp_mono w2 (fun f s2 h2 => h2.up (e.sub.trans e2.sub)) fun e s' k => k⟩
    by_cases c : i = j'
    · subst c
      have hi' : i < σ.length := by
        have := (List.getElem?_eq_some_iff.mp ex).1
        rw [h.1.len]
        simpa using this
      rw [List.getElem?_set_self hi'] at e1
      cases e1
      exact ne z
    · rw [List.getElem?_set_ne c] at e1 ex
      exact st1.owNe hn2 j' q e1 x ex ox z) fun e s' k => exs_ex hg k⟩
theorem dss_parEE {x y : m D} {k : D → D → m (Fl α β)} (C : Cok X fx kk) (i j : Nat) (ha : PE X a (tE X.K X.mg fx G x)) (hb : PE X b (tE X.K X.mg fx G y)) (hr : ∀ d e, PSs X rest (tS X.K X.mg fx ((G.set i (.im d)).set j (.im e)) ex exb (k d e)))
    (hij : i ≠ j := by decide) (hi : X.N[i]? = some n1 := by rfl) (hj : X.N[j]? = some n2 := by rfl) (hx : X.env.scope.names.lookup n1 = some .local := by rfl) (hy : X.env.scope.names.lookup n2 = some .local := by rfl)
    (hw : swappedStores [.Tuple [.Name n1 px, .Name n2 py] kt pt] (.Tuple [a, b] k2 pt2) X.env = pure (some [n1, n2]) := by rfl)
    (hs : swapsWithSole [.Tuple [.Name n1 px, .Name n2 py] kt pt] (.Tuple [a, b] k2 pt2) pos.line X.env = pure false := by rfl)
    (hsa : starEach [a, b] X.env = (false, eval a X.env) :: starEach [b] X.env := by rfl) (hsb : starEach [b] X.env = (false, eval b X.env) :: starEach [] X.env := by rfl) (hg : GxOk fx G := by first | exact True.intro | repeat' (first | exact True.intro | exact Or.inl rfl | exact Or.inr rfl | refine And.intro ?_ ?_)) :
    PSs X (.Assign [.Tuple [.Name n1 px, .Name n2 py] kt pt] (.Tuple [a, b] k2 pt2) pos :: rest) (tS X.K X.mg fx G ex exb (do let d ← x; let e ← y; k d e)) :=
  pssI (pss_cons (ps_par C.calm C.nd hi hj hij hx hy (pa_cons ha (pa_cons hb pa_nil hsb) hsa) hw hs) (pss_ex (ι := D × D) fun r => hr r.1 r.2)) fun De σ H ⟨Hf, s, h⟩ =>
    ((h.bind hg).mono fun v H1 ⟨d, Hf1, s1, sb, r, h1⟩ => ((h1.bind hg).mono fun v2 H2 ⟨e, Hf2, s2, sb2, r2, h2⟩ => ⟨v, v2, rfl, (d, e), Hf2, s2, (h2.1.set (r.mono sb2)).set r2, h2.2⟩).to).to
end
end DL
namespace DL
open PySem L2
theorem hu65 {k : Nat} {A : Around} (r : Room k A) : A.units + 65 < cLine := by have := r.un; omega
def GlobIs (K : PySem.W.Frag) (mg : Str → Option Value) (n : Str) (d : D) : Prop := ∃ u v, mg n = some u ∧ RelV v u ∧ Is K mg (fun _ => none) d v
theorem de_globI {X : Cx} {fx : Fx} {m : Type → Type} [Mo m] {G : List Sl} {n : Str} {d : D} {pos : Pos} (hg : Gl X n) (h : GlobIs X.K X.mg n d) (hd : (n == ("__debug__" : Str)) = false := by decide) : PE X (.Name n pos) (tE X.K X.mg fx G (pure d : m D)) := by
  obtain ⟨u, v, hm, r, i⟩ := h
  exact de_glob hg hm r i hd
theorem globS {K : PySem.W.Frag} {mg : Str → Option Value} {n : Str} {t : Str} {tk : Tok} {l : List Nat} (h : mg n = some (.str t tk)) (ht : t = ⟨l.toArray⟩) (hl : l.length ≤ 1000) : GlobIs K mg n (.str l) :=
  ⟨_, .str t, h, ⟨tk, rfl⟩, by rw [Is]; exact ⟨by rw [ht], Nat.le_of_lt (small1000 hl)⟩⟩
theorem globI {K : PySem.W.Frag} {mg : Str → Option Value} {n : Str} {i : Int} {tk : Tok} (h : mg n = some (.int i tk)) : GlobIs K mg n (.int i) := ⟨_, .int i, h, ⟨tk, rfl⟩, is_int _⟩
section
variable {X : Cx}
def powC : D → D → Option D
  | .int i, .int j => if 0 ≤ j ∧ j ≤ 100 ∧ i.natAbs < 2 ^ 64 then some (.int (i ^ j.toNat)) else none
  | _, _ => none
theorem od_powC : OpR X (binaryOp .Pow) (rD2 X.K X.mg powC) := by
  intro pins s σ H x y v u Q I rx ry h
  obtain ⟨Hf, dx, dy, d, sb, ix, iy, e, q⟩ := h
  unfold powC at e
  split at e
  · split at e
    · rename_i hc
      cases e; cases ix; cases iy
      exact op_pow pins s σ H _ _ v u Q I rx ry ⟨_, _, rfl, rfl, ⟨hc.1, by omega, hc.2.2⟩, q _ Hf H (.refl sb) (is_int _)⟩
    · cases e
  · cases e
end
def apR1 (f : D → R D) : List D → R D
  | [a] => f a
  | _ => .stuck
def apR2 (f : D → D → R D) : List D → R D
  | [a, b] => f a b
  | _ => .stuck
def apR3 (f : D → D → D → R D) : List D → R D
  | [a, b, c] => f a b c
  | _ => .stuck
def apR4 (f : D → D → D → D → R D) : List D → R D
  | [a, b, c, d] => f a b c d
  | _ => .stuck
def apM1 (f : D → M D) : List D → M D
  | [a] => f a
  | _ => fun _ => .stuck
def apM2 (f : D → D → M D) : List D → M D
  | [a, b] => f a b
  | _ => fun _ => .stuck
theorem apR1_len (f) : ∀ ds : List D, apR1 f ds ≠ .stuck → ds.length = 1 := fun ds h => by
  unfold apR1 at h
  split at h <;> first | rfl | exact absurd rfl h
theorem apR2_len (f) : ∀ ds : List D, apR2 f ds ≠ .stuck → ds.length = 2 := fun ds h => by
  unfold apR2 at h
  split at h <;> first | rfl | exact absurd rfl h
theorem apM1_len (f) : ∀ (ds : List D) s, apM1 f ds s ≠ .stuck → ds.length = 1 := fun ds s h => by
  rcases ds with _ | ⟨a, ds⟩
  · exact absurd rfl h
  · rcases ds with _ | ⟨_, ds⟩
    · rfl
    · exact absurd rfl h
theorem apM2_len (f) : ∀ (ds : List D) s, apM2 f ds s ≠ .stuck → ds.length = 2 := fun ds s h => by
  rcases ds with _ | ⟨a, ds⟩
  · exact absurd rfl h
  · rcases ds with _ | ⟨_, ds⟩
    · exact absurd rfl h
    · rcases ds with _ | ⟨_, ds⟩
      · rfl
      · exact absurd rfl h
end DL
namespace PySem
namespace OwnX
open PySem.W PySem.Calls PyProof.Rows PySem.HandSPX Builtin Builtin.ObjectAttr
theorem XB.base : ∀ b : XB, ExcBaseFacts b.nm b.nw b.it b.tail
  | .ve => F.excBase_ValueError
  | .le => F.excBase_LookupError
  | .oe => F.excBase_OverflowError
  | .re => F.excBase_RuntimeError
theorem XB.pass : ∀ (b : XB) (self : Value), refuseLoop self "__setattr__" b.tail = pure ()
  | .ve, self => F.store_ValueError.passes self
  | .le, self => F.store_LookupError.passes self
  | .oe, self => F.store_OverflowError.passes self
  | .re, self => F.store_RuntimeError.passes self
theorem overB_ind {b : XB} {P : List Value → Prop} (h0 : P b.tail) (h1 : ∀ c r, P r → P (.ref c :: r)) : ∀ l, overB b l = true → P l := by
  intro l
  induction l with
  | nil => intro e; rw [beq_iff_eq.mp (show (([] : List Value) == b.tail) = true from e)]; exact h0
  | cons a r ih =>
    cases a with
    | ref c => exact fun e => h1 c r (ih e)
    | _ => intro e; rw [beq_iff_eq.mp (show (_ == b.tail) = true from e)]; exact h0
theorem overB_pass {b : XB} (self : Value) (l : List Value) (h : overB b l = true) : refuseLoop self "__setattr__" l = pure () :=
  overB_ind (P := fun l => refuseLoop self "__setattr__" l = pure ()) (b.pass self) (fun c r q => by rw [refuseLoop_ref]; exact q) l h
theorem overB_has {b : XB} (X : String) (l : List Value) (h : overB b l = true) : l.contains (.type X) = b.tail.contains (.type X) :=
  overB_ind (P := fun l => l.contains (.type X) = b.tail.contains (.type X)) rfl (fun c r q => by rw [List.contains_cons, q]; rfl) l h
theorem overB_obj {b : XB} (l : List Value) (h : overB b l = true) : l.contains (.type "object") = true :=
  (overB_has "object" l h).trans (by cases b <;> decide +kernel)
theorem overB_ne {b : XB} (l : List Value) (h : overB b l = true) : l.isEmpty = false :=
  overB_ind (P := fun l => l.isEmpty = false) (by cases b <;> rfl) (fun _ _ _ => rfl) l h
theorem osaB {b : XB} {prog : Program} {w : World} {A : Around} {R : Result → Shared → Prop} {s : Shared} {K : Frag} {f : Str} {tk : Tok} {v : Value} {x C : Addr} {fv : Array Value} {cd : ClassData}
    (X : K.In s.heap) (hx : s.heap.get? x = some { cls := .ref C, data := .fields fv }) (hcd : clsIn K C = some cd) (hm : overB b cd.mro = true) (hh : cd.hasDict = true) (hn : findIn K (.ref C) f = some none)
    (fin : ∀ h' tk' dx, (∀ a o, a ≠ x → s.heap.get? a = some o → h'.get? a = some o) → s.heap.objs.size ≤ dx → dx ≠ x → h'.get? x = some { cls := .ref C, dict := some dx, data := .fields fv } →
      h'.Ns1 dx (fun y => if y = f then some v else none) → R (.ok (.ret .none)) { s with heap := h', toks := tk' }) :
    codeAny (model prog w) A (.call (.builtin "object.__setattr__") ⟨[.ref x, .str f tk, v], []⟩) R s := by
  obtain ⟨hp, g, dr, t, os⟩ := s
  have I : InstAt hp x { cls := .ref C, data := .fields fv } C none := ⟨hx, rfl, rfl, trivial⟩
  have lt : x < hp.objs.size := Heap.lt_size hx
  have io : Looks (model prog w) hp (isInstance (.ref x) (.type "object")) true :=
    I.type.andThen (looks_mroIn X (by unfold mroIn; rw [hcd, Option.bind_some, if_neg (by rw [overB_ne _ hm]; decide), overB_obj _ hm]))
  have SF := F.store_object
  refine codeAny_call_builtin SF.slot.plain SF.entry
    (@check_slot (model prog w) _ _ ⟨hp, g, dr, t, os⟩ "object.__setattr__" "object" "__setattr__" (.ref x) [.str f tk, v] [] _ SF.kind SF.split io (SF.args (.ref x) (.str f tk) v) ?_)
  have lm : Looks (model prog w) hp (mroOf (.ref C)) cd.mro := (looks_clsIn X hcd).andThen .now
  have ls : Looks (model prog w) hp (storeTaker? none) none := .now
  have lc : Looks (model prog w) hp (classData C) cd := looks_clsIn X hcd
  rw [osa_eq, refuse_eq]
  refine wpAny_bind (wpAny_bind (I.type.at (wpAny_bind (lm.at ?_))))
  rw [overB_pass _ _ hm]
  refine wpAny_pure (wpAny_bind (I.type.at (wpAny_bind ((looks_findIn X hn).at (wpAny_bind (ls.at ?_))))))
  show wpAny _ _ (storeInOwnDict (.ref x) (.ref C) (.str f tk) f v false) _ _ _
  cases cd with
  | mk nm bs mro ns qn hd sn sb ab col del =>
  cases (show hd = true from hh)
  unfold storeInOwnDict ownDictForStores
  repeat (first
    | with_reducible refine store_in_new ?_ ?_
    | with_reducible refine wpAny_loadPart_at hx ?_
    | with_reducible refine lc.at ?_
    | wp_step)
  · exact ⟨_, #[], _, (Heap.get?_update_ne _ _ _ _ (Nat.ne_of_gt lt)).trans (Heap.get?_push_at rfl rfl), rfl, fun e he => absurd he (by simp), fun _ => rfl⟩
  · intro h' tk' hn' hs
    have hx1 : (hp.push { cls := .type "dict", data := .dict #[] }).get? x = some { cls := .ref C, data := .fields fv } := Heap.get?_push_of_some _ hx
    refine fin h' tk' hp.objs.size (fun a o ha ho => ?_) (Nat.le_refl _) (Nat.ne_of_gt lt) ?_ hn'
    · rw [hs.2 a (Nat.ne_of_lt (Heap.lt_size ho)), Heap.get?_update_ne _ _ _ _ ha]
      exact Heap.get?_push_of_some _ ho
    · rw [hs.2 x (Nat.ne_of_lt lt)]
      exact Heap.get?_update_self _ hx1 rfl
end OwnX
end PySem
namespace PySem
namespace OwnX
open PySem.W PySem.Calls PyProof.Rows PySem.HandSPX
theorem lookup_s (f : Str) : (iS f).names.lookup ("self" : Str) = some .local := by
  show List.lookup ("self" : Str) [(PySem.Str.ofString "self", NameKind.local), (f, .local)] = _
  simp [List.lookup]
theorem lookup_f {f : Str} (h : (f == ("self" : Str)) = false) : (iS f).names.lookup f = some .local := by
  have h' : (f == PySem.Str.ofString "self") = false := h
  show List.lookup f [(PySem.Str.ofString "self", NameKind.local), (f, .local)] = _
  simp [List.lookup, h']
theorem kinds2 {f : Str} (h : (f == ("self" : Str)) = false) {u v : Value} : ([(("self" : Str), u), (f, v)].all fun y => (iS f).names.lookup y.1 == some .local || (iS f).names.lookup y.1 == some .cell) = true := by
  simp only [List.all_cons, List.all_nil, lookup_s, lookup_f h]
  rfl
theorem kind_f {f : Str} (h : (f == ("self" : Str)) = false) {name : Str} {L a : Addr} {cd : Value} : (envOfC name (iS f) L a cd).kindOf f = some .local := lookup_f h
theorem kind_s {f : Str} {name : Str} {L a : Addr} {cd : Value} : (envOfC name (iS f) L a cd).kindOf ("self" : Str) = some .local := lookup_s f
theorem binds2_f {f : Str} (h : (f == ("self" : Str)) = false) {name : Str} {L a : Addr} {cd u v : Value} : bindL (envOfC name (iS f) L a cd).kindOf [(("self" : Str), u), (f, v)] (fun _ => none) f = some v := by
  simp [bindL, kind_f h, kind_s]
theorem binds2_s {f : Str} (h : (f == ("self" : Str)) = false) {name : Str} {L a : Addr} {cd u v : Value} : bindL (envOfC name (iS f) L a cd).kindOf [(("self" : Str), u), (f, v)] (fun _ => none) ("self" : Str) = some u := by
  have hne : ¬ (("self" : Str) = f) := fun z => by rw [← z] at h; simp at h
  simp [bindL, kind_f h, kind_s, hne]
structure OwnTxt (K : Frag) (mg : Str → Option Value) (cn f qn : Str) (C fI : Addr) : Prop where
  fs : (f == ("self" : Str)) = false
  fb : (f == ("__debug__" : Str)) = false
  bind : ∀ (doc pm : Value) (an : Option Addr) (cdv ct u v : Value) (p1 p2 q1 q2 q3 q4 : Pos), bindArgs (fnOf "__init__" qn (iA f p1 p2) (iB f q1 q2 q3 q4) (iS f) .none .none doc pm an cdv ct) ⟨[u, v], []⟩ = pure [(("self" : Str), u), (f, v)]
  gC : mg cn = some (.ref C)
  cls : ∃ (b : XB) (nm q : Str) (N : Addr) (bs bm : List Value) (sn : List Str) (sub : List Value) (ab : Bool) (col : Option Bool) (dd : Option Addr) (k0 k1 k2 k3 k5 : Option Value), K.lookup C = some (excClassObj nm q C N bs bm true sn sub ab col dd k0 k1 k2 k3 k5 b.nw) ∧ overB b bm = true
  sa : findIn K (.ref C) "__setattr__" = some (some (.builtin "object.__setattr__"))
  ga : findIn K (.ref C) "__getattribute__" = some (some (.builtin "BaseException.__getattribute__"))
  gg : findIn K (.ref C) "__getattr__" = some none
  noN : findIn K (.ref C) f = some none
  iC : findIn K (.ref C) "__init__" = some (some (.ref fI))
  tC : typeIn K (.ref fI) = some (.type "function")
  kC : keepIn K (.ref C) = true
  exC : subIn K (.ref C) (.type "BaseException") = some true
  tyC : typeIn K (.ref C) = some (.type "type")
  hdC : hasDictIn K C = true
  te : exmOne K (.ref C) (.ref C) = some true
  fn : ∃ (oc : Value) (od : Option Addr) (doc pm : Value) (an : Option Addr) (cdv ct : Value) (osl : Array (Option Value)) (p1 p2 q1 q2 q3 q4 : Pos),
    K.lookup fI = some ⟨oc, od, .func (fnOf "__init__" qn (iA f p1 p2) (iB f q1 q2 q3 q4) (iS f) .none .none doc pm an cdv ct), osl⟩ ∧ codeIn K cdv qn = true
theorem one_size (v : Value) : [v].length ≤ sizeLine := by
  rw [sizeLine_eq]
  exact (by decide : 1 ≤ 16777216)
theorem ldC {M : Model} {s : Shared} {name : Str} {scope : Scope} {L a : Addr} {cd : Value} {m : Str → Option Value} {x : Str} {pos : Pos} {v : Value} {Q : Value → Shared → Prop} {A : Around} {E : Value → Shared → Prop} (hn : s.heap.Ns L m) (hv : m x = some v) (h : Q v s)
    (hk : scope.kind = .function := by rfl) (hl : (envOfC name scope L a cd).kindOf x = some .local := by rfl) (hd : (x == ("__debug__" : Str)) = false := by decide) :
    wpAny M A (eval (.Name x pos) (envOfC name scope L a cd)) Q E s := wpAny_Name (wpAny_loadName_local hk hl hn hv h) hd
structure InitEnd (f : Str) (h h' : Heap) (x C dx t1 : Addr) (v : Value) : Prop where
  keep : ∀ b o, b ≠ x → h.get? b = some o → h'.get? b = some o
  obj : h'.get? x = some { cls := .ref C, dict := some dx, data := .fields #[.ref t1, .none, .none, .none, .bool false, .none] }
  dbig : h.objs.size ≤ dx
  dne : dx ≠ x
  ns : h'.Ns1 dx (fun y => if y = f then some v else none)
structure OwnMade (f : Str) (h h' : Heap) (e C d : Addr) (v : Value) : Prop where
  keep : ∀ b o, h.get? b = some o → h'.get? b = some o
  new : h.objs.size ≤ e
  obj : ∃ oe vs, h'.get? e = some oe ∧ oe.cls = .ref C ∧ oe.dict = some d ∧ oe.data = .fields vs ∧ vs[1]? = some .none ∧ vs[2]? = some .none ∧ 4 < vs.size
  dbig : h.objs.size ≤ d
  dne : d ≠ e
  ns : h'.Ns1 d (fun y => if y = f then some v else none)
section
variable {prog : Program} {w : World} {A : Around} {E : Value → Shared → Prop} {R : Result → Shared → Prop} {s : Shared} {K : Frag} {mg : Str → Option Value} {cn f qn : Str} {C fI : Addr}
theorem low_init (T : OwnTxt K mg cn f qn C fI) {x t0 : Addr} {v : Value} (X : K.In s.heap) (hlim : s.heap.NoLimit) (hx : s.heap.get? x = some (excO C t0)) (hnx : K.lookup x = none) (hroom : A.depth < recursionLimit)
    (hq : ∀ h' tk dx, InitEnd f s.heap h' x C dx t0 v → R (.ok (.ret .none)) { s with heap := h', toks := tk }) :
    codeAny (model prog w) A (.call (.ref fI) ⟨[.ref x, v], []⟩) R s := by
  obtain ⟨oc, od, doc, pm, an, cdv, ct, osl, p1, p2, q1, q2, q3, q4, ho, hcd⟩ := T.fn
  obtain ⟨b, nm, q, N, bs, bm, sn, sub, ab, col, dd, k0, k1, k2, k3, k5, hC, hbm⟩ := T.cls
  have hcl : clsIn K C = some { name := nm, bases := bs, mro := .ref C :: bm, ns := N, qualname := q, hasDict := true, slotNames := sn, subclasses := sub, abstract := ab, collection := col, hasDel := false } := by unfold clsIn; rw [hC] <;> rfl
  refine Att.call_fn (binds := [(("self" : Str), .ref x), (f, v)]) X hlim ho hcd hroom (BindsTo.of_eq (T.bind ..)) (kinds2 T.fs) (fun s₁ IC => ?_) rfl rfl rfl
  obtain ⟨h₁, tk₁, rfl⟩ := IC.toInCall.same
  have k : ∀ b o, s.heap.get? b = some o → h₁.get? b = some o := IC.toInCall.keep
  have hn := IC.toInCall.ns
  have hxL : s.heap.objs.size ≠ x := Nat.ne_of_gt (Heap.lt_size hx)
  have X₁ : K.In h₁ := X.keeps k
  have hx₁ := k _ _ hx
  -- self.by = by
  show wpAny _ _ (execs _ _) _ _ _
  refine wpAny_execs_cons (plainObj_wpAny_Assign_Attribute ?_)
  refine ldC (v := v) hn (binds2_f T.fs) (ldC (v := .ref x) hn (binds2_s T.fs) ?_) rfl (kind_f T.fs) T.fb
  refine set_plain X₁ (ox := excO C t0) (od := none) ⟨hx₁, rfl, rfl, trivial⟩ T.sa ?_
  refine osaB (b := b) X₁ hx₁ hcl (show overB b (.ref C :: bm) = true from hbm) rfl T.noN (fun h₃ tk₃ dx k₃ dn dne hx₃ hn₃ => ?_)
  show wpAny _ _ (execs _ _) _ _ _
  have z : s.heap.objs.size < h₁.objs.size := hn.lt
  exact wpAny_execs_nil (hq h₃ tk₃ dx ⟨fun b o hb e => k₃ b o hb (k b o e), hx₃, Nat.le_of_lt (Nat.lt_of_lt_of_le z dn), dne, hn₃⟩)
theorem low_made (T : OwnTxt K mg cn f qn C fI) {v : Value} (X : K.In s.heap) (hlim : s.heap.NoLimit) (hroom : A.depth + 1 < recursionLimit)
    (hq : ∀ h' tk e d, OwnMade f s.heap h' e C d v → R (.ok (.ret (.ref e))) { s with heap := h', toks := tk }) :
    codeAny (model prog w) A (.call (.ref C) ⟨[v], []⟩) R s := by
  obtain ⟨b, nm, q, N, bs, bm, sn, sub, ab, col, dd, k0, k1, k2, k3, k5, hC, hbm⟩ := T.cls
  obtain ⟨hp, g, dr, tk, os⟩ := s
  have k : ∀ b o, hp.get? b = some o → ((hp.push (kdv_tup [v])).push (excO C hp.objs.size)).get? b = some o := fun b o e => Heap.get?_push_of_some _ (Heap.get?_push_of_some _ e)
  have hget : ((hp.push (kdv_tup [v])).push (excO C hp.objs.size)).get? (hp.objs.size + 1) = some (excO C hp.objs.size) := by heap_get
  have hnx : K.lookup (hp.objs.size + 1) = none := by
    cases e : K.lookup (hp.objs.size + 1) with
    | none => rfl
    | some o =>
      have z : hp.get? (hp.objs.size + 1) = some o := X _ _ e
      exact absurd (Nat.lt_of_succ_lt (Heap.lt_size z)) (Nat.lt_irrefl _)
  refine call_own b.base (fun X => overB_has X bm hbm) (X _ _ hC) (looks_findIn X T.iC) (fun self => bind_fn X self T.tC) (one_size v) ?_
  refine low_init (s := ⟨(hp.push (kdv_tup [v])).push (excO C hp.objs.size), g, dr, tk, os⟩) T (X.keeps k) (hlim.keeps k) hget hnx ?_ fun h' tk' dx ⟨k', hx, dn, dne, hns⟩ => ?_
  · show A.depth + 1 < recursionLimit
    exact hroom
  · have old : ∀ b o, hp.get? b = some o → h'.get? b = some o := fun b o e => k' b o (Nat.ne_of_lt (Nat.lt_succ_of_lt (Heap.lt_size e))) (k b o e)
    have z : hp.objs.size + 1 + 1 ≤ dx := by
      first
        | (simpa only [Heap.size_push] using dn)
        | exact dn
        | (have q := dn; rw [Heap.size_push, Heap.size_push] at q; exact q)
    exact ⟨rfl, hq h' tk' (hp.objs.size + 1) dx ⟨old, Nat.le_succ _, ⟨_, _, hx, rfl, rfl, rfl, rfl, rfl, (by decide : 4 < 6)⟩, Nat.le_trans (Nat.le_trans (Nat.le_succ _) (Nat.le_succ _)) z, dne, hns⟩⟩
end
end OwnX
end PySem
namespace L2
open PySem PySem.Spec PyProof.Rows
theorem relO_low {v : V} {v' : Value} (r : RelV v v') (g f : Str) : RelO (List.lookup f [(g, v)]) (if f = g then some v' else none) := by
  by_cases hw : f = g
  · subst hw
    rw [if_pos rfl]
    have q : List.lookup f [(f, v)] = some v := by simp [List.lookup]
    rw [q]
    exact r
  · rw [if_neg hw]
    have qw : (f == g) = false := by simpa using hw
    have q2 : List.lookup f [(g, v)] = none := by simp [List.lookup, qw]
    rw [q2]
    trivial
section
variable {X : Cx} {cn f qn : Str} {C fI : Addr}
def tMkLow (f : Str) (C : Addr) (ta : TA) : St → Hp → XK → Prop := fun σ H Q => ta σ H fun vs H1 => ∃ v, vs = [v] ∧ ∀ d, H1 d = none → Q (.ref C) (some d) (upd H1 d (.xd [(f, v)]))
theorem pmk_low {a : Expr} {ta : TA} {p pos : Pos} {k : Nat} (T : PySem.OwnX.OwnTxt X.K X.mg cn f qn C fI) (hr : Room k X.A) (ha : PA X [a] ta) (hdb : (cn == ("__debug__" : Str)) = false := by decide) (hg : Gl X cn := by rfl)
    (he : starEach (a :: []) X.env = (false, eval a X.env) :: starEach [] X.env := by rfl) (hpl : (backTo pos (starEach [] X.env)).any (·.1) = false := by rfl) :
    L2N.PMk X (.Call (.Name cn p) [a] [] pos) (tMkLow f C ta) := by
  intro pins s σ H Q I h
  refine wpAny_Call_Name_kw (ld_glob I hg T.gC ?_ (hd := hdb))
  refine PySem.W.callWith_K (h₀ := X.base) I.ok.mod.kin T.kC (thn (ha.run pos pins s σ H _ I h) fun us s1 hh => ?_) he hpl
  obtain ⟨vs, H1, I1, r1, v, ev, q1⟩ := hh
  subst ev
  refine ⟨I1.kIn, ?_⟩
  cases r1 with
  | cons rv rn =>
    rename_i v' us'
    cases rn
    show wpAny _ _ (call (.ref C) [v']) _ _ _
    have hlim := I1.nolimit
    obtain ⟨hp, g, dr, tk, os⟩ := s1
    refine wpAny_call (PySem.OwnX.low_made T I1.kIn hlim (by have := hr.dp; omega) fun h' tk' e d M => ?_)
    show L2N.MkP X pins σ Q (.ref e) ⟨h', g, dr, tk', os⟩
    obtain ⟨oe, fv, hoe, hc, hd, hdat, h1, h2, h4⟩ := M.obj
    have hns := M.ns
    obtain ⟨G', g1, g2⟩ := restrict h' fun b => decide (b ≠ e)
    have gk : ∀ b, b ≠ e → G'.get? b = h'.get? b := fun b hb => g1 b (decide_eq_true hb)
    have ge : G'.get? e = none := g2 e (by simp)
    have old : ∀ b o, hp.get? b = some o → G'.get? b = some o := fun b o q => (gk b (Nat.ne_of_lt (Nat.lt_of_lt_of_le (Heap.lt_size q) M.new))).trans (M.keep b o q)
    have ob : ObjOk X.prog X.w (upd H1 d (.xd [(f, v)])) G' d (.xd [(f, v)]) :=
      ⟨_, hns.at (fun o q => (gk d M.dne).trans q), fun f => relO_low rv _ f⟩
    have J : Inv X pins σ (upd H1 d (.xd [(f, v)])) ⟨G', g, dr, tk', os⟩ := I1.laid (t' := tk') old M.dbig ob
    refine ⟨e, oe, fv, ⟨G', g, dr, tk', os⟩, _, .ref C, some d, rfl, J, fun b o q => ?_, ge, hoe, ⟨hc, hd, fun vs z => by rw [hdat] at z; cases z; exact h2⟩, hdat, h1, ?_, rfl, I1.bare, raises_own T.exC T.tyC, q1 d (I1.hok.fresh M.dbig)⟩
    · by_cases hb : b = e
      · have q' : G'.get? b = some o := q
        rw [hb, ge] at q'; cases q'
      · exact (gk b hb).symm.trans q
    · rw [upd_ne (Ne.symm M.dne)]
      exact I1.hok.fresh M.new
def tRaiseLow (f : Str) (C : Addr) (W : WX) (ta : TA) : TS := fun _ σ H => tMkLow f C ta σ H fun cls d H' => W cls d σ H'
theorem ps_raiseLow {a : Expr} {ta : TA} {W : WX} {p pos pos2 : Pos} {k : Nat} (hc : X.calm = true) (T : PySem.OwnX.OwnTxt X.K X.mg cn f qn C fI) (hr : Room k X.A) (tk : L2N.Takes X W) (ha : PA X [a] ta) (hdb : (cn == ("__debug__" : Str)) = false := by decide) (hg : Gl X cn := by rfl)
    (he : starEach (a :: []) X.env = (false, eval a X.env) :: starEach [] X.env := by rfl) (hpl : (backTo pos (starEach [] X.env)).any (·.1) = false := by rfl) :
    PS X (.Raise (some (.Call (.Name cn p) [a] [] pos)) none pos2) (tRaiseLow f C W ta) := L2N.ps_raise hc tk (pmk_low T hr ha hdb hg he hpl)
end
end L2
namespace DL
open PySem PySem.Spec PyProof.Rows L2 HT
section
variable {prog : Program} {w : World} {A : Around} {E : Value → Shared → Prop} {s : Shared}
theorem applied_rev {sl : Addr} {t : Tok} {n : Nat} {Q : Int × Int × Nat → Shared → Prop} (hs : s.heap.IsSliceOf sl .none .none (.int (-1) t)) (h : Q ((n : Int) - 1, -1, n) s) : wpAny (model prog w) A (Builtin.Slice.sliceApplied (.ref sl) (pure (n : Int))) Q E s := by
  obtain ⟨os, hos, hcs, hds⟩ := id hs
  unfold Builtin.Slice.sliceApplied Builtin.Slice.sliceFields
  refine wpAny_bind (wpAny_bind (wpAny_field hos hds (x := .none) rfl (wpAny_bind (wpAny_field hos hds (x := .none) rfl (wpAny_bind (wpAny_field hos hds (x := .int (-1) t) rfl (wpAny_pure ?_)))))))
  refine wpAny_bind (slicePart_ (.int (-1) t) ?_)
  show wpAny _ _ (if ((-1 : Int) == 0) = true then _ else _) _ _ s
  rw [if_neg (by decide)]
  refine wpAny_bind (slicePart_ .none (wpAny_bind (slicePart_ .none (wpAny_bind (wpAny_pure ?_)))))
  have e1 : Builtin.Slice.sliceAdjust none none (-1) (n : Int) = ((n : Int) - 1, -1) := by
    unfold Builtin.Slice.sliceAdjust
    simp
  have e2 : Builtin.Slice.slicePlaces ((n : Int) - 1) (-1) (-1) = n := by
    unfold Builtin.Slice.slicePlaces
    simp
    omega
  show wpAny _ _ (match Builtin.Slice.sliceAdjust none none (-1) (n : Int) with | (lo, hi) => pure (lo, (-1 : Int), Builtin.Slice.slicePlaces lo hi (-1))) _ _ s
  rw [e1]
  show wpAny _ _ (pure ((n : Int) - 1, (-1 : Int), Builtin.Slice.slicePlaces ((n : Int) - 1) (-1) (-1))) _ _ s
  rw [e2]
  exact wpAny_pure h
theorem pick_rev_to (xs : Array Value) : ∀ k, k ≤ xs.size → (List.range k).filterMap (fun (m : Nat) => xs[(((xs.size : Int) - 1) + (m : Int) * (-1)).toNat]?) = xs.toList.reverse.take k
  | 0, _ => rfl
  | k + 1, h => by
    rw [List.range_succ, List.filterMap_append, pick_rev_to xs k (by omega), List.take_succ]
    congr 1
    have e : (((xs.size : Int) - 1) + (k : Int) * (-1)).toNat = xs.toList.length - 1 - k := by rw [Array.length_toList]; omega
    rw [List.getElem?_reverse (by rw [Array.length_toList]; omega)]
    simp only [List.filterMap_cons, List.filterMap_nil, e]
    rw [← Array.getElem?_toList]
    cases xs.toList[xs.toList.length - 1 - k]? <;> rfl
theorem pick_rev (xs : Array Value) : ((List.range xs.size).filterMap fun (m : Nat) => xs[(((xs.size : Int) - 1) + (m : Int) * (-1)).toNat]?).toArray = xs.toList.reverse.toArray := by
  rw [pick_rev_to xs xs.size (Nat.le_refl _), List.take_of_length_le (by simp)]
theorem getItem_tuple_rev {tp sl : Addr} {items : Array Value} {t : Tok} {Q : Value → Shared → Prop} (ht : IsTup s.heap tp items) (hs : s.heap.IsSliceOf sl .none .none (.int (-1) t))
    (h : Q (.ref s.heap.objs.size) { s with heap := s.heap.push { cls := .type "tuple", data := .seq items.toList.reverse.toArray } }) (hsz : items.size ≤ sizeLine) : wpAny (model prog w) A (getItem (.ref tp) (.ref sl)) Q E s := by
  have hk : sizeOk (.seq items.toList.reverse.toArray) := by
    show items.toList.reverse.toArray.size ≤ sizeLine
    rw [List.size_toArray, List.length_reverse, Array.length_toList]
    exact hsz
  obtain ⟨os, hos, hcs, hds⟩ := id hs
  have hTs : s.TypeIs (.ref sl) "slice" := ⟨os, hos, hcs⟩
  unfold getItem
  try with_reducible refine wpAny_holding ?_
  first | refine wpAny_bind (wpAny_pure ?_) | skip
  refine wpAny_bind (wpAny_sequenceKey ht.typeIs (by decide) ?_)
  refine wpAny_bind (wpAny_callSpecial?_slot (name := Str.ofString "__getitem__") ht.typeIs PyProof.Rows.slot_tuple_getitem
    (wpAny_call_entry PyProof.Rows.slot_tuple_getitem ht.typeIs entry_tuple_getitem ?_ (args_tuple_getitem _ _)))
  show wpAny _ _ (Builtin.Tuple.tupleItemsOf (.ref tp) >>= _) _ _ s
  refine wpAny_bind (tupleItemsOf_ ht ?_)
  refine wpAny_bind (wpAny_typeOf hTs ?_)
  rw [if_pos (by decide)]
  refine wpAny_bind (applied_rev hs ?_)
  have hno : ¬ ((((items.size : Int) - 1) == 0 && (-1 : Int) == 1 && items.size == items.size) = true) := by simp
  show wpAny _ _ (if ((((items.size : Int) - 1) == 0 && (-1 : Int) == 1 && items.size == items.size) = true) then _ else _) _ _ s
  rw [if_neg hno, pick_rev]
  first
    | exact wpAny_bind (m := Builtin.Tuple.tupleExact _) (wpAny_newObj_type (wpAny_pure ⟨_, rfl, wpAny_pure h⟩) hk)
    | exact wpAny_bind (m := Builtin.Tuple.tupleExact _) (wpAny_newObj_type (wpAny_bind (wpAny_pure (wpAny_pure ⟨_, rfl, wpAny_pure h⟩))) hk)
    | exact wpAny_bind (wpAny_bind (m := Builtin.Tuple.tupleExact _) (wpAny_newObj_type (wpAny_pure (wpAny_pure ⟨_, rfl, wpAny_pure h⟩)) hk))
    | exact wpAny_bind (wpAny_bind (m := Builtin.Tuple.tupleExact _) (wpAny_newObj_type (wpAny_pure ⟨_, rfl, wpAny_pure h⟩) hk))
end
section
variable {X : Cx}
section
variable {X : Cx}
/-- what reading a value backwards gives, by values; the slice object is made already and lies at sl -/
def BackR (X : Cx) (r : V → Hp → VK → Prop) : Prop :=
  ∀ {pins : List (Addr × Obj)} {s : Shared} {σ : L2.St} {H : Hp} {x : V} {v : Value} {sl : Addr} {t : Tok} {Q : VK}, L2.Inv X pins σ H s → RelV x v → s.heap.IsSliceOf sl .none .none (.int (-1) t) → r x H Q →
    ∃ (T : String) (id : String), s.TypeIs v T ∧ typeLookup (.type T) "__getitem__" = pure (some (.builtin id)) ∧ wpAny (model X.prog X.w) X.A (getItem v (.ref sl)) (EP X pins σ Q) X.xe s
/-- the slice object of [::-1] comes to lie somewhere, and nothing else is seen of it -/
theorem slice_back {k : Nat} {p1 p2 p3 : Pos} {pins : List (Addr × Obj)} {s : Shared} {σ : L2.St} {H : Hp} {Q : Value → Shared → Prop} (I : L2.Inv X pins σ H s)
    (h : ∀ (t : Tok) (sl : Addr) (s' : Shared), L2.Inv X pins σ H s' → s'.heap.IsSliceOf sl .none .none (.int (-1) t) → Q (.ref sl) s') :
    wpAny (model X.prog X.w) X.A (eval (.Slice none none (some (.UnaryOp .USub (.Constant (.int 1) k p1) p2)) p3) X.env) Q X.xe s := by
  apply wpAny_Slice
  simp only [evalPart_none, evalPart_some]
  have minus : PE X (.UnaryOp .USub (.Constant (.int 1) k p1) p2) _ := pe_un un_neg pe_int
  refine wpAny_pure (wpAny_pure (wpAny_mono (minus.run pins s σ H (fun x H' => x = .int (-1) ∧ H' = H) I ⟨1, rfl, rfl, rfl⟩) (fun v s' got => ?_) fun _ _ z => z))
  obtain ⟨x, H', I', rel, rfl, rfl⟩ := got
  obtain ⟨t, rfl⟩ := rel
  exact h t _ _ (I'.kept (t' := s'.toks) fun b o e => Heap.get?_push_of_some _ e) (Heap.IsSliceOf.new ..)
/-- e[::-1], by what reading its value backwards gives -/
theorem pe_back {e : Expr} {te : TE} {r : V → Hp → VK → Prop} {k : Nat} {p1 p2 p3 pos : Pos} (hr : BackR X r) (he : PE X e te) :
    PE X (.Subscript e (.Slice none none (some (.UnaryOp .USub (.Constant (.int 1) k p1) p2)) p3) pos) (fun σ H Q => te σ H fun x H1 => r x H1 Q) :=
  ⟨fun pins s σ H Q I h => Subscript_ (wpAny_mono (he.run pins s σ H _ I h) (fun v _ ⟨_, _, I1, rx, q⟩ => slice_back I1 fun _ sl _ I2 at_ =>
    let ⟨_, _, ty, lk, got⟩ := hr I2 rx at_ q
    tail_any (ops := [v, .ref sl]) ty lk got (by with_unfolding_all rfl)) fun _ _ z => z)⟩
def rBackL (K : PySem.W.Frag) : V → Hp → VK → Prop := fun x H Q => ∃ a xs, x = .ref a ∧ SqL K H a xs ∧ ∀ p, H p = none → Q (.ref p) (upd H p (.lst xs.reverse))
def rBackT (K : PySem.W.Frag) : V → Hp → VK → Prop := fun x H Q => ∃ a xs, x = .ref a ∧ SqT K H a xs ∧ ∀ p, H p = none → Q (.ref p) (upd H p (.tup xs.reverse))
theorem back_list : BackR X (rBackL X.K) := fun {pins s σ H x v sl t Q} I rx at_ got => by
  obtain ⟨a, xs, rfl, seq, q⟩ := got
  cases rx
  obtain ⟨its, vals, lies, le⟩ := I.list seq
  have le' : its.toArray.size ≤ sizeLine := by have := vals.length; rw [List.size_toArray]; omega
  refine ⟨"list", _, lies.isList.typeIs, PySem.slot_list_getitem.lookup, wpAny_getItem_list_slice lies.isList at_ .none .none (.int _ _) nofun ?_ le'⟩
  rw [PySem.W.krv_pick]
  exact ⟨.ref _, _, I.laid (t' := s.toks) (o := .lst xs.reverse) (fun b o e => Heap.get?_push_of_some _ e) (Nat.le_refl _) ⟨by rwa [List.length_reverse], _, 0, vals.reverse, Heap.get?_push_size _ rfl⟩, rfl, q _ (I.hok.fresh (Nat.le_refl _))⟩
theorem back_tup : BackR X (rBackT X.K) := fun {pins s σ H x v sl t Q} I rx at_ got => by
  obtain ⟨a, xs, rfl, seq, q⟩ := got
  cases rx
  obtain ⟨its, vals, lies, le⟩ := I.tuple seq
  have le' : its.toArray.size ≤ sizeLine := by have := vals.length; rw [List.size_toArray]; omega
  have fits : xs.reverse.length ≤ sizeLine := by have := vals.length; rw [List.length_reverse]; rw [List.size_toArray] at le'; omega
  have pair : IsTup s.heap a its.toArray := lies
  exact ⟨"tuple", _, pair.typeIs, PyProof.Rows.slot_tuple_getitem.lookup, getItem_tuple_rev pair at_ ⟨.ref _, _, I.laid (t' := s.toks) (o := .tup xs.reverse) (fun b o e => Heap.get?_push_of_some _ e) (Nat.le_refl _)
    ⟨fits, _, vals.reverse, _, Heap.get?_push_size _ rfl, rfl, _, rfl⟩, rfl, q _ (I.hok.fresh (Nat.le_refl _))⟩ le'⟩
/-- x[::-1], a list or a tuple -/
theorem pe_rev {e : Expr} {te : TE} {k : Nat} {p1 p2 p3 pos : Pos} (he : PE X e te) : PE X (.Subscript e (.Slice none none (some (.UnaryOp .USub (.Constant (.int 1) k p1) p2)) p3) pos)
    (fun σ H Q => te σ H fun x H1 => ∃ a xs, x = .ref a ∧ ((SqL X.K H1 a xs ∧ ∀ p, H1 p = none → Q (.ref p) (upd H1 p (.lst xs.reverse))) ∨ (SqT X.K H1 a xs ∧ ∀ p, H1 p = none → Q (.ref p) (upd H1 p (.tup xs.reverse))))) :=
  pe_back (r := fun x H Q => ∃ a xs, x = .ref a ∧ ((SqL X.K H a xs ∧ ∀ p, H p = none → Q (.ref p) (upd H p (.lst xs.reverse))) ∨ (SqT X.K H a xs ∧ ∀ p, H p = none → Q (.ref p) (upd H p (.tup xs.reverse)))))
    (fun I rx at_ ⟨a, xs, e, q⟩ => q.elim (fun ⟨z, q⟩ => back_list I rx at_ ⟨a, xs, e, z, q⟩) fun ⟨z, q⟩ => back_tup I rx at_ ⟨a, xs, e, z, q⟩) he
end
end
section
variable {X : Cx} {fx : Fx} {m : Type → Type} [Mo m] {G : List Sl} {α β : Type} {kk : Nat} {a b e : Expr} {rest : List Stmt} {ex : α → List Sl} {exb : β → List Sl} {pos p1 p2 p3 : Pos} {x : m D} {ys : m (List D)}
def revD : D → Option D
  | .lst ds => some (.lst ds.reverse)
  | .tup ds => some (.tup ds.reverse)
  | _ => none
theorem de_rev {k : Nat} (he : PE X e (tE X.K X.mg fx G x)) : PE X (.Subscript e (.Slice none none (some (.UnaryOp .USub (.Constant (.int 1) k p1) p2)) p3) pos) (tE X.K X.mg fx G (do let d ← x; ask (revD d))) :=
  peI (pe_rev he) fun σ H Q ⟨Hf, s, h⟩ =>
  (h.bind.mono fun v H1 ⟨d, Hf1, s1, sb, r, h1⟩ => by
    obtain ⟨e, q0, q⟩ := h1.ask
    cases d with
    | lst ds =>
      cases q0
      obtain ⟨hz, a, vs, rfl, t, l⟩ := r
      refine ⟨a, vs, rfl, .inl ⟨.inl (.inl (h1.1.top _ _ t)), fun p hp => q _ _ _ (.new h1.1.top hp) ⟨by rw [List.length_reverse]; exact hz, p, _, rfl, upd_same, l.reverse.mono (Ste.new (bag := []) h1.1.top hp).sub⟩⟩⟩
    | tup ds =>
      cases q0
      obtain ⟨hz, a, vs, rfl, t, l⟩ := r
      refine ⟨a, vs, rfl, .inr ⟨h1.1.top.sqt t, fun p hp => q _ _ _ (.new h1.1.top hp) ⟨by rw [List.length_reverse]; exact hz, p, _, rfl, .inl (.inl upd_same), l.reverse.mono (Ste.new (bag := []) h1.1.top hp).sub⟩⟩⟩
    | _ => cases q0).to
def zipL : List D → List D → List D
  | x :: xs, y :: ys => .tup [x, y] :: zipL xs ys
  | _, _ => []
def zipD : List D → Option (List D)
  | [.lst xs, .lst ys] => some (zipL xs ys)
  | [.tup xs, .tup ys] => some (zipL xs ys)
  | _ => none
end
end DL
namespace DL
open PySem L2
section
variable {X : Cx} {fx : Fx} {m : Type → Type} [Mo m] {G : List Sl} {α β : Type} {kk : Nat} {a : Expr} {rest : List Stmt} {ex : α → List Sl} {exb : β → List Sl} {p pos pos2 : Pos} {cn f qn : Str} {C fI : Addr}
def raiseX {m : Type → Type} [Mo m] {γ : Type} (c f : Str) (d : D) : m γ := Mo.lift (R.ex ⟨c, f, d⟩)
theorem dss_raise {x : m D} (Ck : Cok X fx kk) (T : PySem.OwnX.OwnTxt X.K X.mg cn f qn C fI) (ha : PE X a (tE X.K X.mg fx G x)) (hdb : (cn == ("__debug__" : Str)) = false := by decide) (hg : Gl X cn := by rfl)
    (he : starEach (a :: []) X.env = (false, eval a X.env) :: starEach [] X.env := by rfl) (hpl : (backTo pos (starEach [] X.env)).any (·.1) = false := by rfl) (hx : GxOk fx G := by first | exact True.intro | repeat' (first | exact True.intro | exact Or.inl rfl | exact Or.inr rfl | refine And.intro ?_ ?_)) :
    PSs X (.Raise (some (.Call (.Name cn p) [a] [] pos)) none pos2 :: rest) (tS X.K X.mg fx G ex exb (do let d ← x; raiseX cn f d : m (Fl α β))) :=
  pssI (pss_cons (ps_raiseLow Ck.calm T Ck.rm Ck.tk.new (pa_cons ha pa_nil he) hdb hg he hpl) pss_never) fun De σ H ⟨Hf, s, h⟩ =>
    ((h.bind hx).mono fun v H1 ⟨d, Hf1, s1, sb, r, h1⟩ => by
      refine ⟨v, rfl, fun p hp => ?_⟩
      have w := Mo.wp_lift h1.2
      have e1 : Ste fx.bag Hf1 H1 (upd Hf1 p (.xd [(f, v)])) (upd H1 p (.xd [(f, v)])) := .new h1.1.top hp
      have nb := (h1.1.new0 hp).2.1
      have st2 := h1.1.step e1 (h1.1.bag.upd nb)
      exact exs_ex hx w _ _ _ _ st2 ⟨C, p, v, T.gC, rfl, rfl, upd_same, r.mono e1.sub⟩).to
end
theorem exm_self {K : PySem.W.Frag} {S : Addr} (h1 : PySem.W.subIn K (.ref S) (.type "BaseException") = some true) (h2 : PySem.W.isClsIn K S = true) (h3 : PySem.W.typeIn K (.ref S) = some (.type "type")) (h4 : PySem.W.subIn K (.ref S) (.ref S) = some true) :
    PySem.W.exmOne K (.ref S) (.ref S) = some true := by
  have e1 : (PySem.W.subIn K (.ref S) (.type "BaseException") == some true) = true := by rw [h1] <;> rfl
  have e2 : ((PySem.W.clsIn K S).isSome && PySem.W.typeIn K (.ref S) == some (.type "type")) = true := by
    have h2' : (PySem.W.clsIn K S).isSome = true := h2
    rw [h2', h3] <;> rfl
  show (if (PySem.W.subIn K (.ref S) (.type "BaseException") == some true) = true then (if ((PySem.W.clsIn K S).isSome && PySem.W.typeIn K (.ref S) == some (.type "type")) = true then PySem.W.subIn K (.ref S) (.ref S) else none) else none) = some true
  rw [if_pos e1, if_pos e2]
  exact h4
theorem kit_subO {K : PySem.W.Frag} {S : Addr} {t : Value} {b : Bool} (h2 : PySem.W.isClsIn K S = true) (h3 : PySem.W.typeIn K (.ref S) = some (.type "type")) (h5 : PySem.W.subIn K (.ref S) (.ref S) = some true) (h4 : PySem.W.subIn K t (.ref S) = some b) : PySem.W.kitOne K t (.ref S) = some b := by
  have e2 : ((PySem.W.clsIn K S).isSome && PySem.W.typeIn K (.ref S) == some (.type "type")) = true := by
    have h2' : (PySem.W.clsIn K S).isSome = true := h2
    rw [h2', h3] <;> rfl
  show (if (t == .ref S) = true then some true else (if ((PySem.W.clsIn K S).isSome && PySem.W.typeIn K (.ref S) == some (.type "type")) = true then PySem.W.subIn K t (.ref S) else none)) = some b
  by_cases c : (t == .ref S) = true
  · have e : t = .ref S := eq_of_beq c
    subst e
    rw [if_pos c, ← h4, h5]
  · rw [if_neg c, if_pos e2]
    exact h4
end DL
namespace DL
open PySem L2
section
variable {K : PySem.W.Frag} {mg : Str → Option Value} {fx : Fx} {Hf H : Hp} {σ : L2.St} {G : List Sl} {s : S}
theorem StS.empty (st : StS K mg fx Hf H σ G s) {i : Nat} (hi : G[i]? = some .un) : StS K mg fx Hf H (σ.set i none) G s := by
  refine ⟨st.ste, st.bag, st.bagg, by simpa using st.len, fun j x e => ?_, fun j k x y p hjk ex ey ox oy e1 e2 => ?_⟩
  · by_cases q : i = j
    · subst q
      rw [hi] at e
      cases e
      trivial
    · rw [List.getElem?_set_ne q]
      exact st.sl j x e
  · have nj : i ≠ j := fun z => by subst z; rw [hi] at ex; cases ex; cases ox
    have nk : i ≠ k := fun z => by subst z; rw [hi] at ey; cases ey; cases oy
    rw [List.getElem?_set_ne nj] at e1
    rw [List.getElem?_set_ne nk] at e2
    exact st.dis j k x y p hjk ex ey ox oy e1 e2
end
end DL
namespace DL
open PySem L2
theorem spl_len (S : List Nat) : ∀ (l : List Nat) (k : Nat) (acc : List Nat), (∀ p ∈ TL.spl S k acc l, p.length ≤ acc.length + l.length) ∧ (TL.spl S k acc l).length ≤ l.length + 1
  | [], k, acc => by
    rw [TL.spl_nil]
    simp
  | c :: r, 0, acc => by
    by_cases h : TL.pre S (c :: r) = true
    · rw [TL.spl_hit h]
      obtain ⟨h1, h2⟩ := spl_len S r (S.length - 1) []
      refine ⟨fun p hp => ?_, by rw [List.length_cons, List.length_cons]; omega⟩
      rcases List.mem_cons.mp hp with rfl | hp
      · omega
      · have := h1 p hp
        rw [List.length_nil] at this
        rw [List.length_cons]
        omega
    · rw [TL.spl_miss (by simpa using h)]
      obtain ⟨h1, h2⟩ := spl_len S r 0 (acc ++ [c])
      refine ⟨fun p hp => ?_, by rw [List.length_cons]; omega⟩
      have := h1 p hp
      rw [List.length_append, List.length_singleton] at this
      rw [List.length_cons]
      omega
  | c :: r, k + 1, acc => by
    have e : TL.spl S (k + 1) acc (c :: r) = TL.spl S k acc r := rfl
    rw [e]
    obtain ⟨h1, h2⟩ := spl_len S r k acc
    refine ⟨fun p hp => ?_, by rw [List.length_cons]; omega⟩
    have := h1 p hp
    rw [List.length_cons]
    omega
def splitD (a b : D) : Option (List D) := match a, b with
  | .str z, .str [c] => if c < 256 ∧ z.length ≤ 1000000 then some ((TL.spl [c] 0 [] z).map .str) else none
  | _, _ => none
theorem isL_strsV {K : PySem.W.Frag} {mg : Str → Option Value} {H : Hp} : ∀ {ps : List (List Nat)}, (∀ p ∈ ps, p.length ≤ sizeLine) → IsL K mg H (ps.map .str) (ps.map fun p => V.str ⟨p.toArray⟩)
  | [], _ => rfl
  | p :: ps, h => ⟨_, _, rfl, ⟨rfl, h p (.head _)⟩, isL_strsV fun q m => h q (.tail _ m)⟩
section
variable {X : Cx} {fx : Fx} {m : Type → Type} [Mo m] {G : List Sl} {o e : Expr} {apos pos : Pos} {x y : m D}
theorem df_split (ho : PE X o (tE X.K X.mg fx G x)) (he : PE X e (tE X.K X.mg fx G y)) (hs : starEach [e] X.env = [(false, eval e X.env)] := by rfl) (hbase : attributeBase o "split" X.env (eval o X.env) = eval o X.env := by rfl) (hline : (apos.endLine == pos.line) = true := by rfl) :
    PE X (.Call (.Attribute o "split" apos) [e] [] pos) (tF X.K X.mg fx G (do let u ← x; let _ ← ask (strOf u); let v ← y; ask (splitD u v))) := peI (pe_split ho he hs hbase hline) fun σ H Q ⟨Hf, s, st, w⟩ =>
  ⟨Hf, s, st, Mo.wp_mono (Mo.wp_bind w) (fun d1 s1 k v1 Hf1 H1 e1 bg1 r1 => by
    have k' := Mo.wp_lift (Mo.wp_bind k)
    have st1 := st.step e1 bg1
    cases d1 with
    | str z =>
      obtain ⟨rfl, hz1⟩ := r1
      refine ⟨⟨_, rfl⟩, Hf1, s1, st1, Mo.wp_mono (Mo.wp_bind k') (fun d2 s2 k2 v2 Hf2 H2 e2 bg2 r2 => ?_) fun e s' k => k⟩
      have k3 := Mo.wp_lift k2
      cases hsp : splitD (.str z) d2 with
      | none => rw [hsp] at k3; exact k3.elim
      | some ds =>
        rw [hsp] at k3
        unfold splitD at hsp
        split at hsp
        · rename_i z' c hz'
          cases hz'
          split at hsp
          · rename_i hc
            cases hsp
            obtain ⟨rfl, _⟩ := r2
            have hsz : sizeLine = 16777216 := sizeLine_eq
            have hk : (⟨#[c]⟩ : Str).cps.all (· < 256) = true := by simpa using hc.1
            have es := TL.split_spl ⟨z.toArray⟩ ⟨#[c]⟩ (by simp [TL.tl]) (TL.kind_ok hk)
            have es' : Txt.split ⟨z.toArray⟩ ⟨#[c]⟩ = (TL.spl [c] 0 [] z).map fun p => (⟨p.toArray⟩ : Str) := by
              have e3 : (TL.spl (TL.tl ⟨#[c]⟩) 0 [] (TL.tl ⟨z.toArray⟩)) = TL.spl [c] 0 [] z := by simp [TL.tl]
              rw [e3] at es
              rw [← es, List.map_map]
              conv => lhs; rw [← List.map_id (Txt.split ⟨z.toArray⟩ ⟨#[c]⟩)]
              exact List.map_congr_left fun p _ => (TL.mk_tl p).symm
            obtain ⟨h1, h2⟩ := spl_len [c] z 0 []
            refine ⟨⟨z.toArray⟩, ⟨#[c]⟩, rfl, rfl, rfl, by rw [str_len]; omega, fun p hp => ?_⟩
            rw [es', List.map_map]
            have hn : H p = none := by
              cases q : H p with
              | none => rfl
              | some o => exact absurd hp ((e1.trans e2).dom p (by rw [q]; simp))
            have st2 := st1.step e2 bg2
            have n2 := st2.new0 hp
            exact k3 p _ Hf2 _ ((e1.trans e2).upd hn n2.2.2) (bg2.upd n2.2.1) upd_same n2.2.2 hn (isL_strsV fun q m => by have := h1 q m; simp at this; omega) (by rw [List.length_map]; omega)
          · cases hsp
        · cases hsp
    | _ => exact k'.elim) fun e s' k => k⟩
def strM (g : List Nat → List Nat → D) (a b : D) : Option D := match a, b with
  | .str x, .str y => some (g x y)
  | _, _ => none
theorem de_starts (ho : PE X o (tE X.K X.mg fx G x)) (he : PE X e (tE X.K X.mg fx G y)) (hs : starEach [e] X.env = [(false, eval e X.env)] := by rfl) (hbase : attributeBase o "startswith" X.env (eval o X.env) = eval o X.env := by rfl) (hline : (apos.endLine == pos.line) = true := by rfl) :
    PE X (.Call (.Attribute o "startswith" apos) [e] [] pos) (tE X.K X.mg fx G (do let u ← x; let _ ← ask (strOf u); let v ← y; ask (strM (fun a b => .bl (Txt.startswith ⟨a.toArray⟩ ⟨b.toArray⟩)) u v))) :=
  peI (pe_m1 PySem.F.slot_str_startswith PySem.F.type_str_startswith mt_startswith ho he hs hbase hline) fun σ H Q ⟨Hf, s, h⟩ =>
  (h.bind.mono fun v1 H1 ⟨d1, Hf1, s1, sb1, r1, h1⟩ => by
    have k := Mo.wp_lift (Mo.wp_bind h1.2)
    cases d1 with
    | str S =>
      obtain ⟨rfl, hz1⟩ := r1
      refine ⟨⟨_, rfl⟩, ?_⟩
      have h2 : tX X.K X.mg fx G (fun H d v => Is X.K X.mg H d v) (do let v ← y; ask (strM (fun a b => .bl (Txt.startswith ⟨a.toArray⟩ ⟨b.toArray⟩)) (.str S) v) : m D) Hf1 s1 σ H1 Q := ⟨h1.1, k⟩
      refine (h2.bind.mono fun v2 H2 ⟨d2, Hf2, s2, sb2, r2, h3⟩ => ?_).to
      obtain ⟨d, e, q⟩ := h3.ask
      cases d2 with
      | str T =>
        cases e
        obtain ⟨rfl, _⟩ := r2
        exact ⟨_, _, rfl, rfl, q _ Hf2 H2 (.refl h3.1.top) (is_bl _)⟩
      | _ => cases e
    | _ => exact k.elim).to
end
end DL
namespace DL
open PySem PySem.Spec PyProof.Rows L2
end DL
namespace DL
open PySem L2
end DL
namespace DL
open PySem PySem.Spec PyProof.Rows L2
end DL
namespace DL
open PySem PySem.Spec PyProof.Rows L2
theorem guards_make {A : Around} {C : Addr} {us : List Value} {kw : List (Str × Value)} (h : A.guards = some []) : (A.under (.builtin "type.__call__" ⟨.ref C :: us, kw⟩)).guards = some [] := by
  first | exact h | simp [Around.under, Code.weight, Code.isCreation, Code.isGuard, Code.isCaller, Code.frames, Code.isFrame, guardIds, h]
def FnP (P : Program) (w : World) (K : PySem.W.Frag) (mg : Str → Option Value) (base : Heap) (k : Nat) (f : Addr) (ks : List Str) (sp : Sp) : Prop :=
  ∀ (A : Around) (outer : List Env) (s : Shared) (H : Hp) (us ws : List Value) (vs : List V) (Q : VK) (E : XK), A.guards = some [] → Room k A → Env0 P w K mg base A outer s H → ws.length = ks.length → Vals vs (us ++ ws) → sp vs H Q E →
    codeAny (model P w) A (.call (.ref f) ⟨us, ks.zip ws⟩) (CR (CXm P w mg) outer P w H s Q E) s
section
variable {P : Program} {w : World} {K : PySem.W.Frag} {mg : Str → Option Value} {base : Heap} {j k : Nat} {f : Addr} {fd : FuncData} {ps ks : List Str} {sp sp' : Sp}
theorem FnP.mono (F : FnP P w K mg base j f ks sp) (h : j ≤ k) : FnP P w K mg base k f ks sp := fun A outer s H us ws vs Q E hg hr => F A outer s H us ws vs Q E hg (hr.mono h)
theorem FnP.imp (F : FnP P w K mg base k f ks sp) (h : ∀ vs H Q E, sp' vs H Q E → sp vs H Q E) : FnP P w K mg base k f ks sp' := fun A outer s H us ws vs Q E hg hr e0 hw r hs => F A outer s H us ws vs Q E hg hr e0 hw r (h _ _ _ _ hs)
theorem FnG.pos (F : FnG P w K mg base k f fd ps sp) (hb : Binds K fd ps []) : FnP P w K mg base k f [] sp := fun A outer s H us ws vs Q E hg hr e0 hw r hs => by
  have e : ws = [] := List.length_eq_zero_iff.mp hw
  subst e
  rw [List.append_nil] at r
  have hl : (us ++ []).length = ps.length := by
    rw [List.append_nil, ← r.length]
    exact F.len _ _ _ _ hs
  have b := hb s us (e0.mod.kin.keeps fun b o e => (e0.bs b o e).1) hl
  rw [List.append_nil] at b
  exact F.run A outer s H ⟨us, []⟩ us vs Q E hg hr e0 b r hs
end
section
variable {X : Cx} {k : Nat} {f C : Addr} {ks : List Str} {sp : Sp} {E : L2.St → XK} {x m : Str} {p pos apos : Pos} {e o : Expr} {es : List Expr} {kws : List Keyword} {ta : TE} {t tk : TA}
theorem run_makeP {pins : List (Addr × Obj)} {σ : L2.St} {H : Hp} {s : Shared} {Q : VK} {us ws : List Value} {vs : List V} (M : Mk X.K C f) (F : FnP X.prog X.w X.K X.mg X.base k f ks sp) (hg : X.A.guards = some []) (hr : Room (k + 1) X.A)
    (hx : PassesAt (CXm X.prog X.w X.mg) X σ (E σ)) (I : L2.Inv X pins σ H s) (hw : ws.length = ks.length) (r : Vals vs (us ++ ws))
    (h : ∀ x dx, H x = none → H dx = none → dx ≠ x → sp (.ref x :: vs) (upd (upd H dx (.own x)) x (.ins C dx [])) (fun v H2 => v = .non ∧ Q (.ref x) H2) (E σ)) :
    wpAny (model X.prog X.w) X.A (call (.ref C) us (ks.zip ws)) (EP X pins σ Q) X.xe s := by
  have hq := h (s.heap.objs.size + 1) s.heap.objs.size (I.hok.fresh (Nat.le_succ _)) (I.hok.fresh (Nat.le_refl _)) (Nat.ne_of_lt (Nat.lt_succ_self _))
  have I2 := L2.Inv.made (C := C) I
  have r2 : Vals (V.ref (s.heap.objs.size + 1) :: vs) ((Value.ref (s.heap.objs.size + 1) :: us) ++ ws) := .cons rfl r
  refine wpAny_call (make_map (f := f) I.kIn M.makes M.init (beq_iff_eq.mp M.fn) (codeAny_mono (F _ X.stack _ _ (Value.ref (s.heap.objs.size + 1) :: us) ws _ _ (E σ) (guards_make hg) (hr.make C us (ks.zip ws))
    (I2.env0.make C us (ks.zip ws)) hw r2 hq) fun r s' hq' => ?_))
  cases r with
  | error e => exact hx pins _ _ e s' I2 hq'
  | ok fl =>
    cases fl with
    | ret u =>
      obtain ⟨v, H', I3, rv, ev, q3⟩ := I2.after hq'
      subst ev
      exact ⟨rv, ⟨V.ref (s.heap.objs.size + 1), H', I3, rfl, q3⟩⟩
    | next => exact False.elim hq'
    | brk => exact False.elim hq'
    | cont => exact False.elim hq'
end
theorem evalArgs_kw0 {M : Model} {A : Around} {E : Value → Shared → Prop} {s : Shared} {f : Value} {keywords : List (Option Str × Sem Value)} {Q : Args → Shared → Prop}
    (hall : keywords.all (·.1.isSome) = true)
    (h : wpAny M A (spliced []) (fun vs s₁ => wpAny M A (evalAll (keywords.map (·.2))) (fun ks s₂ => Q ⟨vs, (keywords.filterMap (·.1)).zip ks⟩ s₂) E s₁) E s) :
    wpAny M A (evalArgs f true [] keywords) Q E s := by
  unfold evalArgs
  show wpAny M A (spliced [] >>= _) Q E s
  refine wpAny_bind (wpAny_mono h (fun vs s₁ h₁ => ?_) fun _ _ x => x)
  refine wpAny_bind (wpAny_pure ?_)
  refine wpAny_holding ?_
  simp only [hall, if_true]
  refine wpAny_bind (wpAny_mono h₁ (fun ks s₂ h₂ => ?_) fun _ _ x => x)
  exact wpAny_bind (wpAny_pure (wpAny_pure h₂))
def ArgHd (env : Env) : List Expr → Prop
  | [] => True
  | e :: es => starEach (e :: es) env = (false, eval e env) :: starEach es env
theorem args_run {X : Cx} {es : List Expr} {kws : List Keyword} {ks : List Str} {t tk : TA} {pos : Pos} {f : Value} {first : List Value} {pins : List (Addr × Obj)} {s : Shared} {σ : L2.St} {H : Hp} {Q : VK}
    (hkp : PySem.W.keepIn X.K f = true) (ha : PA X es t) (hk : PK X kws tk) (I : L2.Inv X pins σ H s)
    (h : t σ H fun vs H1 => tk σ H1 fun zs H2 => zs.length = ks.length ∧ ∀ s2 us ws, L2.Inv X pins σ H2 s2 → ws.length = ks.length → Vals (vs ++ zs) (us ++ ws) → wpAny (model X.prog X.w) X.A (call f (first ++ us) (ks.zip ws)) (EP X pins σ Q) X.xe s2)
    (he : ArgHd X.env es := by first | exact True.intro | exact rfl)
    (hks : (backToKw pos (keywordEach kws X.env)).filterMap (·.1) = ks := by rfl)
    (hall : (backToKw pos (keywordEach kws X.env)).all (·.1.isSome) = true := by rfl)
    (hpl : ((backTo pos (starEach es X.env)).any (·.1) || (backToKw pos (keywordEach kws X.env)).any (·.1.isNone)) = false := by rfl) :
    wpAny (model X.prog X.w) X.A (callWith pos f first (backTo pos (starEach es X.env)) (backToKw pos (keywordEach kws X.env))) (EP X pins σ Q) X.xe s := by
  have fin : ∀ {us : List Value} {vs : List V} {H1 : Hp} {s1 : Shared}, L2.Inv X pins σ H1 s1 → Vals vs us → (tk σ H1 fun zs H2 => zs.length = ks.length ∧ ∀ s2 us ws, L2.Inv X pins σ H2 s2 → ws.length = ks.length → Vals (vs ++ zs) (us ++ ws) → wpAny (model X.prog X.w) X.A (call f (first ++ us) (ks.zip ws)) (EP X pins σ Q) X.xe s2) →
      wpAny (model X.prog X.w) X.A (evalAll ((backToKw pos (keywordEach kws X.env)).map (·.2))) (fun ws s₂ => X.K.In s₂.heap ∧ wpAny (model X.prog X.w) X.A (call f (first ++ us) (((backToKw pos (keywordEach kws X.env)).filterMap (·.1)).zip ws)) (EP X pins σ Q) X.xe s₂) X.xe s1 := by
    intro us vs H1 s1 I1 r q
    refine thn (hk.run pos pins s1 σ H1 _ I1 q) fun ws s2 ⟨zs, H2, I2, rz, hz, q2⟩ => ⟨I2.kIn, ?_⟩
    rw [hks]
    exact q2 s2 us ws I2 (rz.length.symm.trans hz) (r.append rz)
  cases es with
  | nil => exact PySem.W.callWith_of hpl (PySem.W.keeps_K hkp) (evalArgs_kw0 hall (thn (ha.run pos pins s σ H _ I h) fun us s1 ⟨vs, H1, I1, r, q⟩ => fin I1 r q))
  | cons e es => exact PySem.W.callWith_of hpl (PySem.W.keeps_K hkp) (evalArgs_kw2 hall (thn (ha.run pos pins s σ H _ I h) fun us s1 ⟨vs, H1, I1, r, q⟩ => fin I1 r q) he)
def runI : R (Fl (List D) Empty) → R (List D)
  | .ok (.nx es) => .ok es
  | .ok (.rt _) => .stuck
  | .ok (.bk b) => b.elim
  | .ok (.ct b) => b.elim
  | .ex e => .ex e
  | .stuck => .stuck
def spI (K : PySem.W.Frag) (mg : Str → Option Value) (ns : List Str) (L : Nat → Prop) (g : List D → R (List D)) : Sp := fun vs H Q E => L vs.length ∧ ∃ x C dx rest Hf ds, vs = .ref x :: rest ∧ Sub Hf H ∧ Hf x = none ∧ H x = some (.ins C dx []) ∧ Cls K C ∧ (∀ f ∈ ns, NoAttr K C f) ∧ IsL K mg Hf ds rest ∧ (match g ds with
  | .ok es => ∀ us Hf' H', Ste [x] Hf H Hf' H' → H' x = some (.ins C dx (ns.zip us)) → ns.length = us.length → IsL K mg Hf' es us → Hf' x = none → Q .non H'
  | .ex e => ∀ cls dd Hf' H', Ste [x] Hf H Hf' H' → ExIs K mg Hf' H' e cls dd → E cls dd H'
  | .stuck => False)
abbrev fxI (ns : List Str) (x : Addr) (H Hf : Hp) (E : XK) : Fx := ⟨[], H, Hf, fun cls d _ H' => E cls d H', none, false, [x], ns⟩
def GI (N : List Str) (ds : List D) : List Sl := .ob [] [] :: (ds.map Sl.im ++ List.replicate (N.length - ds.length - 1) .un)
def exI (N ns : List Str) (es : List D) : List Sl := .ob ns es :: (N.tail.map fun _ => .un)
section
variable {K : PySem.W.Frag} {mg : Str → Option Value}
theorem StS.initI {Hf H : Hp} {E : XK} {ds : List D} {vs : List V} {N : List Str} {s : S} {x C dx : Addr} (sb : Sub Hf H) (hf : Hf x = none) {ns : List Str} (hx : H x = some (.ins C dx [])) (c : Cls K C) (na : ∀ f ∈ ns, NoAttr K C f) (l : IsL K mg Hf ds vs) (hn : vs.length + 1 ≤ N.length) :
    StS K mg (fxI ns x H Hf E) Hf H (start N (.ref x :: vs)) (GI N ds) s := by
  refine ⟨.refl sb, trivial, fun b m => ?_, ?_, fun i y e => ?_, fun i j y z p ne ey ez oy oz e1 e2 => ?_⟩
  · have : b = x := by
      rcases List.mem_append.mp m with m | m
      · simpa using m
      · cases m
    subst this
    exact ⟨hf, by rw [hx]; simp, fun _ => by show H b ≠ none; rw [hx]; simp⟩
  · rw [start_len (by simpa using hn)]
    unfold GI
    have := l.len
    simp
    omega
  · cases i with
    | zero =>
      cases e
      exact ⟨x, C, dx, [], start_at rfl, hx, hf, ⟨by simp, [], hx⟩, by simp, ⟨c, na⟩, rfl, rfl⟩
    | succ i =>
      have e' : (ds.map Sl.im ++ List.replicate (N.length - ds.length - 1) .un)[i]? = some y := e
      have q := slOk_G0 (fx := fxI ns x H Hf E) (H := H) (N := N) l e'
      cases y with
      | un => trivial
      | im d =>
        obtain ⟨v, hv, hi⟩ := q
        refine ⟨v, ?_, hi⟩
        cases h : vs[i]? with
        | none => rw [h] at hv; cases hv
        | some w => rw [h] at hv; cases hv; exact start_at (by simpa using h)
      | ow ds => exact (isOw_im e' rfl).elim
      | od ks ds => exact (isOw_im e' rfl).elim
      | ob ns ds => exact (isOw_im e' rfl).elim
      | bg =>
        obtain ⟨b, r, e, _⟩ := q
        cases e
  · have z1 : i = 0 := by
      cases i with
      | zero => rfl
      | succ i => exact (isOw_im (n := N.length - ds.length - 1) (ds := ds) (i := i) ey oy).elim
    have z2 : j = 0 := by
      cases j with
      | zero => rfl
      | succ j => exact (isOw_im (n := N.length - ds.length - 1) (ds := ds) (i := j) ez oz).elim
    exact ne (z1.trans z2.symm)
end
theorem runI_read {K : PySem.W.Frag} {mg : Str → Option Value} {ns N : List Str} {o C dx : Addr} {H Hf : Hp} {E : XK} {Q : VK} {body : R (Fl (List D) Empty)} {s : S} (hx : H o = some (.ins C dx []))
    (q : match runI body with
      | .ok es => ∀ us Hf' H', Ste [o] Hf H Hf' H' → H' o = some (.ins C dx (ns.zip us)) → ns.length = us.length → IsL K mg Hf' es us → Hf' o = none → Q .non H'
      | .ex e => ∀ cls dd Hf' H', Ste [o] Hf H Hf' H' → ExIs K mg Hf' H' e cls dd → E cls dd H'
      | .stuck => False) :
    Mo.wp body s (FP K mg (fxI ns o H Hf E) Hf (exI N ns) Empty.elim { nx := fun _ H' => Q .non H', rt := Q }) (EXS K mg (fxI ns o H Hf E)) := by
  show R.wp body _ _ _
  cases body with
  | ok f =>
    cases f with
    | nx es =>
      refine fun Hf' H' σ' _ st => ?_
      obtain ⟨p, C', dx', us, ep, hp', hf', ⟨hm, f0, h00⟩, _, _, hl2, l2⟩ := st.sl 0 _ rfl
      have e1 : p = o := by simpa using hm
      subst e1
      have e2 : C' = C ∧ dx' = dx := by
        have z : H p = some (.ins C' dx' f0) := h00
        rw [hx] at z
        cases z
        exact ⟨rfl, rfl⟩
      obtain ⟨rfl, rfl⟩ := e2
      exact q us Hf' H' st.ste hp' hl2 l2 hf'
    | rt d => exact (show False from q).elim
    | bk b => exact b.elim
    | ct b => exact b.elim
  | ex e => exact fun cls dd σ' Hf' H' st x => q cls dd Hf' H' st.1 x
  | stuck => exact q
section
variable {P : Program} {w : World} {K : PySem.W.Frag} {mg : Str → Option Value} {base : Heap}
theorem fnI {x qual : Str} {st : Stmt} {f : Addr} {fd : FuncData} {N ps ns : List Str} {k n : Nat} {g : List D → R (List D)} (F : Fun K x qual st f fd) (Sc : FnScope N ps (defScope st)) (hn : ps.length = n + 1) (hN : n + 1 ≤ N.length)
    (hb : ∀ (cdv : Value) (A : Around) (outer : List Env) (s : Shared) (H Hf : Hp) (E : XK) (o : Addr) (ds : List D), Cok (cxOf (CXm P w mg) P w K mg base N qual (defScope st) f cdv A outer s H E) (fxI ns o H Hf E) k → ds.length = n →
      ∃ body : R (Fl (List D) Empty), PSs (cxOf (CXm P w mg) P w K mg base N qual (defScope st) f cdv A outer s H E) (defBody st)
        (tS (cxOf (CXm P w mg) P w K mg base N qual (defScope st) f cdv A outer s H E).K (cxOf (CXm P w mg) P w K mg base N qual (defScope st) f cdv A outer s H E).mg (fxI ns o H Hf E) (GI N ds) (exI N ns) Empty.elim body) ∧ g ds = runI body) :
    FnG P w K mg base (k + 1) f fd ps (spI K mg ns (fun l => l = n + 1) g) := by
  refine fn_g F Sc (fun vs H Q E h => h.1.trans hn.symm) (fun cdv A outer s H vs Q E gd hr h => ?_)
  obtain ⟨hl, o, C, dx, rest, Hf, ds, rfl, sb, hf, hx, c, na, l, q⟩ := h
  have Ck : Cok (cxOf (CXm P w mg) P w K mg base N qual (defScope st) f cdv A outer s H E) (fxI ns o H Hf E) k := ⟨rfl, fun _ => passes_of rfl, takes_of rfl rfl rfl rfl, hr, Sc.nd, gd⟩
  have hl' : rest.length = n := by simpa using hl
  obtain ⟨body, hp, hg⟩ := hb cdv A outer s H Hf E o ds Ck (l.len.trans hl')
  refine ⟨_, hp, Hf, ⟨0, 0, 0, [], false⟩, .initI sb hf hx c na l (by omega), ?_⟩
  rw [hg] at q
  exact runI_read hx q
end
section
variable {X : Cx} {fx : Fx} {m : Type → Type} [Mo m] {G : List Sl} {α β : Type} {kk : Nat} {e : Expr} {rest : List Stmt} {ex : α → List Sl} {exb : β → List Sl} {pos pos' : Pos} {x : m D} {k : D → m (Fl α β)} {f n : Str} {np : Pos} {ns : List Str} {ds : List D}
theorem putF_new {f : Str} {y : V} : ∀ {ns : List Str} {vs : List V}, ns.length = vs.length → f ∉ ns → putF f y (ns.zip vs) = (ns ++ [f]).zip (vs ++ [y])
  | [], [], _, _ => rfl
  | g :: ns, v :: vs, hl, hn => by
    have h1 : g ≠ f := fun z => hn (by simp [z])
    show putF f y ((g, v) :: ns.zip vs) = (g, v) :: (ns ++ [f]).zip (vs ++ [y])
    unfold putF
    rw [if_neg h1, putF_new (by simpa using hl) fun z => hn (List.mem_cons_of_mem _ z)]
  | [], _ :: _, hl, _ => by simp at hl
  | _ :: _, [], hl, _ => by simp at hl
theorem dss_fld (i : Nat) (he : PE X e (tE X.K X.mg fx G x)) (hr : ∀ d, PSs X rest (tS X.K X.mg fx (G.set i (.ob (ns ++ [f]) (ds ++ [d]))) ex exb (k d))) (hG : G[i]? = some (.ob ns ds) := by rfl) (hN : X.N[i]? = some n := by rfl) (hf : f ∉ ns := by decide +kernel) (hm : f ∈ fx.nas := by decide +kernel) (hz : ns.length < 1000 := by decide)
    (hv : Vis X.env.scope n := by first | exact Or.inl rfl | exact Or.inr (Or.inl rfl) | exact Or.inr (Or.inr rfl)) (hd : (n == ("__debug__" : Str)) = false := by decide) (hcd : (n == ("__classdict__" : Str)) = false := by decide)
    (hs : swapsWith e (some (.Attribute (.Name n np) f pos')) pos.line X.env = pure false := by rfl) (hg : GxOk fx G := by first | exact True.intro | repeat' (first | exact True.intro | exact Or.inl rfl | exact Or.inr rfl | refine And.intro ?_ ?_)) :
    PSs X (.Assign [.Attribute (.Name n np) f pos'] e pos :: rest) (tS X.K X.mg fx G ex exb (x >>= k)) := pssI (pss_cons (ps_fld (pe_var hN hv hd hcd) he hs) (pss_ex hr)) fun De σ H ⟨Hf, s, h⟩ =>
  ((h.bind hg).mono fun v H1 ⟨d, Hf1, s1, sb, r, h1⟩ => by
    obtain ⟨p, C, dx, vs, ep, hp, hf', h0, nb, ⟨c, na⟩, hl, l⟩ := h1.1.sl i _ hG
    refine ⟨.ref p, ep, p, C, dx, ns.zip vs, rfl, hp, c, na _ hm, ?_, d, Hf1, s1, ?_, h1.2⟩
    · rw [List.length_zip, ← hl, Nat.min_self]; exact hz
    · refine h1.1.updAt hG rfl ep rfl ⟨p, C, dx, vs ++ [v], rfl, ?_, hf', h0, nb, ⟨c, na⟩, by simp [hl], l.app (.cons r .nil)⟩
      rw [upd_same, putF_new hl hf]).to
theorem lookup_zip {f : Str} : ∀ {ns : List Str} {vs : List V} {j : Nat} {v : V}, ns.idxOf? f = some j → vs[j]? = some v → (ns.zip vs).lookup f = some v
  | [], _, _, _, e, _ => by cases e
  | g :: ns, [], _, _, _, e => by simp at e
  | g :: ns, v :: vs, j, w, e, e2 => by
    by_cases h : g = f
    · subst h
      have z : j = 0 := by simpa [List.idxOf?, List.findIdx?_cons] using e.symm
      subst z
      simp at e2
      subst e2
      simp
    · have h' : (f == g) = false := by simpa using Ne.symm h
      have h2 : (g == f) = false := by simpa using h
      cases j with
      | zero =>
        exfalso
        simp [List.idxOf?, List.findIdx?_cons, h2] at e
      | succ j =>
        have e' : ns.idxOf? f = some j := by
          simp [List.idxOf?, List.findIdx?_cons, h2] at e ⊢
          exact e
        have := lookup_zip e' (by simpa using e2)
        simpa [List.lookup, h'] using this
end
end DL
namespace DL
open PySem PySem.Spec PyProof.Rows L2
structure ClsN (K : PySem.W.Frag) (mg : Str → Option Value) (c : Str) (C : Addr) : Prop where
  mg : mg c = some (.ref C)
  cl : Cls K C
  ca : PySem.W.findIn K (.ref C) "__class__" = some (some (.builtin "object.__class__"))
  cn : PySem.W.specialIn K (.builtin "object.__class__") "__get__" = some (some (.builtin "getset_descriptor.__get__"))
  ct : PySem.W.takesIn K (.builtin "object.__class__") = some true
  cm : PySem.W.mroIn K C (.type "object") = some true
section
variable {X : Cx} {fx : Fx} {m : Type → Type} [Mo m] {G : List Sl} {es : List Expr} {kws : List Keyword} {ks : List Str} {pos p : Pos} {ys zz : m (List D)} {kk j n : Nat} {c : Str} {C fI : Addr} {ns : List Str} {g : List D → R (List D)}
theorem make_core {vs : List V} {ds : List D} {Hf : Hp} {s : S} {σ : L2.St} {H : Hp} {Q : VK} {x dx : Addr} (cn : ClsN X.K X.mg c C) (na : ∀ f ∈ ns, NoAttr X.K C f) {L : Nat → Prop} (hn : L (ds.length + 1)) (r : IsL X.K X.mg Hf ds vs) (h : tX X.K X.mg fx G (fun H d v => Is X.K X.mg H d v) (Mo.lift (g ds) >>= fun es => pure (.ins c ns es) : m D) Hf s σ H Q) (hx : H x = none) (hdx : H dx = none) (hne : dx ≠ x) :
    spI X.K X.mg ns L g (.ref x :: vs) (upd (upd H dx (.own x)) x (.ins C dx [])) (fun v H2 => v = .non ∧ Q (.ref x) H2) (WE fx.W σ) := by
  have w := Mo.wp_lift (Mo.wp_bind h.2)
  have hl := r.len
  have e2 : ∀ a o, H a = some o → upd (upd H dx (.own x)) x (.ins C dx []) a = some o := fun a o q => by rw [upd_ne (ne_of_none q hx), upd_ne (ne_of_none q hdx)]; exact q
  have hfx : Hf x = none := h.1.top.none hx
  have up : ∀ {Hf' H' : Hp}, Ste [x] Hf (upd (upd H dx (.own x)) x (.ins C dx [])) Hf' H' → Ste [] Hf H Hf' H' := fun {Hf' H'} st => ⟨st.sub, st.top, fun a o q _ => st.keep a o (e2 a o q) (by simpa using ne_of_none q hx), fun a q => st.dom a (by
    cases z : H a with
    | none => exact absurd z q
    | some o => rw [e2 a o z]; simp), fun a o q => by
    rcases st.fresh a o q with z | z
    · exact .inl z
    · refine .inr ?_
      cases y : H a with
      | none => rfl
      | some u => rw [e2 a u y] at z; cases z⟩
  refine ⟨by rw [List.length_cons, ← hl]; exact hn, x, C, dx, vs, Hf, ds, rfl, fun a o q => e2 a o (h.1.top a o q), hfx, upd_same, cn.cl, na, r, ?_⟩
  cases z : g ds with
  | ok es =>
    rw [z] at w
    intro us Hf' H' st hp hnl l hf'
    refine ⟨rfl, ?_⟩
    have w' := Mo.wp_pure w
    have st0 := up st
    have sb : Sub Hf' (upd Hf' x (.ins C dx (ns.zip us))) := fun a o q => by
      have ne : a ≠ x := fun z => by rw [z, hf'] at q; cases q
      rw [upd_ne ne]; exact q
    have st1 : Ste [] Hf H (upd Hf' x (.ins C dx (ns.zip us))) H' := ⟨st0.sub.trans sb, fun a o q => by
        by_cases c : a = x
        · subst c; rw [upd_same] at q; cases q; exact hp
        · rw [upd_ne c] at q; exact st0.top a o q, st0.keep, st0.dom, fun a o q => by
        by_cases c : a = x
        · subst c; exact .inr hx
        · rw [upd_ne c] at q; exact st0.fresh a o q⟩
    exact w' (.ref x) _ H' st1.wide (st1.bag h.1.bag) ⟨x, C, dx, us, rfl, cn.mg, upd_same, hnl, l.mono sb⟩
  | ex e =>
    rw [z] at w
    exact fun cls dd Hf' H' st xi => w cls dd Hf' H' (h.1.step (up st).wide ((up st).bag h.1.bag)) xi
  | stuck => rw [z] at w; exact w
end
def fldD (cs : List Str) (f : Str) : D → Option D
  | .ins c ns ds => if c ∈ cs then (ns.idxOf? f).bind (ds[·]?) else none
  | _ => none
def FldOk (K : PySem.W.Frag) (mg : Str → Option Value) (f : Str) (cs : List Str) : Prop := ∀ c ∈ cs, ∃ C, mg c = some (.ref C) ∧ Cls K C ∧ NoAttr K C f
def insOk (cs : List Str) (m : Str) : D → Option Unit
  | .ins c ns _ => if c ∈ cs ∧ m ∉ ns then some () else none
  | _ => none
def dispM {α : Type} (L : List (Str × (List D → R α))) : D → List D → R α
  | .ins c ns vs, ds => match L.lookup c with
    | some g => g (.ins c ns vs :: ds)
    | none => .stuck
  | _, _ => .stuck
theorem lookup_mem {α : Type} {c : Str} {g : α} : ∀ {L : List (Str × α)}, L.lookup c = some g → (c, g) ∈ L
  | [], h => by cases h
  | (d, a) :: L, h => by
    by_cases q : c = d
    · subst q
      simp [List.lookup] at h
      subst h
      exact .head _
    · have q' : (c == d) = false := by simpa using q
      simp [List.lookup, q'] at h
      exact .tail _ (lookup_mem h)
section
variable {X : Cx} {fx : Fx} {m : Type → Type} [Mo m] {G : List Sl} {o : Expr} {es : List Expr} {pos p apos : Pos} {x : m D} {ys : m (List D)} {kk j : Nat} {f mn : Str} {cs : List Str}
theorem de_fld (cs : List Str) (ho : PE X o (tE X.K X.mg fx G x)) (hf : FldOk X.K X.mg f cs) (hb : attributeBase o f X.env (eval o X.env) = eval o X.env := by rfl) : PE X (.Attribute o f pos) (tE X.K X.mg fx G (do let u ← x; DL.ask (fldD cs f u))) :=
  peI (pe_fld ho hb) fun σ H Q ⟨Hf, s, h⟩ => (h.bind.mono fun v1 H1 ⟨d1, Hf1, s1, sb1, r1, h1⟩ => by
    obtain ⟨d, e, q⟩ := h1.ask
    cases d1 with
    | ins c ns ds =>
      have e' : (if c ∈ cs then (ns.idxOf? f).bind (ds[·]?) else none) = some d := e
      by_cases hc : c ∈ cs
      · rw [if_pos hc] at e'
        obtain ⟨C, mC, cl, na⟩ := hf c hc
        obtain ⟨a, C', dx, vs, ea, mC', ha, hl, l⟩ := r1
        rw [mC] at mC'
        cases mC'
        cases e1 : ns.idxOf? f with
        | none => rw [e1] at e'; cases e'
        | some i =>
          rw [e1] at e'
          obtain ⟨v, ev, iv⟩ := l.get (show ds[i]? = some d from e')
          exact ⟨a, C, dx, _, v, ea, h1.1.top _ _ ha, cl, na, lookup_zip e1 ev, q v Hf1 H1 (.refl h1.1.top) iv⟩
      · rw [if_neg hc] at e'; cases e'
    | _ => cases e).to
end
end DL
namespace DL
open PySem PySem.Spec PyProof.Rows L2
structure IsT (K : PySem.W.Frag) (mg : Str → Option Value) (tv : Value) (L : List (Str × Bool)) (B : List (String × Bool)) : Prop where
  own : ∀ q ∈ L, ∃ C, ClsN K mg q.1 C ∧ PySem.W.kitOne K (.ref C) tv = some q.2
  bl : ∀ q ∈ B, PySem.W.kitOne K (.type q.1) tv = some q.2
def isiT (L : List (Str × Bool)) (B : List (String × Bool)) : D → Option D
  | .ins c _ _ => (L.lookup c).map .bl
  | d => match tyD d with
    | some a => (B.lookup a).map .bl
    | none => none
theorem lookup_mem' {α β : Type} [BEq α] [LawfulBEq α] {c : α} {g : β} : ∀ {L : List (α × β)}, L.lookup c = some g → (c, g) ∈ L
  | [], h => by cases h
  | (d, a) :: L, h => by
    by_cases q : c = d
    · subst q
      simp [List.lookup] at h
      subst h
      exact .head _
    · have q' : (c == d) = false := by simpa using q
      simp [List.lookup, q'] at h
      exact .tail _ (lookup_mem' h)
section
variable {X : Cx} {fx : Fx} {m : Type → Type} [Mo m] {G : List Sl} {e e2 : Expr} {pos p : Pos} {x : m D}
theorem isi_call {pins : List (Addr × Obj)} {σ : L2.St} {H Hf : Hp} {s : Shared} {Q : VK} {d r : D} {v : V} {u tv : Value} {L : List (Str × Bool)} {B : List (String × Bool)} (T : IsT X.K X.mg tv L B) (I : L2.Inv X pins σ H s) (sb : Sub Hf H) (i : Is X.K X.mg Hf d v) (ru : L2.RelV v u) (hr : isiT L B d = some r)
    (q : ∀ w Hf' H', Ste [] Hf H Hf' H' → Is X.K X.mg Hf' r w → Q w H') : wpAny (model X.prog X.w) X.A (call (.builtin "isinstance") [u, tv]) (EP X pins σ Q) X.xe s := by
  have other : ∀ {a : String} {b : Bool}, tyD d = some a → B.lookup a = some b → r = .bl b → wpAny (model X.prog X.w) X.A (call (.builtin "isinstance") [u, tv]) (EP X pins σ Q) X.xe s := by
    intro a b e1 e2 e3
    subst e3
    obtain ⟨P, Z, p, hx⟩ := kit_of I ru (tyD_is sb i e1)
    exact PySem.W.kia_one Z I.kIn p (T.bl _ (lookup_mem' e2)) hx fun tk => ⟨.bl b, H, I.tok tk, rfl, q _ Hf H (.refl sb) (is_bl _)⟩
  cases d with
  | ins c ns ds =>
    have e' : (L.lookup c).map D.bl = some r := hr
    cases hb : L.lookup c with
    | none => rw [hb] at e'; cases e'
    | some b =>
      rw [hb] at e'
      cases e'
      obtain ⟨C, cn, hk⟩ := T.own _ (lookup_mem hb)
      obtain ⟨a, C', dx, us, ea, mC', hH, hl, l⟩ := i
      subst ea
      cases (show u = Value.ref a from ru)
      have mC := cn.mg
      rw [mC'] at mC
      cases mC
      obtain ⟨mA, O, _⟩ := ins_get I.hok (sb _ _ hH)
      obtain ⟨od, J, _⟩ := O.look
      have ic : PySem.W.isClsIn X.K C = true := by
        obtain ⟨cd, hc, _⟩ := PySem.W.any_some cn.cl.hd
        show (PySem.W.clsIn X.K C).isSome = true
        rw [hc]
        rfl
      exact PySem.W.kia_one (OwX.kitx_slt ic (cn.cl.get _) cn.ca cn.cn cn.ct cn.cm) I.kIn J hk (fun z => nomatch z) fun tk => ⟨.bl b, H, I.tok _, rfl, q _ Hf H (.refl sb) (is_bl _)⟩
  | _ =>
    simp only [isiT] at hr
    split at hr
    · rename_i a e1
      cases e2 : B.lookup a with
      | none => rw [e2] at hr; cases hr
      | some b => rw [e2] at hr; cases hr; exact other e1 e2 rfl
    · cases hr
theorem pe_own {c : Str} {C : Addr} (h : X.mg c = some (.ref C)) (hg : Gl X c := by rfl) (hd : (c == ("__debug__" : Str)) = false := by decide) : PE X (.Name c p) (fun _ H Q => Q (.ref C) H) := pe_glob hg h (v := .ref C) rfl hd
def rIsT (X : Cx) (L : List (Str × Bool)) (B : List (String × Bool)) (c : V) : List V → Hp → VK → Prop := fun xs H Q => ∃ Hf d v r, xs = [v, c] ∧ Sub Hf H ∧ Is X.K X.mg Hf d v ∧ isiT L B d = some r ∧ ∀ w Hf' H', Ste [] Hf H Hf' H' → Is X.K X.mg Hf' r w → Q w H'
theorem call_isT {tv : Value} {c : V} {L : List (Str × Bool)} {B : List (String × Bool)} (k : ClsV c tv) (T : IsT X.K X.mg tv L B) : CallR X (.builtin "isinstance") (rIsT X L B c) := by
  intro pins s σ H xs us Q I r h
  obtain ⟨Hf, d, v, rr, rfl, sb, i, e, q⟩ := h
  obtain ⟨u1, u2, rfl, r1, r2⟩ := vals2 r
  have e2 := k.eq r2
  subst e2
  exact isi_call T I sb i r1 e q
theorem de_isT {tv : Value} {cv : V} {L : List (Str × Bool)} {B : List (String × Bool)} (k : ClsV cv tv) (T : IsT X.K X.mg tv L B) (he : PE X e (tE X.K X.mg fx G x)) (hc : PE X e2 (fun _ H Q => Q cv H)) (hg : Gl X "isinstance") (hm : X.mg "isinstance" = none)
    (hs : starEach [e, e2] X.env = (false, eval e X.env) :: starEach [e2] X.env := by rfl) (hs2 : starEach [e2] X.env = (false, eval e2 X.env) :: starEach [] X.env := by rfl) (hpl : (backTo pos (starEach [e2] X.env)).any (·.1) = false := by rfl) :
    PE X (.Call (.Name "isinstance" p) [e, e2] [] pos) (tE X.K X.mg fx G (do let d ← x; DL.ask (isiT L B d))) :=
  peI (pe_callB (call_isT k T) hg hm rfl (pa_cons he (pa_cons hc pa_nil hs2) hs) (by decide) (by decide) hs hpl) fun σ H Q ⟨Hf, s, h⟩ =>
  (h.bind.mono fun v1 H1 ⟨d1, Hf1, s1, sb1, r1, h1⟩ => by
    obtain ⟨d, e, q⟩ := h1.ask
    exact ⟨Hf1, d1, v1, d, rfl, h1.1.top, r1, e, q⟩).to
end
end DL
namespace DL
open PySem PySem.Spec PyProof.Rows L2
def toO : R D → Option D
  | .ok d => some d
  | _ => none
def okR (Ls : List Str) : D → Bool
  | .ins c _ _ => decide (c ∈ Ls)
  | d => (tyD d).isSome
def eqO (L : List (Str × (List D → R D))) (a b : D) : Option D := match a with
  | .ins c ns ds => if okR (L.map Prod.fst) b = true then (L.lookup c).bind fun g => toO (g [.ins c ns ds, b]) else none
  | a => eqD a b
def notD : D → Option D
  | .bl b => some (.bl !b)
  | _ => none
def neO (L : List (Str × (List D → R D))) (a b : D) : Option D := match a with
  | .ins c ns ds => (eqO L (.ins c ns ds) b).bind notD
  | a => neD a b
def baseTys : List String := ["NoneType", "bool", "int", "str", "tuple", "list", "dict"]
def EqC (P : Program) (w : World) (K : PySem.W.Frag) (mg : Str → Option Value) (base : Heap) (k : Nat) (Ls : List Str) (c : Str) (g : List D → R D) : Prop :=
  ∃ C f, ClsN K mg c C ∧ PySem.W.findIn K (.ref C) "__eq__" = some (some (.ref f)) ∧ PySem.W.isFn K (.ref f) = true ∧ FnP P w K mg base k f [] (spR K mg false 2 g) ∧ (∀ T ∈ baseTys, PySem.W.notFirst K C (.type T) = true) ∧ (∀ c' ∈ Ls, ∀ C', mg c' = some (.ref C') → PySem.W.notFirst K C (.ref C') = true) ∧
    PySem.W.findIn K (.ref C) "__ne__" = some (some (.builtin "object.__ne__"))
theorem tyD_base {d : D} {T : String} (h : tyD d = some T) : T ∈ baseTys := by
  cases d <;> cases h <;> simp [baseTys]
theorem ex_false {P : Program} {w : World} {mg : Str → Option Value} {outer : List Env} {H : Hp} {s s' : Shared} {e : Value} (h : CXm P w mg outer H s (fun _ _ _ => False) e s') : False := cxm_false h
section
variable {X : Cx} {k n : Nat} {L : List (Str × (List D → R D))}
theorem dun_run {A : Around} {E : Value → Shared → Prop} {pins : List (Addr × Obj)} {σ : L2.St} {H Hf : Hp} {s : Shared} {Q : VK} {f : Addr} {g : List D → R D} {ds : List D} {vs : List V} {us : List Value} {d : D} (F : FnP X.prog X.w X.K X.mg X.base k f [] (spR X.K X.mg false n g)) (hg : A.guards = some []) (hr : Room k A) (e0 : Env0 X.prog X.w X.K X.mg X.base A X.stack s H) (I : L2.Inv X pins σ H s)
    (sb : Sub Hf H) (i : IsL X.K X.mg Hf ds vs) (hn : vs.length = n) (r : Vals vs us) (e : toO (g ds) = some d) (q : ∀ u Hf' H', Ste [] Hf H Hf' H' → Is X.K X.mg Hf' d u → Q u H') : wpAny (model X.prog X.w) A (call (.ref f) us) (EP X pins σ Q) E s := by
  refine wpAny_call (codeAny_mono (F A X.stack s H us [] vs Q (fun _ _ _ => False) hg hr e0 rfl (by rw [List.append_nil]; exact r) ⟨hn, Hf, ds, sb, i, ?_⟩) fun r s' hq => ?_)
  · cases z : g ds with
    | ok d' => rw [z] at e; cases e; exact fun v Hf' H' st i => q v Hf' H' st i
    | ex e2 => rw [z] at e; cases e
    | stuck => rw [z] at e; cases e
  · cases r with
    | error e => exact (ex_false hq).elim
    | ok fl =>
      cases fl with
      | ret u => exact I.after hq
      | next => exact False.elim hq
      | brk => exact False.elim hq
      | cont => exact False.elim hq
theorem right_ty {pins : List (Addr × Obj)} {σ : L2.St} {H Hf : Hp} {s : Shared} {d : D} {v : V} {u : Value} {Ls : List Str} (I : L2.Inv X pins σ H s) (sb : Sub Hf H) (i : Is X.K X.mg Hf d v) (r : L2.RelV v u) (h : okR Ls d = true) :
    ∃ tb, PySem.W.Looks (model X.prog X.w) s.heap (typeOf u) tb ∧ ((∃ T ∈ baseTys, tb = .type T) ∨ ∃ c ∈ Ls, ∃ C, X.mg c = some (.ref C) ∧ tb = .ref C) := by
  have other : ∀ {T : String}, tyD d = some T → ∃ tb, PySem.W.Looks (model X.prog X.w) s.heap (typeOf u) tb ∧ ((∃ T ∈ baseTys, tb = .type T) ∨ ∃ c ∈ Ls, ∃ C, X.mg c = some (.ref C) ∧ tb = .ref C) := by
    intro T e
    obtain ⟨P, Z, p, _⟩ := kit_of I r (tyD_is sb i e)
    exact ⟨.type T, Z.ty _ _ I.kIn p, .inl ⟨T, tyD_base e, rfl⟩⟩
  cases d with
  | ins c ns ds =>
    have hc : c ∈ Ls := of_decide_eq_true h
    obtain ⟨a, C, dx, us, ea, mC, hH, hl, l⟩ := i
    subst ea
    cases (show u = Value.ref a from r)
    obtain ⟨mA, O, _⟩ := ins_get I.hok (sb _ _ hH)
    obtain ⟨od, J, _⟩ := O.look
    exact ⟨.ref C, J.type, .inr ⟨c, hc, C, mC, rfl⟩⟩
  | scr _ => exact other rfl
  | xc _ _ _ _ => cases h
  | non => exact other rfl
  | bl _ => exact other rfl
  | int _ => exact other rfl
  | str _ => exact other rfl
  | tup _ => exact other rfl
  | lst _ => exact other rfl
  | dic _ _ => exact other rfl
theorem od_eqO (hL : ∀ q ∈ L, EqC X.prog X.w X.K X.mg X.base k (L.map Prod.fst) q.1 q.2) (hg : X.A.guards = some []) (hr : Room k X.A) (hb : OpR X (compareOp .Eq) (rD2 X.K X.mg eqD)) : OpR X (compareOp .Eq) (rD2 X.K X.mg (eqO L)) := by
  intro pins s σ H x y v u Q I rx ry h
  obtain ⟨Hf, dx, dy, d, sb, ix, iy, e, q⟩ := h
  have other : eqD dx dy = some d → wpAny (model X.prog X.w) X.A (compareOp .Eq v u) (EP X pins σ Q) X.xe s := fun e => hb pins s σ H x y v u Q I rx ry ⟨Hf, dx, dy, d, sb, ix, iy, e, q⟩
  cases dx with
  | ins c ns ds =>
    have e' : (if okR (L.map Prod.fst) dy = true then (L.lookup c).bind fun g => toO (g [.ins c ns ds, dy]) else none) = some d := e
    by_cases hk : okR (L.map Prod.fst) dy = true
    · rw [if_pos hk] at e'
      cases hlk : L.lookup c with
      | none => rw [hlk] at e'; cases e'
      | some g =>
        rw [hlk] at e'
        have e2 : toO (g [.ins c ns ds, dy]) = some d := e'
        obtain ⟨C, f, cn, hs, hf, F, n1, n2, _⟩ := hL _ (lookup_mem hlk)
        have ix' := ix
        obtain ⟨a, C', dx', us, ea, mC, hH, hl, l⟩ := ix
        rw [cn.mg] at mC
        cases mC
        subst ea
        cases (show v = Value.ref a from rx)
        obtain ⟨mA, O, _⟩ := ins_get I.hok (sb _ _ hH)
        obtain ⟨od, J, _⟩ := O.look
        obtain ⟨tb, ht, hn⟩ := right_ty I sb iy ry hk
        have hn' : PySem.W.notFirst X.K C tb = true := by
          rcases hn with ⟨T, hT, rfl⟩ | ⟨c', hc', C', mC', rfl⟩
          · exact n1 T hT
          · exact n2 c' hc' C' mC'
        obtain ⟨m', hF⟩ := I.fr
        refine PySem.W.cmp_K (op := .Eq) (tb := tb) hr.units0 hF I.ok.mod.kin J ht hn' hs hf ?_
        refine wpAny_mono (dun_run (us := [.ref a, u]) (Q := Q) F hg hr I.env0 I sb (.cons ix' (.cons iy .nil)) rfl (.cons rfl (.cons ry .nil)) e2 q) (fun w s' z => ?_) fun _ _ z => z
        obtain ⟨z', H', I', rz, qz⟩ := z
        exact SlX.cmpback rz ⟨z', H', I', rz, qz⟩
    · rw [if_neg hk] at e'; cases e'
  | _ => exact other e
end
open Builtin in
theorem ne_call {prog : Program} {w : World} {A : Around} {E : Value → Shared → Prop} {s : Shared} {K : PySem.W.Frag} {x C f : Addr} {ox : Obj} {od : Option Obj} {b : Value} {Q : Value → Shared → Prop} (hu : A.in1.units < cLine) (X : K.In s.heap) (I : PySem.W.InstAt s.heap x ox C od) (hm : PySem.W.mroIn K C (.type "object") = some true)
    (hs : PySem.W.findIn K (.ref C) "__eq__" = some (some (.ref f))) (hf : PySem.W.isFn K (.ref f) = true) (h : wpAny (model prog w) A.in1 (call (.ref f) [.ref x, b]) (fun v s' => ∃ r, v = .bool r ∧ Q (.bool (!r)) s') E s) : wpAny (model prog w) A (call (.builtin "object.__ne__") [.ref x, b]) Q E s := by
  refine wpAny_call (codeAny_call_builtin PySem.F.slot_object_ne.plain PySem.F.cmpEntry_ne (PySem.W.check_slot (i := "object.__ne__") (owner := "object") (n := "__ne__") (by decide +kernel) (by decide +kernel) (I.type.andThen (PySem.W.looks_mroIn X hm)) (PySem.F.cmpArgs_ne _ _) ?_))
  unfold Builtin.«object.__ne__»
  repeat (first
    | with_reducible refine wpAny_cRoomFor hu ?_
    | (refine wpAny_bind (m := callSpecialIfBound? (.ref x) (Str.ofString "__eq__") [b])
        (PySem.W.ifBound_K X I hs hf (wpAny_mono h (fun r s' hr => by
          obtain ⟨b, rfl, hq⟩ := hr
          repeat (first | exact hq | exact wpAny_pure hq | exact wpAny_truthy_bool hq | (refine wpAny_bind (m := truthy (.bool _)) (wpAny_truthy_bool ?_)) | wp_step)) fun _ _ e => e)))
    | wp_step)
theorem ifBound_B {M : Model} {A : Around} {E : Value → Shared → Prop} {s : Shared} {K : PySem.W.Frag} {x C : Addr} {ox : Obj} {od : Option Obj} {name : Str} {id : String} {args : List Value} {Q : Option Value → Shared → Prop} (X : K.In s.heap) (I : PySem.W.InstAt s.heap x ox C od) (hs : PySem.W.findIn K (.ref C) name = some (some (.builtin id))) (hb : ∀ self, bindSpecial (.builtin id) self = pure (.builtin id, [self]))
    (h : wpAny M A (call (.builtin id) (.ref x :: args)) (fun v => Q (some v)) E s) : wpAny M A (callSpecialIfBound? (.ref x) name args) Q E s := by
  simp only [callSpecialIfBound?, bindSpecialIfBound?]
  refine wpAny_holding (wpAny_bind (wpAny_bind (wpAny_bind (I.type.here ((PySem.W.looks_findIn X hs).here ?_)))))
  refine wpAny_bind (wpAny_askSetting (wpAny_ite ?_))
  have fin : wpAny M A (call (.builtin id) ([.ref x] ++ args) >>= fun v => pure (some v)) Q E s := wpAny_bind (wpAny_mono h (fun v s' h' => wpAny_pure h') fun _ _ h' => h')
  split
  · exact wpAny_bind ((PySem.W.Looks.of_pure (hb _)).here (wpAny_pure (by exact fin)))
  · exact wpAny_tryCatch (wpAny_bind ((PySem.W.Looks.of_pure (hb _)).here (wpAny_pure (by exact fin))))
theorem ne_K {prog : Program} {w : World} {A : Around} {E : Value → Shared → Prop} {s : Shared} {K : PySem.W.Frag} {x C f : Addr} {ox : Obj} {od : Option Obj} {b tb : Value} {Q : Value → Shared → Prop} (hu : A.in1.units < cLine) (hu0 : A.units < cLine) (X : K.In s.heap) (I : PySem.W.InstAt s.heap x ox C od) (hb : PySem.W.Looks (model prog w) s.heap (typeOf b) tb) (hn : PySem.W.notFirst K C tb = true) (hm : PySem.W.mroIn K C (.type "object") = some true)
    (hne : PySem.W.findIn K (.ref C) "__ne__" = some (some (.builtin "object.__ne__")))
    (hs : PySem.W.findIn K (.ref C) "__eq__" = some (some (.ref f))) (hf : PySem.W.isFn K (.ref f) = true) (h : wpAny (model prog w) A.in1 (call (.ref f) [.ref x, b]) (fun v s' => ∃ r, v = .bool r ∧ Q (.bool (!r)) s') E s) : wpAny (model prog w) A (richCompare .NotEq (.ref x) b) Q E s := by
  have one : wpAny (model prog w) A (tryCompare (.ref x) (cmpInfo .NotEq).2.1 b) (fun r s' => ∃ v, r = some v ∧ Q v s') E s := by
    unfold tryCompare
    refine wpAny_bind (wpAny_mono (ifBound_B (Q := fun r s' => ∃ r', r = some (.bool r') ∧ Q (.bool r') s') X I hne PySem.F.slot_object_ne.bind (wpAny_mono (ne_call (Q := fun v s' => ∃ r, v = .bool r ∧ Q (.bool r) s') hu X I hm hs hf (wpAny_mono h (fun v s' hv => ?_) fun _ _ e => e)) (fun v s' hv => ?_) fun _ _ e => e)) (fun r s' hr => ?_) fun _ _ e => e)
    · obtain ⟨r, rfl, q⟩ := hv
      exact ⟨r, rfl, _, rfl, q⟩
    · obtain ⟨r', rfl, q⟩ := hv
      exact ⟨r', rfl, q⟩
    · obtain ⟨r', rfl, q⟩ := hr
      exact wpAny_pure ⟨_, rfl, q⟩
  unfold richCompare
  simp only [oneThing_ref]
  refine wpAny_holding (wpAny_bind (wpAny_cRoomFor hu0 ?_))
  refine wpAny_bind (I.type.here (wpAny_bind (hb.here ?_)))
  split
  · rename_i q
    have e : PySem.W.subIn K tb (.ref C) = some false := by
      rcases Bool.or_eq_true_iff.mp hn with e | e
      · rw [beq_iff_eq.mp e] at q; simp at q
      · exact beq_iff_eq.mp e
    refine wpAny_bind ((PySem.W.looks_subIn X e).here ?_)
    simp only [Bool.false_eq_true, if_false]
    refine wpAny_bind (wpAny_mono one (fun r s' z => ?_) fun _ _ e => e)
    obtain ⟨v, rfl, hq⟩ := z
    exact wpAny_pure hq
  · refine wpAny_bind (wpAny_pure ?_)
    simp only [Bool.false_eq_true, if_false]
    refine wpAny_bind (wpAny_mono one (fun r s' z => ?_) fun _ _ e => e)
    obtain ⟨v, rfl, hq⟩ := z
    exact wpAny_pure hq
section
variable {X : Cx} {k : Nat} {L : List (Str × (List D → R D))}
theorem od_neO (hL : ∀ q ∈ L, EqC X.prog X.w X.K X.mg X.base k (L.map Prod.fst) q.1 q.2) (hg : X.A.guards = some []) (hr : Room (k + 1) X.A) (hb : OpR X (compareOp .NotEq) (rD2 X.K X.mg neD)) : OpR X (compareOp .NotEq) (rD2 X.K X.mg (neO L)) := by
  intro pins s σ H x y v u Q I rx ry h
  obtain ⟨Hf, dx, dy, d, sb, ix, iy, e, q⟩ := h
  have other : neD dx dy = some d → wpAny (model X.prog X.w) X.A (compareOp .NotEq v u) (EP X pins σ Q) X.xe s := fun e => hb pins s σ H x y v u Q I rx ry ⟨Hf, dx, dy, d, sb, ix, iy, e, q⟩
  cases dx with
  | ins c ns ds =>
    have e0 : (eqO L (.ins c ns ds) dy).bind notD = some d := e
    cases e3 : eqO L (.ins c ns ds) dy with
    | none => rw [e3] at e0; cases e0
    | some d1 =>
      rw [e3] at e0
      have e4 : notD d1 = some d := e0
      have e' : (if okR (L.map Prod.fst) dy = true then (L.lookup c).bind fun g => toO (g [.ins c ns ds, dy]) else none) = some d1 := e3
      by_cases hk : okR (L.map Prod.fst) dy = true
      · rw [if_pos hk] at e'
        cases hlk : L.lookup c with
        | none => rw [hlk] at e'; cases e'
        | some g =>
          rw [hlk] at e'
          have e2 : toO (g [.ins c ns ds, dy]) = some d1 := e'
          obtain ⟨C, f, cn, hs, hf, F, n1, n2, hne⟩ := hL _ (lookup_mem hlk)
          have ix' := ix
          obtain ⟨a, C', dx', us, ea, mC, hH, hl, l⟩ := ix
          rw [cn.mg] at mC
          cases mC
          subst ea
          cases (show v = Value.ref a from rx)
          obtain ⟨mA, O, _⟩ := ins_get I.hok (sb _ _ hH)
          obtain ⟨od, J, _⟩ := O.look
          obtain ⟨tb, ht, hn⟩ := right_ty I sb iy ry hk
          have hn' : PySem.W.notFirst X.K C tb = true := by
            rcases hn with ⟨T, hT, rfl⟩ | ⟨c', hc', C', mC', rfl⟩
            · exact n1 T hT
            · exact n2 c' hc' C' mC'
          cases d1 with
          | bl b =>
            cases e4
            refine ne_K hr.in1.units0 hr.units0 I.kIn J ht hn' cn.cm hne hs hf ?_
            refine wpAny_mono (dun_run (us := [.ref a, u]) (Q := fun v H' => ∃ Hf', v = .bl b ∧ Ste [] Hf H Hf' H') F hg hr.in1 I.env0.in1 I sb (.cons ix' (.cons iy .nil)) rfl (.cons rfl (.cons ry .nil)) e2 fun u Hf' H' st i => ⟨Hf', i, st⟩) (fun w s' z => ?_) fun _ _ z => z
            obtain ⟨z', H', I', rz, Hf', ez, st⟩ := z
            subst ez
            exact ⟨b, rz, .bl (!b), H', I', rfl, q _ Hf' H' st (is_bl _)⟩
          | _ => cases e4
      · rw [if_neg hk] at e'; cases e'
  | _ => exact other e
end
end DL
namespace DL
open PySem PySem.Spec PyProof.Rows L2
def DunC (P : Program) (w : World) (K : PySem.W.Frag) (mg : Str → Option Value) (base : Heap) (k n : Nat) (m : Str) (c : Str) (g : List D → R D) : Prop :=
  ∃ C f, ClsN K mg c C ∧ PySem.W.findIn K (.ref C) m = some (some (.ref f)) ∧ PySem.W.isFn K (.ref f) = true ∧ FnP P w K mg base k f [] (spR K mg false n g)
section
variable {X : Cx} {k : Nat} {L : List (Str × (List D → R D))}
def numD (i : Int) : List Nat := (Str.ofString (toString i)).cps.toList
def strD : List D → Option D
  | [.int i] => if i.natAbs.log2 < 1920 then some (.str (numD i)) else none
  | [.str s] => some (.str s)
  | _ => none
theorem numD_is {K : PySem.W.Frag} {mg : Str → Option Value} {H : Hp} {i : Int} (h : i.natAbs.log2 < 1920) : Is K mg H (.str (numD i)) (.str (toString i : String)) := by
  refine ⟨by unfold numD; simp, ?_⟩
  have := int_text_fits h
  simpa [numD, Str.length] using this
theorem oc_str : CallR X (.type "str") (rDs X.K X.mg strD) := by
  intro pins s σ H xs us Q I r h
  obtain ⟨Hf, ds, d, sb, l, e, q⟩ := h
  unfold strD at e
  split at e
  · split at e
    · rename_i i hi
      cases e
      obtain ⟨v, r1, rfl, rfl, rfl⟩ := l
      exact call_str_int pins s σ H _ us Q I r ⟨i, rfl, hi, q _ Hf H (.refl sb) (numD_is hi)⟩
    · cases e
  · cases e
    obtain ⟨v, r1, rfl, ⟨rfl, hz⟩, rfl⟩ := l
    exact SkE.call_str_str pins s σ H _ us Q I r ⟨_, rfl, q _ Hf H (.refl sb) ⟨rfl, hz⟩⟩
  · cases e
def strO (L : List (Str × (List D → R D))) : List D → Option D
  | [.ins c ns ds] => match (L.lookup c).bind fun g => toO (g [.ins c ns ds]) with
    | some (.str s) => some (.str s)
    | _ => none
  | ds => strD ds
theorem oc_strO (hL : ∀ q ∈ L, DunC X.prog X.w X.K X.mg X.base k 1 "__str__" q.1 q.2) (hg : X.A.guards = some []) (hr : Room (k + 2) X.A) : CallR X (.type "str") (rDs X.K X.mg (strO L)) := by
  intro pins s σ H xs us Q I r h
  obtain ⟨Hf, ds, d, sb, l, e, q⟩ := h
  unfold strO at e
  split at e
  · rename_i c ns vs
    split at e
    · rename_i z hi
      cases e
      cases hlk : L.lookup c with
      | none => rw [hlk] at hi; cases hi
      | some g =>
        rw [hlk] at hi
        obtain ⟨C, f, cn, hs, hf, F⟩ := hL _ (lookup_mem hlk)
        obtain ⟨v, r1, rfl, iv, rfl⟩ := l
        obtain ⟨u, rfl, ru⟩ := r.one
        have iv' := iv
        obtain ⟨a, C', dx', us', ea, mC, hH, hl, l'⟩ := iv
        rw [cn.mg] at mC
        cases mC
        subst ea
        cases (show u = Value.ref a from ru)
        obtain ⟨mA, O, _⟩ := ins_get I.hok (sb _ _ hH)
        obtain ⟨od, J, _⟩ := O.look
        have hr2 : Room k X.A.in1.in1 := (show Room (k + 1) X.A.in1 from Room.in1 hr).in1
        refine PySem.W.kso_call hr2.units0 I.kIn J hs hf ?_
        refine wpAny_mono (dun_run (us := [.ref a]) (Q := fun v H' => ∃ Hf', v = .str ⟨z.toArray⟩ ∧ z.length ≤ sizeLine ∧ Ste [] Hf H Hf' H') F hg hr2 I.env0.in1.in1 I sb (.cons iv' .nil) rfl (.cons rfl .nil) hi fun u Hf' H' st i => ⟨Hf', i.1, i.2, st⟩) (fun w s' z => ?_) fun _ _ z => z
        obtain ⟨z', H', I', rz, Hf', ez, hz, st⟩ := z
        subst ez
        obtain ⟨t, rfl⟩ := (show ∃ t, w = Value.str _ t from rz)
        exact ⟨.str _, H', I', ⟨_, rfl⟩, q _ Hf' H' st ⟨rfl, hz⟩⟩
    · cases e
  · exact oc_str pins s σ H xs us Q I r ⟨Hf, ds, d, sb, l, e, q⟩
end
end DL
namespace DL
open PySem PySem.Spec PyProof.Rows L2
def setN : List Nat → Nat → List D → List Sl → List Sl
  | [], _, _, G => G
  | i :: is, k, c, G => setN is (k + 1) c (G.set i (.im (c.getD k .non)))
def unN (n : Nat) : D → Option (List D)
  | .tup ds => if ds.length = n then some ds else none
  | _ => none
def gsOf : List Nat → TGs
  | [] => gNil
  | i :: is => gCons (gName i) (gsOf is)
section
variable {X : Cx} {fx : Fx} {kk : Nat} {pos : Pos}
inductive Tgts (X : Cx) : List Expr → List Nat → Prop
  | nil : Tgts X [] []
  | cons {n : Str} {p : Pos} {es : List Expr} {is : List Nat} (i : Nat) (r : Tgts X es is) (hi : X.N[i]? = some n := by rfl) (hx : Loc X.env.scope n := by first | exact Or.inl rfl | exact Or.inr rfl) (hf : X.fn n = true ∨ X.env.scope.names.lookup n = some .local := by first | exact .inl rfl | exact .inr rfl) : Tgts X (.Name n p :: es) (i :: is)
theorem tgts_pgs (nd : X.N.Nodup) {es : List Expr} {is : List Nat} (h : Tgts X es is) : PGs X es (gsOf is) := by
  induction h with
  | nil => exact pgs_nil
  | cons i r hi hx hf ih => exact pgs_cons (pg_name nd hi hx hf) ih
theorem gs_read {Hf H : Hp} {s : S} {Q : L2.St → Hp → Prop} : ∀ (is : List Nat) (k : Nat) (c ds : List D) (vs : List V) {σ : L2.St} {G : List Sl}, StS X.K X.mg fx Hf H σ G s → IsL X.K X.mg Hf ds vs → c.drop k = ds → ds.length = is.length →
    (∀ σ', (∀ j, j ∉ is → σ'[j]? = σ[j]?) → σ'.length = σ.length → StS X.K X.mg fx Hf H σ' (setN is k c G) s → Q σ' H) → gsOf is vs σ H Q
  | [], k, c, ds, vs, σ, G, st, l, e, hl, q => by
    cases ds with
    | nil => cases l; exact ⟨rfl, q σ (fun _ _ => rfl) rfl st⟩
    | cons d ds => simp at hl
  | i :: is, k, c, ds, vs, σ, G, st, l, e, hl, q => by
    cases ds with
    | nil => simp at hl
    | cons d ds =>
      obtain ⟨v, r, rfl, iv, l'⟩ := l
      have hk : c.getD k .non = d := by
        have : c[k]? = some d := by
          have := congrArg (fun z => z[0]?) e
          simpa using this
        simp [List.getD, this]
      refine ⟨v, r, rfl, ?_⟩
      refine gs_read is (k + 1) c ds r (st.set (i := i) iv) l' ?_ (by simpa using hl) fun σ' h1 h2 st' => q σ' (fun j hj => ?_) (by simpa using h2) ?_
      · have := congrArg (List.drop 1) e
        simpa [List.drop_drop, Nat.add_comm] using this
      · rw [h1 j fun z => hj (List.mem_cons_of_mem _ z), List.getElem?_set_ne fun z => hj (by simp [z])]
      · show StS X.K X.mg fx Hf H σ' (setN is (k + 1) c (G.set i (.im (c.getD k .non)))) s
        rw [hk]; exact st'
theorem pgd_tupN (C : Cok X fx kk) {es : List Expr} {is : List Nat} {k : Nat} (n : Nat) (h : Tgts X es is) (hn : is.length = n := by rfl) (hl : (assignEach es X.env).length = n := by rfl) (hst : (assignEach es X.env).findIdx? (·.1) = none := by rfl) :
    PGd X fx (.Tuple es k pos) (gTup X.K n (gsOf is)) (unN n) (fun G c => setN is 0 c G) is :=
  ⟨pg_tup C.calm (tgts_pgs C.nd h) hl hst, fun {G Hf d v σ H s c Q} st r e q => by
    cases d with
    | tup ds =>
      obtain ⟨hz, a, vs, rfl, t, l⟩ := r
      have e' : (if ds.length = n then some ds else none) = some c := e
      by_cases hd : ds.length = n
      · rw [if_pos hd] at e'
        cases e'
        exact ⟨a, vs, rfl, st.top.sqt t, l.len.symm.trans hd, gs_read is 0 c c vs st l rfl (hd.trans hn.symm) q⟩
      · rw [if_neg hd] at e'; cases e'
    | _ => cases e⟩
end
section
variable {X : Cx} {fx : Fx} {m : Type → Type} [Mo m] {G : List Sl} {α β γ : Type} {kk : Nat} {e : Expr} {rest : List Stmt} {ex : α → List Sl} {exb : β → List Sl} {pos : Pos} {x : m D}
theorem dss_unp {tg : Expr} {g : TG} {u : D → Option γ} {st : List Sl → γ → List Sl} {is : List Nat} {k : γ → m (Fl α β)} (hg : PGd X fx tg g u st is) (he : PE X e (tE X.K X.mg fx G x)) (hr : ∀ c, PSs X rest (tS X.K X.mg fx (st G c) ex exb (k c)))
    (hs : swapsWithSole [tg] e pos.line X.env = pure false := by rfl) (hw : swappedStores [tg] e X.env = pure none := by rfl) (h1 : (assignEach [tg] X.env).map (·.2) = [assign tg X.env] := by rfl)
    (hgx : GxOk fx G := by first | exact True.intro | repeat' (first | exact True.intro | exact Or.inl rfl | exact Or.inr rfl | refine And.intro ?_ ?_)) :
    PSs X (.Assign [tg] e pos :: rest) (tS X.K X.mg fx G ex exb (do let d ← x; let c ← DL.ask (u d); k c)) := pssI (pss_cons (ps_asg he hg.1 hs hw h1) (pss_ex hr)) fun De σ H ⟨Hf, s, h⟩ =>
  ((h.bind hgx).mono fun v H1 ⟨d, Hf1, s1, sb, r, h1⟩ => by
    have w1 := Mo.wp_lift (Mo.wp_bind h1.2)
    cases hu : u d with
    | none => rw [hu] at w1; exact w1.elim
    | some c =>
      rw [hu] at w1
      exact hg.2 h1.1 r hu fun σ' _ _ st' => ⟨c, Hf1, s1, st', w1⟩).to
end
end DL
namespace DL
open PySem PySem.Spec PyProof.Rows L2
section
variable {X : Cx} {fx : Fx} {m : Type → Type} [Mo m] {G : List Sl} {pos : Pos}
inductive KVs (X : Cx) (fx : Fx) (m : Type → Type) [Mo m] (G : List Sl) : List (Option Expr) → List Expr → List (List Nat) → m (List D) → List (TE × TE) → Prop
  | nil : KVs X fx m G [] [] [] (pure []) []
  | cons {t : Str} {j : Nat} {p : Pos} {ks : List (Option Expr)} {v : Expr} {vs : List Expr} {ls : List (List Nat)} {x : m D} {ys : m (List D)} {trs : List (TE × TE)} (l : List Nat) (hv : PE X v (tE X.K X.mg fx G x)) (r : KVs X fx m G ks vs ls ys trs) (ht : t = ⟨l.toArray⟩ := by first | rfl | decide +kernel) (hl : l.length ≤ 1000 := by decide) :
      KVs X fx m G (some (.Constant (.str t) j p) :: ks) (v :: vs) (l :: ls) (do let d ← x; let ds ← ys; pure (d :: ds)) ((fun σ H Q => Q (.str ⟨l.toArray⟩) H, tE X.K X.mg fx G x) :: trs)
theorem KVs.some {ks : List (Option Expr)} {vs : List Expr} {ls : List (List Nat)} {ys : m (List D)} {trs : List (TE × TE)} (h : KVs X fx m G ks vs ls ys trs) : ks.all (·.isSome) = true ∧ ks.length = vs.length ∧ ks.length = ls.length := by
  induction h with
  | nil => exact ⟨rfl, rfl, rfl⟩
  | cons l hv r ht hl ih => exact ⟨by simp [ih.1], by simp [ih.2.1], by simp [ih.2.2]⟩
end
end DL
namespace DL
open PySem PySem.Spec PyProof.Rows L2 StX
end DL
namespace DL
open PySem PySem.Spec PyProof.Rows L2
def partD (a b : D) : Option D := match a, b with
  | .str z, .str s => if s ≠ [] ∧ z.length ≤ 1000000 then some (match TL.par s [] z with
    | some (p, q) => .tup [.str p, .str s, .str q]
    | none => .tup [.str z, .str [], .str []]) else none
  | _, _ => none
theorem par_len {s : List Nat} : ∀ {z acc p q : List Nat}, TL.par s acc z = some (p, q) → p.length + q.length ≤ acc.length + z.length := by
  intro z
  induction z with
  | nil =>
    intro acc p q h
    unfold TL.par at h
    cases h
  | cons c z ih =>
    intro acc p q h
    unfold TL.par at h
    split at h
    · cases h
      have : (List.drop s.length (c :: z)).length ≤ (c :: z).length := by rw [List.length_drop]; omega
      omega
    · have := ih h
      simp at this ⊢
      omega
def digs (z : List Nat) : Bool := z.all fun c => decide (48 ≤ c) && decide (c ≤ 57)
def intXD : List D → Option D
  | [.str z] => if digs z = true ∧ z ≠ [] ∧ z.length ≤ 640 then some (.int ((NumText.digitsVal z : Nat) : Int)) else none
  | ds => intD ds
section
variable {X : Cx} {fx : Fx} {m : Type → Type} [Mo m] {G : List Sl} {o e : Expr} {apos pos : Pos} {x y : m D}
theorem de_part (ho : PE X o (tE X.K X.mg fx G x)) (he : PE X e (tE X.K X.mg fx G y)) (hs : starEach [e] X.env = [(false, eval e X.env)] := by rfl) (hbase : attributeBase o "partition" X.env (eval o X.env) = eval o X.env := by rfl) (hline : (apos.endLine == pos.line) = true := by rfl) :
    PE X (.Call (.Attribute o "partition" apos) [e] [] pos) (tE X.K X.mg fx G (do let u ← x; let _ ← DL.ask (strOf u); let v ← y; DL.ask (partD u v))) :=
  peI (pe_partition ho he hs hbase hline) fun σ H Q ⟨Hf, s, h⟩ =>
  (h.bind.mono fun v1 H1 ⟨d1, Hf1, s1, sb1, r1, h1⟩ => by
    have k := Mo.wp_lift (Mo.wp_bind h1.2)
    cases d1 with
    | str z =>
      obtain ⟨rfl, hz1⟩ := r1
      refine ⟨⟨_, rfl⟩, ?_⟩
      have h2 : tX X.K X.mg fx G (fun H d v => Is X.K X.mg H d v) (do let v ← y; DL.ask (partD (.str z) v) : m D) Hf1 s1 σ H1 Q := ⟨h1.1, k⟩
      refine (h2.bind.mono fun v2 H2 ⟨d2, Hf2, s2, sb2, r2, h3⟩ => ?_).to
      have w3 := Mo.wp_lift h3.2
      cases d2 with
      | str S =>
        obtain ⟨rfl, hS⟩ := r2
        by_cases hc : S ≠ [] ∧ z.length ≤ 1000000
        · have hsz : sizeLine = 16777216 := sizeLine_eq
          refine ⟨⟨z.toArray⟩, ⟨S.toArray⟩, rfl, rfl, by simpa [Str.length] using hc.1, by rw [str_len]; omega, fun p hp => ?_⟩
          have hn := h3.1.new0 hp
          have st : Ste fx.bag Hf2 H2 (upd Hf2 p (.tup [.str (Txt.partition ⟨z.toArray⟩ ⟨S.toArray⟩).1, .str (Txt.partition ⟨z.toArray⟩ ⟨S.toArray⟩).2.1, .str (Txt.partition ⟨z.toArray⟩ ⟨S.toArray⟩).2.2])) (upd H2 p (.tup [.str (Txt.partition ⟨z.toArray⟩ ⟨S.toArray⟩).1, .str (Txt.partition ⟨z.toArray⟩ ⟨S.toArray⟩).2.1, .str (Txt.partition ⟨z.toArray⟩ ⟨S.toArray⟩).2.2])) := .new h3.1.top hp
          cases hp' : TL.par S [] z with
          | some pq =>
            obtain ⟨p1, q1⟩ := pq
            have e1 : partD (.str z) (.str S) = some (.tup [.str p1, .str S, .str q1]) := by
              show (if S ≠ [] ∧ z.length ≤ 1000000 then _ else none) = _
              rw [if_pos hc, hp']
            rw [e1] at w3
            have e2 := SX.partition_some (a := z) (b := S) hc.1 hp'
            rw [show (⟨z.toArray⟩ : Str) = SX.S z from rfl, show (⟨S.toArray⟩ : Str) = SX.S S from rfl, e2] at st ⊢
            have hl := par_len hp'
            rw [List.length_nil] at hl
            exact w3 (.ref p) _ _ st (h3.1.bag.upd hn.2.1) ⟨by show 3 ≤ sizeLine; omega, p, _, rfl, .inl (.inl upd_same), .cons ⟨rfl, by omega⟩ (.cons ⟨rfl, hS⟩ (.cons ⟨rfl, by omega⟩ .nil))⟩
          | none =>
            have e1 : partD (.str z) (.str S) = some (.tup [.str z, .str [], .str []]) := by
              show (if S ≠ [] ∧ z.length ≤ 1000000 then _ else none) = _
              rw [if_pos hc, hp']
            rw [e1] at w3
            have e2 := SX.partition_none (a := z) (b := S) hc.1 hp'
            rw [show (⟨z.toArray⟩ : Str) = SX.S z from rfl, show (⟨S.toArray⟩ : Str) = SX.S S from rfl, e2] at st ⊢
            exact w3 (.ref p) _ _ st (h3.1.bag.upd hn.2.1) ⟨by show 3 ≤ sizeLine; omega, p, _, rfl, .inl (.inl upd_same), .cons ⟨rfl, by omega⟩ (.cons ⟨rfl, by simp⟩ (.cons ⟨rfl, by simp⟩ .nil))⟩
        · have e1 : partD (.str z) (.str S) = none := if_neg hc
          rw [e1] at w3
          exact w3.elim
      | _ => exact w3.elim
    | _ => exact k.elim).to
end
end DL
namespace DL
open PySem PySem.Spec PyProof.Rows L2 StX
section
variable {P : Program} {w : World} {K : PySem.W.Frag} {mg : Str → Option Value} {base : Heap} {k : Nat} {f : Addr} {fd : FuncData} {ps ks ns : List Str} {g : List D → R (List D)}
theorem is_tupK {T : Addr} {od : Option Addr} {its : List Value} {vs : List V} {ds : List D} {n : Nat} {sl : Array (Option Value)} (l : K.lookup T = some ⟨.type "tuple", od, .seq its.toArray n, sl⟩) (hs : IsL K mg (fun _ => none) ds vs) (hv : Vals vs its) (hz : ds.length ≤ 1000) :
    Is K mg (fun _ => none) (.tup ds) (.ref T) := by
  have hsz : sizeLine = 16777216 := sizeLine_eq
  have h1 := hs.len
  have h2 := hv.length
  exact ⟨by omega, T, vs, rfl, .inr ⟨_, its.toArray, n, l, rfl, rfl, by rw [List.size_toArray]; omega, by simpa using hv⟩, hs⟩
end
end DL
namespace DL
open PySem PySem.Spec PyProof.Rows L2
def apI1 (fn : D → R (List D)) : List D → R (List D)
  | [a] => fn a
  | _ => .stuck
theorem apI1_len (f) : ∀ ds : List D, apI1 f ds ≠ .stuck → ds.length = 1 := fun ds h => by
  unfold apI1 at h
  split at h <;> first | rfl | exact absurd rfl h
def apI3 (fn : D → D → D → R (List D)) : List D → R (List D)
  | [a, b, c] => fn a b c
  | _ => .stuck
theorem apI3_len (f) : ∀ ds : List D, apI3 f ds ≠ .stuck → ds.length = 3 := fun ds h => by
  unfold apI3 at h
  split at h <;> first | rfl | exact absurd rfl h
end DL
namespace DL
open PySem PySem.Spec PyProof.Rows L2
end DL
namespace DL
open PySem
def noneOfB : List (String × Bool) := [("NoneType", false), ("bool", false), ("int", false), ("str", false), ("tuple", false), ("list", false), ("dict", false)]
end DL
namespace DL
open PySem PySem.Spec PyProof.Rows L2
end DL
namespace DL
open PySem PySem.Spec PyProof.Rows L2 StX
end DL
namespace DL
open PySem PySem.Spec PyProof.Rows L2
end DL
namespace DL
open PySem PySem.Spec PyProof.Rows L2
end DL
namespace DL
open PySem PySem.Spec PyProof.Rows L2
theorem assign_attr {M : Model} {A : Around} {E : Value → Shared → Prop} {s : Shared} {env : Env} {o : Expr} {f : Str} {pos' : Pos} {u : Value} {Q : Unit → Shared → Prop}
    (h : wpAny M A (eval o env) (fun ov s₂ => wpAny M A (setAttr ov f u) Q E s₂) E s) : wpAny M A (assign (.Attribute o f pos') env u) Q E s := fun Γ p hΓ => by
  simp only [assign_Attribute, Sem.wp_bind', Sem.wp_holding, Sem.wp_cmd_standAt, Sem.wp_release, Sem.wp_pure']
  exact Sem.wp_mono M Γ _ (fun ov _ s₂ h₂ => h₂ Γ _ hΓ) (fun _ _ _ h' => h') _ _ (h Γ _ hΓ)
def gFld (K : PySem.W.Frag) (to : TE) (f : Str) : TG := fun y σ H Q => to σ H fun x H2 => ∃ a C dx fs, x = .ref a ∧ H2 a = some (.ins C dx fs) ∧ Cls K C ∧ NoAttr K C f ∧ fs.length < 1000 ∧ Q σ (upd H2 a (.ins C dx (putF f y fs)))
section
variable {X : Cx} {o : Expr} {to : TE} {f : Str} {pos' : Pos}
theorem pg_fld (ho : PE X o to) : PG X (.Attribute o f pos') (gFld X.K to f) := by
  refine ⟨fun pins s σ H v u Q I r h => assign_attr (thn (ho.run pins s σ H _ I h) fun ov s2 ⟨x, H2, I2, rx, a, C, dx, fs, ex, ea, c, n, l, q2⟩ => ?_)⟩
  subst ex
  obtain rfl : ov = Value.ref a := rx
  exact setattr_ok I2 ea c n l r fun s3 I3 => ⟨σ, _, I3, q2⟩
end
end DL
namespace DL
open PySem L2
instance : LawfulMonad R := LawfulMonad.mk' (m := R) (id_map := fun x => by cases x <;> rfl) (pure_bind := fun _ _ => rfl) (bind_assoc := fun x _ _ => by cases x <;> rfl)
theorem M.ext {α : Type} {x y : M α} (h : ∀ s, x s = y s) : x = y := funext h
instance : LawfulMonad M := LawfulMonad.mk' (m := M)
  (id_map := fun x => M.ext fun s => by
    show (x s).bd (fun a s => .ok a s) = x s
    cases x s <;> rfl)
  (pure_bind := fun _ _ => rfl)
  (bind_assoc := fun x f g => M.ext fun s => by
    show ((x s).bd f).bd g = (x s).bd fun a => f a >>= g
    cases x s <;> rfl)
@[simp] theorem lift_R {α : Type} (r : R α) : (Mo.lift r : R α) = r := rfl
@[simp] theorem lift_M {α : Type} (a : α) : (Mo.lift (R.ok a) : M α) = pure a := rfl
@[simp] theorem noex_R {α : Type} (a : α) : (Mo.noex (R.ok a) : R α) = .ok a := rfl
@[simp] theorem noex_M {α : Type} (a : α) : (Mo.noex (pure a : M α) : M α) = pure a := rfl
@[simp] theorem askM {α : Type} (a : α) : (ask (some a) : M α) = pure a := rfl
@[simp] theorem mkL_R (ds : List D) : (mkL (R.ok ds) : R D) = .ok (.lst ds) := rfl
@[simp] theorem mkL_M (ds : List D) : (mkL (pure ds : M (List D)) : M D) = pure (.lst ds) := rfl
def Inv (s : S) : Prop := s.w = false ∧ 0 ≤ s.y ∧ s.y < 4294967296
def Ok {α : Type} (x : M α) (Q : α → Prop) : Prop := ∀ s, Inv s → ∃ a s', x s = .ok a s' ∧ Inv s' ∧ Q a
def OkR {α : Type} (x : R α) (Q : α → Prop) : Prop := ∃ a, x = .ok a ∧ Q a
section
variable {α β γ : Type} {Q : β → Prop} {P : α → Prop}
theorem ok_pure {a : β} (h : Q a) : Ok (pure a : M β) Q := fun s i => ⟨a, s, rfl, i, h⟩
theorem ok_bind {x : M α} {f : α → M β} (h : Ok x fun a => Ok (f a) Q) : Ok (x >>= f) Q := fun s i => by
  obtain ⟨a, s', e, i', q⟩ := h s i
  obtain ⟨b, s2, e2, i2, q2⟩ := q s' i'
  refine ⟨b, s2, ?_, i2, q2⟩
  show (x s).bd f = _
  rw [e]; exact e2
theorem ok_mono {x : M α} {P' : α → Prop} (h : Ok x P) (w : ∀ a, P a → P' a) : Ok x P' := fun s i => by
  obtain ⟨a, s', e, i', q⟩ := h s i
  exact ⟨a, s', e, i', w a q⟩
theorem ok_then {x : M α} {f : α → M β} (h : Ok x P) (w : ∀ a, P a → Ok (f a) Q) : Ok (x >>= f) Q := ok_bind (ok_mono h w)
theorem ok_noex {x : M α} (h : Ok x P) : Ok (Mo.noex x) P := fun s i => by
  obtain ⟨a, s', e, i', q⟩ := h s i
  refine ⟨a, s', ?_, i', q⟩
  show (x s).nx = _
  rw [e]; rfl
theorem ok_ite {c : Prop} [Decidable c] {x y : M α} (h1 : c → Ok x P) (h2 : ¬ c → Ok y P) : Ok (if c then x else y) P := by
  by_cases h : c
  · rw [if_pos h]; exact h1 h
  · rw [if_neg h]; exact h2 h
theorem okr_pure {a : β} (h : Q a) : OkR (.ok a) Q := ⟨a, rfl, h⟩
theorem okr_bind {x : R α} {f : α → R β} (h : OkR x fun a => OkR (f a) Q) : OkR (x >>= f) Q := by
  obtain ⟨a, rfl, q⟩ := h
  exact q
theorem okr_mono {x : R α} {P' : α → Prop} (h : OkR x P) (w : ∀ a, P a → P' a) : OkR x P' := by
  obtain ⟨a, rfl, q⟩ := h
  exact ⟨a, rfl, w a q⟩
theorem okr_then {x : R α} {f : α → R β} (h : OkR x P) (w : ∀ a, P a → OkR (f a) Q) : OkR (x >>= f) Q := okr_bind (okr_mono h w)
end
def FlQ (nr : Bool) (Q : D → Prop) : Fl Unit Empty → Prop
  | .nx _ => nr = false ∧ Q .non
  | .rt d => Q d
  | _ => False
theorem ok_runM {nr : Bool} {x : M (Fl Unit Empty)} {Q : D → Prop} (h : Ok x (FlQ nr Q)) : Ok (runM nr x) Q := fun s i => by
  obtain ⟨a, s', e, i', q⟩ := h s i
  unfold runM
  rw [e]
  cases a with
  | nx a =>
    obtain ⟨q1, q2⟩ := q
    subst q1
    exact ⟨.non, s', rfl, i', q2⟩
  | rt d => exact ⟨d, s', rfl, i', q⟩
  | bk b => exact b.elim
  | ct b => exact b.elim
theorem okr_runR {nr : Bool} {x : R (Fl Unit Empty)} {Q : D → Prop} (h : OkR x (FlQ nr Q)) : OkR (runR nr x) Q := by
  obtain ⟨a, rfl, q⟩ := h
  cases a with
  | nx a =>
    obtain ⟨q1, q2⟩ := q
    subst q1
    exact ⟨.non, rfl, q2⟩
  | rt d => exact ⟨d, rfl, q⟩
  | bk b => exact b.elim
  | ct b => exact b.elim
theorem runR_rt {nr : Bool} {d : D} : runR nr (.ok (.rt d)) = .ok d := rfl
section
variable {α β γ : Type}
@[simp] theorem seqR_nx {a : α} {k : α → R (Fl γ β)} : seqF (R.ok (.nx a)) k = k a := rfl
@[simp] theorem seqR_rt {d : D} {k : α → R (Fl γ β)} : seqF (R.ok (.rt d)) k = .ok (.rt d) := rfl
@[simp] theorem seqR_bk {b : β} {k : α → R (Fl γ β)} : seqF (R.ok (.bk b)) k = .ok (.bk b) := rfl
@[simp] theorem seqR_ct {b : β} {k : α → R (Fl γ β)} : seqF (R.ok (.ct b)) k = .ok (.ct b) := rfl
def SeqQ (k : α → Prop) (Q : Fl γ β → Prop) : Fl α β → Prop
  | .nx a => k a
  | .rt d => Q (.rt d)
  | .bk b => Q (.bk b)
  | .ct b => Q (.ct b)
theorem ok_seq {x : M (Fl α β)} {k : α → M (Fl γ β)} {Q : Fl γ β → Prop} (h : Ok x (SeqQ (fun a => Ok (k a) Q) Q)) : Ok (seqF x k) Q := ok_bind (ok_mono h fun f q => by
  cases f with
  | nx a => exact q
  | rt d => exact ok_pure q
  | bk b => exact ok_pure q
  | ct b => exact ok_pure q)
theorem okr_seq {x : R (Fl α β)} {k : α → R (Fl γ β)} {Q : Fl γ β → Prop} (h : OkR x (SeqQ (fun a => OkR (k a) Q) Q)) : OkR (seqF x k) Q := okr_bind (okr_mono h fun f q => by
  cases f with
  | nx a => exact q
  | rt d => exact okr_pure q
  | bk b => exact okr_pure q
  | ct b => exact okr_pure q)
def TurnQ (I : α → Prop) (Q : Fl α β → Prop) : Fl α α → Prop
  | .nx a => I a
  | .ct a => I a
  | .bk a => Q (.nx a)
  | .rt d => Q (.rt d)
theorem ok_for {u : D → Option γ} {xb : α → γ → M (Fl α α)} {Q : Fl α β → Prop} (I : Nat → α → Prop) (ds : List D) (a0 : α) (h0 : I 0 a0) (hs : ∀ i d a, ds[i]? = some d → I i a → ∃ c, u d = some c ∧ Ok (xb a c) (TurnQ (I (i + 1)) Q)) (he : ∀ a, I ds.length a → Q (.nx a)) : Ok (forF u xb ds a0) Q := by
  induction ds generalizing I a0 with
  | nil => exact ok_pure (he _ h0)
  | cons d ds ih =>
    unfold forF
    obtain ⟨c, e, h⟩ := hs 0 d a0 rfl h0
    rw [e]
    refine ok_bind (ok_pure (ok_bind (ok_mono h fun f q => ?_)))
    cases f with
    | nx a => exact ih (fun i => I (i + 1)) a q (fun i d' a' e' q' => hs (i + 1) d' a' (by simpa using e') q') (fun a q => he a (by simpa using q))
    | ct a => exact ih (fun i => I (i + 1)) a q (fun i d' a' e' q' => hs (i + 1) d' a' (by simpa using e') q') (fun a q => he a (by simpa using q))
    | bk a => exact ok_pure q
    | rt d => exact ok_pure q
theorem okr_for {u : D → Option γ} {xb : α → γ → R (Fl α α)} {Q : Fl α β → Prop} (I : Nat → α → Prop) (ds : List D) (a0 : α) (h0 : I 0 a0) (hs : ∀ i d a, ds[i]? = some d → I i a → ∃ c, u d = some c ∧ OkR (xb a c) (TurnQ (I (i + 1)) Q)) (he : ∀ a, I ds.length a → Q (.nx a)) : OkR (forF u xb ds a0) Q := by
  induction ds generalizing I a0 with
  | nil => exact okr_pure (he _ h0)
  | cons d ds ih =>
    unfold forF
    obtain ⟨c, e, h⟩ := hs 0 d a0 rfl h0
    rw [e]
    refine okr_bind (okr_pure (okr_bind (okr_mono h fun f q => ?_)))
    cases f with
    | nx a => exact ih (fun i => I (i + 1)) a q (fun i d' a' e' q' => hs (i + 1) d' a' (by simpa using e') q') (fun a q => he a (by simpa using q))
    | ct a => exact ih (fun i => I (i + 1)) a q (fun i d' a' e' q' => hs (i + 1) d' a' (by simpa using e') q') (fun a q => he a (by simpa using q))
    | bk a => exact okr_pure q
    | rt d => exact okr_pure q
theorem ok_forU {u : D → Option γ} {xb : Unit → γ → M (Fl Unit Unit)} {Q : Fl Unit β → Prop} (ds : List D) (hs : ∀ d ∈ ds, ∃ c, u d = some c ∧ Ok (xb () c) (TurnQ (fun _ => True) Q)) (he : Q (.nx ())) : Ok (forF u xb ds ()) Q :=
  ok_for (fun _ _ => True) ds () trivial (fun i d _ e _ => hs d (List.mem_of_getElem? e)) fun _ _ => he
theorem okr_forU {u : D → Option γ} {xb : Unit → γ → R (Fl Unit Unit)} {Q : Fl Unit β → Prop} (ds : List D) (hs : ∀ d ∈ ds, ∃ c, u d = some c ∧ OkR (xb () c) (TurnQ (fun _ => True) Q)) (he : Q (.nx ())) : OkR (forF u xb ds ()) Q :=
  okr_for (fun _ _ => True) ds () trivial (fun i d _ e _ => hs d (List.mem_of_getElem? e)) fun _ _ => he
end
theorem lcR {γ : Type} {u : D → Option γ} {xt : γ → R Bool} {xe : γ → R D} (c : D → γ) (p : D → Bool) (f : D → D) : ∀ ds : List D, (∀ d ∈ ds, u d = some (c d)) → (∀ d ∈ ds, xt (c d) = .ok (p d)) → (∀ d ∈ ds, p d = true → xe (c d) = .ok (f d)) → lcF u xt xe ds = .ok ((ds.filter p).map f)
  | [], _, _, _ => rfl
  | d :: ds, h1, h2, h3 => by
    have ih := lcR c p f ds (fun x m => h1 x (.tail _ m)) (fun x m => h2 x (.tail _ m)) (fun x m => h3 x (.tail _ m))
    unfold lcF
    rw [h1 d (.head _)]
    simp only [ask_some, R.bind_eq, R.bd, h2 d (.head _), noex_R]
    cases q : p d with
    | false => simp only [Bool.false_eq_true, if_false, ih, List.filter_cons, q]
    | true =>
      simp only [if_true, List.filter_cons, q, List.map_cons]
      rw [h3 d (.head _) q, ih]
      rfl
inductive All2 {α β : Type} (P : α → β → Prop) : List α → List β → Prop
  | nil : All2 P [] []
  | cons {x : α} {y : β} {xs : List α} {ys : List β} (h : P x y) (t : All2 P xs ys) : All2 P (x :: xs) (y :: ys)
theorem ok_lc {γ : Type} {u : D → Option γ} {xe : γ → M D} {P : D → D → Prop} : ∀ ds : List D, (∀ d ∈ ds, ∃ c, u d = some c ∧ Ok (xe c) (P d)) → Ok (lcF u (fun _ => pure true) xe ds) fun rs => All2 P ds rs
  | [], _ => ok_pure .nil
  | d :: ds, h => by
    unfold lcF
    obtain ⟨c, e, hx⟩ := h d (.head _)
    rw [e]
    refine ok_bind (ok_pure (ok_bind (ok_noex (ok_pure ?_))))
    simp only [if_true]
    exact ok_then (ok_noex hx) fun y py => ok_then (ok_lc ds fun x m => h x (.tail _ m)) fun r pr => ok_pure (.cons py pr)
theorem ok_bagX {Q : D → Prop} (h : ∀ i : Int, Q (.int i)) : Ok bagX Q := fun s i => ⟨.int s.x, s, by unfold bagX; rw [if_pos i.1], i, h _⟩
theorem ok_bagY {Q : D → Prop} (h : ∀ i : Int, 0 ≤ i → i < 4294967296 → Q (.int i)) : Ok bagY Q := fun s i => ⟨.int s.y, s, by unfold bagY; rw [if_pos i.1], i, h _ i.2.1 i.2.2⟩
theorem ok_setX {i : Int} {Q : Unit → Prop} (h : Q ()) : Ok (bagSetX i) Q := fun s j => ⟨(), { s with x := i }, by unfold bagSetX; rw [if_pos j.1], j, h⟩
theorem ok_setY {i : Int} {Q : Unit → Prop} (h0 : 0 ≤ i) (h1 : i < 4294967296) (h : Q ()) : Ok (bagSetY i) Q := fun s j => ⟨(), { s with y := i }, by unfold bagSetY; rw [if_pos j.1], ⟨j.1, h0, h1⟩, h⟩
theorem okr_bag {α β : Type} {x y : Int} {k : M (Fl α β)} {Q : Fl α β → Prop} (h0 : 0 ≤ y) (h1 : y < 4294967296) (h : Ok k Q) : OkR (withBag (.lst [.int x, .int y]) k) Q := by
  obtain ⟨a, s', e, _, q⟩ := h ⟨x, y, 0, [], false⟩ ⟨rfl, h0, h1⟩
  refine ⟨a, ?_, q⟩
  unfold withBag
  simp only [e]
theorem mul_ii {i j : Int} (hi : i.natAbs < 2 ^ 64) (hj : j.natAbs < 2 ^ 64) : mulD (.int i) (.int j) = some (.int (i * j)) := by
  have h1 := PySem.Flt.log2_lt_of (n := i.natAbs) (k := 64) (by decide) hi
  have h2 := PySem.Flt.log2_lt_of (n := j.natAbs) (k := 64) (by decide) hj
  exact if_pos (show i.natAbs.log2 + j.natAbs.log2 < 1000000 by omega)
theorem mod_ii {i j : Int} (hj : 0 < j) : modD (.int i) (.int j) = some (.int (i % j)) := if_pos hj
theorem fdiv_ii {i j : Int} (hj : 0 < j) (h : j.natAbs < 2 ^ 64) : fdivD (.int i) (.int j) = some (.int (i / j)) := by
  have h1 := PySem.Flt.log2_lt_of (n := j.natAbs) (k := 64) (by decide) h
  exact if_pos (show 0 < j ∧ j.natAbs.log2 < 9000 from ⟨hj, by omega⟩)
@[simp] theorem add_ii {i j : Int} : addD (.int i) (.int j) = some (.int (i + j)) := rfl
@[simp] theorem sub_ii {i j : Int} : subD (.int i) (.int j) = some (.int (i - j)) := rfl
@[simp] theorem lt_ii {i j : Int} : ltD (.int i) (.int j) = some (.bl (decide (i < j))) := rfl
@[simp] theorem le_ii {i j : Int} : leD (.int i) (.int j) = some (.bl (decide (i ≤ j))) := rfl
@[simp] theorem gt_ii {i j : Int} : gtD (.int i) (.int j) = some (.bl (decide (j < i))) := rfl
@[simp] theorem ge_ii {i j : Int} : geD (.int i) (.int j) = some (.bl (decide (j ≤ i))) := rfl
@[simp] theorem eq_ii {i j : Int} : eqD (.int i) (.int j) = some (.bl (decide (i = j))) := rfl
@[simp] theorem ne_ii {i j : Int} : neD (.int i) (.int j) = some (.bl (!decide (i = j))) := rfl
@[simp] theorem eq_ss {a b : List Nat} : eqD (.str a) (.str b) = some (.bl (decide (a = b))) := rfl
@[simp] theorem ne_ss {a b : List Nat} : neD (.str a) (.str b) = some (.bl (!decide (a = b))) := rfl
@[simp] theorem bOf_bl {b : Bool} : bOf (.bl b) = some b := rfl
@[simp] theorem tru_bl {b : Bool} : truD (.bl b) = some b := rfl
@[simp] theorem tru_str {s : List Nat} : truD (.str s) = some (!s.isEmpty) := rfl
@[simp] theorem tru_lst {s : List D} : truD (.lst s) = some (!s.isEmpty) := rfl
@[simp] theorem tru_tup {s : List D} : truD (.tup s) = some (!s.isEmpty) := rfl
@[simp] theorem tru_int {i : Int} : truD (.int i) = some (i != 0) := rfl
@[simp] theorem int_int {i : Int} : intD [.int i] = some (.int i) := rfl
@[simp] theorem len_lst {s : List D} : lenD [.lst s] = some (.int s.length) := rfl
@[simp] theorem len_tup {s : List D} : lenD [.tup s] = some (.int s.length) := rfl
@[simp] theorem len_str {s : List Nat} : lenD [.str s] = some (.int s.length) := rfl
@[simp] theorem len_scr {s : List Int} : lenD [.scr s] = some (.int s.length) := rfl
@[simp] theorem it_lst {s : List D} : itD (.lst s) = some s := rfl
@[simp] theorem it_tup {s : List D} : itD (.tup s) = some s := rfl
@[simp] theorem it_str {s : List Nat} : itD (.str s) = some (chrs s) := rfl
@[simp] theorem int_of {i : Int} : intOf (.int i) = some i := rfl
@[simp] theorem flat_int {i : Int} : flatD (.int i) = some (.int i) := rfl
@[simp] theorem flat_bl {i : Bool} : flatD (.bl i) = some (.bl i) := rfl
@[simp] theorem flat_str {i : List Nat} : flatD (.str i) = some (.str i) := rfl
@[simp] theorem str_of {i : List Nat} : strOf (.str i) = some i := rfl
theorem sz_ok {ds : List D} (h : ds.length ≤ 1000000) : szL ds = some ds := if_pos (by rw [sizeLine_eq]; omega)
theorem apd_ok {ds : List D} {d : D} (h : ds.length < 1000000) : apd ds d = some (ds ++ [d]) := if_pos (by rw [sizeLine_eq]; omega)
theorem rng1_ok {j : Int} (h0 : -4611686018427387904 ≤ j) (h : j ≤ 1000000) : rng1 [.int j] = some (rangeL 0 j.toNat) := if_pos ⟨h0, h⟩
theorem range_len {lo : Int} {n : Nat} : (rangeL lo n).length = n := by simp [rangeL]
theorem range_mem {lo : Int} {n : Nat} {d : D} (h : d ∈ rangeL lo n) : ∃ k : Nat, k < n ∧ d = .int (lo + k) := by
  unfold rangeL at h
  obtain ⟨k, hk, rfl⟩ := List.mem_map.mp h
  exact ⟨k, List.mem_range.mp hk, rfl⟩
theorem range_get {lo : Int} {n i : Nat} {d : D} (h : (rangeL lo n)[i]? = some d) : i < n ∧ d = .int (lo + i) := by
  unfold rangeL at h
  rw [List.getElem?_map] at h
  by_cases c : i < n
  · rw [List.getElem?_range c] at h
    cases h
    exact ⟨c, rfl⟩
  · rw [List.getElem?_eq_none (by simpa using c)] at h
    cases h
theorem ix_lst {ds : List D} {i : Int} (h0 : 0 ≤ i) (h : i < ds.length) : ixD (.lst ds) (.int i) = some (ds[i.toNat]'(by omega)) := by
  unfold ixD L2.atI ixN
  simp only
  rw [if_pos h0, if_pos h]
  exact List.getElem?_eq_getElem (by omega)
theorem ixN_ok {n : Nat} {i : Int} (h0 : 0 ≤ i) (h : i < n) : ixN n i = some i.toNat := by
  unfold ixN
  rw [if_pos h0, if_pos h]
theorem pop_ok {ds : List D} {i : Int} (h0 : 0 ≤ i) (h : i < ds.length) : popI ds (.int i) = some (ds[i.toNat]'(by omega), ds.eraseIdx i.toNat) := by
  unfold popI
  simp only [ixN_ok h0 h]
  rw [List.getElem?_eq_getElem (by omega)]
  rfl
end DL
namespace FN
open DL
def c_CHARACTERS : D := (.str [48, 49, 50, 51, 52, 53, 54, 55, 56, 57, 97, 98, 99, 100, 101, 102, 103, 104, 105, 106, 107, 108, 109, 110, 111, 112, 113, 114, 115, 116, 117, 118, 119, 120, 121, 122])
def c_LONGEST_LABEL : D := (.int (20))
def b_is_label_344b (a0 : D) : R (Fl Unit Empty) := (do let t16 ← (DL.orM (DL.notM (do let x2 ← (do let x1 ← (pure a0); DL.ask (isiD "str" x1)); DL.ask (truD x2))) (DL.notM (do let x6 ← (chainM leD leD (pure (.int 1)) (do let r5 ← (do let x3 ← (pure a0); let r4 ← pure []; pure (x3 :: r4)); DL.ask (lenD r5)) (pure c_LONGEST_LABEL)); DL.ask (bOf x6)))); seqF (if t16 = true then (do let v8 ← (pure (.bl false)); pure (.rt v8)) else (pure (.nx ()))) fun (a7 : Unit) => (do let v15 ← (notV (mkL (do let r14 ← (do let r9 ← (pure a0); DL.ask (itD r9)); lcF (fun d => some d) (fun (c11 : D) => (do let x12 ← (pure c11); let y13 ← (pure c_CHARACTERS); DL.ask ((notInD x12 y13).bind bOf))) (fun (c11 : D) => (pure c11)) r14))); pure (.rt v15)))
def m_is_label_344b : List D → R D := apR1 fun a0 => runR false (b_is_label_344b a0)
def b__law_bag_fbbe (a0 a1 : D) : R (Fl Unit Empty) := (do let v1 ← (iteM (do let x5 ← (pure a1); let y6 ← (do let r4 ← (do let x2 ← (pure a0); let r3 ← pure []; pure (x2 :: r3)); DL.ask (lenD r4)); DL.ask ((ltD x5 y6).bind bOf)) (do let r11 ← (do let x9 ← (do let x7 ← (pure a0); let y8 ← (pure a1); DL.ask (ixD x7 y8)); let r10 ← pure []; pure (x9 :: r10)); DL.ask (absD r11)) (pure (.int 0))); (do let v12 ← (do let x15 ← (pure (.int 52361)); let y16 ← (do let x13 ← (pure (.int 7919)); let y14 ← (pure a1); DL.ask (mulD x13 y14)); DL.ask (addD x15 y16)); (do let r55 ← (do let r24 ← (do let x22 ← (do let x19 ← (pure a0); let l20 ← (pure none); let u21 ← (do let x17 ← (pure (.int 63)); let i18 ← DL.ask (intOf x17); pure (some i18)); DL.ask (sliceD x19 l20 u21)); let r23 ← pure []; pure (x22 :: r23)); DL.ask (enumOf r24)); seqF (forF un2 (fun (a25 : D) (c26 : D × D) => (do let v27 ← (do let x44 ← (do let r43 ← (do let x41 ← (do let x39 ← (do let x35 ← (do let x28 ← (pure a25); let y29 ← (pure (.int 41358)); DL.ask (mulD x28 y29)); let y36 ← (do let x33 ← (do let r32 ← (do let x30 ← (pure c26.2); let r31 ← pure []; pure (x30 :: r31)); DL.ask (intD r32)); let y34 ← (pure (.int 2147483587)); DL.ask (modD x33 y34)); DL.ask (addD x35 y36)); let y40 ← (do let x37 ← (pure (.int 10007)); let y38 ← (pure c26.1); DL.ask (mulD x37 y38)); DL.ask (addD x39 y40)); let r42 ← pure []; pure (x41 :: r42)); DL.ask (intD r43)); let y45 ← (pure (.int 2147483549)); DL.ask (modD x44 y45)); (pure (.nx v27)))) r55 v12) fun (a46 : D) => (do let v54 ← (do let r53 ← (do let x51 ← (iteM (do let x47 ← (pure v1); let y48 ← (do let x ← (pure (.int 10)); let y ← (pure (.int 18)); DL.ask (powC x y)); DL.ask ((geD x47 y48).bind bOf)) (pure v1) (pure (.int 0))); let r52 ← (do let x49 ← (pure a46); let r50 ← pure []; pure (x49 :: r50)); pure (x51 :: r52)); DL.ask (szL r53)); pure (.rt (.lst v54))))))
def m__law_bag_fbbe : List D → R D := apR2 fun a0 a1 => runR true (b__law_bag_fbbe a0 a1)
theorem n__law_bag_fbbe : ∀ ds : List D, m__law_bag_fbbe ds ≠ .stuck → ds.length = 2 := apR2_len _
def b__law_take_6859 (a1 : D) : M (Fl Unit Empty) := (do let t40 ← (do let x1 ← bagX; let y2 ← (pure (.int 0)); DL.ask ((gtD x1 y2).bind bOf)); seqF (if t40 = true then (do let v4 ← (do let x8 ← (do let r7 ← (do let x5 ← bagX; let r6 ← pure []; pure (x5 :: r6)); DL.ask (intD r7)); let y9 ← (pure a1); DL.ask (modD x8 y9)); (do let v10 ← (do let x11 ← bagX; let y12 ← (pure a1); DL.ask (fdivD x11 y12)); let i13 ← DL.ask (intOf v10); bagSetX i13; (do let v14 ← (pure v4); pure (.rt v14)))) else (pure (.nx ()))) fun (a3 : Unit) => (do let v15 ← (do let x23 ← (do let r22 ← (do let x20 ← (do let x18 ← (do let x16 ← bagY; let y17 ← (pure (.int 69621)); DL.ask (mulD x16 y17)); let y19 ← (pure (.int 30011)); DL.ask (addD x18 y19)); let r21 ← pure []; pure (x20 :: r21)); DL.ask (intD r22)); let y24 ← (pure (.int 2147483543)); DL.ask (modD x23 y24)); let i25 ← DL.ask (intOf v15); bagSetY i25; (do let v39 ← (do let x37 ← (do let x35 ← (do let x33 ← (do let r32 ← (do let x30 ← (do let x28 ← (do let x26 ← bagY; let y27 ← (pure (.int 7)); DL.ask (fdivD x26 y27)); let y29 ← (pure (.int 16807)); DL.ask (mulD x28 y29)); let r31 ← pure []; pure (x30 :: r31)); DL.ask (intD r32)); let y34 ← (pure (.int 2147483647)); DL.ask (modD x33 y34)); let y36 ← (pure (.int 128)); DL.ask (fdivD x35 y36)); let y38 ← (pure a1); DL.ask (modD x37 y38)); pure (.rt v39))))
def m__law_take_6859 : List D → M D := apM1 fun a1 => runM false (b__law_take_6859 a1)
theorem n__law_take_6859 : ∀ ds s, m__law_take_6859 ds s ≠ .stuck → ds.length = 1 := apM1_len _
def b__law_of_bf28 (a1 : D) : M (Fl Unit Empty) := (do let v9 ← (do let x7 ← (pure a1); let y8 ← (do let r6 ← (do let x4 ← (do let r3 ← (do let x1 ← (pure a1); let r2 ← pure []; pure (x1 :: r2)); DL.ask (lenD r3)); let r5 ← pure []; pure (x4 :: r5)); m__law_take_6859 r6); DL.ask (ixD x7 y8)); pure (.rt v9))
def m__law_of_bf28 : List D → M D := apM1 fun a1 => runM false (b__law_of_bf28 a1)
theorem n__law_of_bf28 : ∀ ds s, m__law_of_bf28 ds s ≠ .stuck → ds.length = 1 := apM1_len _
def b__law_signs_3c02 (a1 : D) : M (Fl Unit Empty) := (do let v1 ← (do let r5 ← (do let x3 ← (pure (.str [48, 49, 50, 51, 52, 53, 54, 55, 56, 57, 97, 98, 99, 100, 101, 102, 103, 104, 105, 106, 107, 108, 109, 110, 111, 112, 113, 114, 115, 116, 117, 118, 119, 120, 121, 122])); let r4 ← pure []; pure (x3 :: r4)); let r6 ← DL.ask (listD r5); DL.ask (szL r6)); let v2 ← (do let r7 ← pure []; DL.ask (szL r7)); (do let r26 ← (do let r10 ← (do let x8 ← (pure a1); let r9 ← pure []; pure (x8 :: r9)); DL.ask (rng1 r10)); seqF (forF (fun d => some d) (fun (a11 : List D × List D) (c12 : D) => (do let r23 ← (do let j22 ← (do let r21 ← (do let x19 ← (do let w15 ← Mo.noex (do let r18 ← (do let x16 ← (pure (.lst a11.1)); let r17 ← pure []; pure (x16 :: r17)); DL.ask (lenD r18)); DL.ask (flatD w15)); let r20 ← pure []; pure (x19 :: r20)); m__law_take_6859 r21); DL.ask (popI a11.1 j22)); let v14 ← DL.ask (apd a11.2 r23.1); (pure (.nx (r23.2, v14))))) r26 (v1, v2)) fun (a24 : List D × List D) => (do let v25 ← (pure (.lst a24.2)); pure (.rt v25))))
def m__law_signs_3c02 : List D → M D := apM1 fun a1 => runM false (b__law_signs_3c02 a1)
theorem n__law_signs_3c02 : ∀ ds s, m__law_signs_3c02 ds s ≠ .stuck → ds.length = 1 := apM1_len _
theorem take_ok {n : Int} (h0 : 0 < n) (h1 : n < 4294967296) : Ok (m__law_take_6859 [.int n]) fun d => ∃ i, d = .int i ∧ 0 ≤ i ∧ i < n := by
  refine ok_runM ?_
  unfold b__law_take_6859
  simp only [pure_bind, bind_assoc]
  refine ok_bind (ok_bagX fun i => ?_)
  simp only [gt_ii, Option.bind_some, bOf_bl, askM, pure_bind]
  have hm : ∀ j : Int, FlQ false (fun d => ∃ i, d = .int i ∧ 0 ≤ i ∧ i < n) (.rt (.int (j % n))) := fun j => ⟨_, rfl, Int.emod_nonneg _ (by omega), Int.emod_lt_of_pos _ h0⟩
  refine ok_seq (ok_ite (fun _ => ?_) fun _ => ok_pure ?_)
  · refine ok_bind (ok_bagX fun i => ?_)
    simp only [int_int, askM, pure_bind, mod_ii h0]
    refine ok_bind (ok_bagX fun j => ?_)
    simp only [fdiv_ii h0 (by omega), askM, pure_bind, int_of]
    exact ok_bind (ok_setX (ok_pure (hm _)))
  · show Ok _ _
    refine ok_bind (ok_bagY fun i h2 h3 => ?_)
    simp only [mul_ii (i := i) (j := 69621) (by omega) (by omega), askM, pure_bind, add_ii, int_int, mod_ii (j := 2147483543) (by omega), int_of]
    refine ok_bind (ok_setY (Int.emod_nonneg _ (by omega)) (Int.lt_trans (Int.emod_lt_of_pos _ (by omega)) (by omega)) ?_)
    refine ok_bind (ok_bagY fun j h4 h5 => ?_)
    simp only [fdiv_ii (i := j) (j := 7) (by omega) (by omega), askM, pure_bind]
    have hj : (j / 7).natAbs < 2 ^ 64 := by omega
    simp only [mul_ii (i := j / 7) (j := 16807) hj (by omega), askM, pure_bind, int_int, mod_ii (j := 2147483647) (by omega), fdiv_ii (j := 128) (by omega) (by omega), mod_ii h0]
    exact ok_pure (hm _)
theorem bag_ok (ns : List Int) {i : Int} (h0 : 0 ≤ i) (h1 : i < 1000) : OkR (m__law_bag_fbbe [.scr ns, .int i]) fun d => ∃ x y, d = .lst [.int x, .int y] ∧ 0 ≤ y ∧ y < 4294967296 := by
  refine okr_runR ?_
  unfold b__law_bag_fbbe
  have hx : ∃ x : Int, iteM (m := R) (do let x5 ← (pure (.int i)); let y6 ← (do let r4 ← (do let x2 ← (pure (.scr ns)); let r3 ← pure []; pure (x2 :: r3)); DL.ask (lenD r4)); DL.ask ((ltD x5 y6).bind bOf)) (do let r11 ← (do let x9 ← (do let x7 ← (pure (.scr ns)); let y8 ← (pure (.int i)); DL.ask (ixD x7 y8)); let r10 ← pure []; pure (x9 :: r10)); DL.ask (absD r11)) (pure (.int 0)) = .ok (.int x) := by
    simp only [iteM, R.pure_eq, R.bind_eq, R.bd, len_scr, ask_some, lt_ii, Option.bind_some, bOf_bl]
    by_cases c : i < (ns.length : Int)
    · rw [if_pos (by simpa using c)]
      have e : ixD (.scr ns) (.int i) = some (.int (ns[i.toNat]'(by omega))) := by
        unfold ixD L2.atI
        simp only [ixN_ok h0 c]
        show Option.map D.int (ns[i.toNat]?) = _
        rw [List.getElem?_eq_getElem (by omega)]
        rfl
      rw [e]
      exact ⟨_, rfl⟩
    · rw [if_neg (by simpa using c)]
      exact ⟨_, rfl⟩
  obtain ⟨x, hx⟩ := hx
  rw [hx]
  simp only [R.pure_eq, R.bind_eq, R.bd, mul_ii (i := 7919) (j := i) (by omega) (by omega), ask_some, add_ii, int_of, sliceD, enumOf]
  have hz : (cutL ns none (some 63)).length ≤ 63 := by
    unfold cutL
    have e1 : HT.sIx ns.length 0 none = 0 := rfl
    have e2 : HT.sIx ns.length ns.length (some 63) ≤ 63 := by unfold HT.sIx; simp only; split <;> omega
    rw [List.length_take]
    omega
  refine okr_seq (okr_for (fun _ a => ∃ m : Int, a = .int m ∧ 0 ≤ m ∧ m < 4294967296) _ _ ⟨_, rfl, by omega, by omega⟩ ?_ ?_)
  · rintro k d a hd ⟨m, rfl, h2, h3⟩
    unfold enumL at hd
    rw [List.getElem?_mapIdx, List.getElem?_map] at hd
    cases e : (cutL ns none (some 63))[k]? with
    | none => rw [e] at hd; cases hd
    | some z =>
      rw [e] at hd
      cases hd
      have hk : k < 63 := Nat.lt_of_lt_of_le (List.getElem?_eq_some_iff.mp e).1 hz
      refine ⟨(.int (k : Int), .int z), rfl, ?_⟩
      simp only [mul_ii (i := m) (j := 41358) (by omega) (by omega), ask_some, R.bd, int_int, mod_ii (j := 2147483587) (by omega), add_ii, mul_ii (i := 10007) (j := (k : Int)) (by omega) (by omega), mod_ii (j := 2147483549) (by omega)]
      exact okr_pure ⟨_, rfl, Int.emod_nonneg _ (by omega), Int.lt_trans (Int.emod_lt_of_pos _ (by omega)) (by omega)⟩
  · rintro a ⟨m, rfl, h2, h3⟩
    show OkR _ _
    have e3 : powC (.int 10) (.int 18) = some (.int 1000000000000000000) := rfl
    simp only [e3, ask_some, R.bd, iteM, R.bind_eq, R.pure_eq, ge_ii, Option.bind_some, bOf_bl]
    by_cases c : (1000000000000000000 : Int) ≤ x
    · rw [if_pos (by simpa using c)]
      exact okr_pure ⟨_, _, rfl, h2, h3⟩
    · rw [if_neg (by simpa using c)]
      exact okr_pure ⟨_, _, rfl, h2, h3⟩
theorem of_ok {ds : List D} (h0 : ds ≠ []) (h1 : ds.length ≤ 1000000) : Ok (m__law_of_bf28 [.lst ds]) fun d => d ∈ ds := by
  refine ok_runM ?_
  unfold b__law_of_bf28
  have hp : 0 < ds.length := List.length_pos_iff.mpr h0
  simp only [pure_bind, bind_assoc, len_lst, askM]
  refine ok_then (take_ok (n := ds.length) (by omega) (by omega)) ?_
  rintro d ⟨i, rfl, h2, h3⟩
  simp only [ix_lst h2 h3, askM, pure_bind]
  exact ok_pure (List.getElem_mem _)
theorem erase_map {α β : Type} (f : α → β) (l : List α) (i : Nat) : (l.map f).eraseIdx i = (l.eraseIdx i).map f := by
  rw [List.eraseIdx_eq_take_drop_succ, List.eraseIdx_eq_take_drop_succ, List.map_append, List.map_take, List.map_drop]
theorem erase_perm {α : Type} {l : List α} {i : Nat} (h : i < l.length) : (l[i] :: l.eraseIdx i).Perm l := by
  rw [List.eraseIdx_eq_take_drop_succ]
  refine List.perm_middle.symm.trans ?_
  rw [List.getElem_cons_drop h, List.take_append_drop]
def CH : List Nat := [48, 49, 50, 51, 52, 53, 54, 55, 56, 57, 97, 98, 99, 100, 101, 102, 103, 104, 105, 106, 107, 108, 109, 110, 111, 112, 113, 114, 115, 116, 117, 118, 119, 120, 121, 122]
theorem list_str {s : List Nat} : listD [.str s] = some (chrs s) := rfl
theorem chrs_len {s : List Nat} : (chrs s).length = s.length := by simp [chrs]
theorem signs_ok {n : Int} (h0 : 0 ≤ n) (h1 : n ≤ 36) : Ok (m__law_signs_3c02 [.int n]) fun d => ∃ cs : List Nat, d = .lst (chrs cs) ∧ cs.length = n.toNat ∧ cs.Nodup ∧ ∀ c ∈ cs, c ∈ CH := by
  refine ok_runM ?_
  unfold b__law_signs_3c02
  simp only [pure_bind, bind_assoc, list_str, askM, sz_ok (ds := []) (by simp), sz_ok (ds := chrs CH) (by decide), rng1_ok (j := n) (by omega) (by omega)]
  have e0 : DL.szL (chrs [48, 49, 50, 51, 52, 53, 54, 55, 56, 57, 97, 98, 99, 100, 101, 102, 103, 104, 105, 106, 107, 108, 109, 110, 111, 112, 113, 114, 115, 116, 117, 118, 119, 120, 121, 122]) = some (chrs CH) := sz_ok (by decide)
  rw [e0]
  simp only [askM, pure_bind]
  refine ok_seq (ok_for (fun i a => ∃ ls fs : List Nat, a = (chrs ls, chrs fs) ∧ fs.length = i ∧ ls.length + i = 36 ∧ (fs ++ ls).Nodup ∧ ∀ c ∈ fs ++ ls, c ∈ CH) _ _ ⟨CH, [], rfl, rfl, rfl, by decide, by simp⟩ ?_ ?_)
  · rintro i d a hd ⟨ls, fs, rfl, h2, h3, h4, h5⟩
    obtain ⟨hi, rfl⟩ := range_get hd
    refine ⟨_, rfl, ?_⟩
    simp only [len_lst, askM, noex_M, pure_bind, flat_int]
    refine ok_then (take_ok (n := (chrs ls).length) (by rw [chrs_len]; omega) (by rw [chrs_len]; omega)) ?_
    rintro d ⟨j, rfl, h6, h7⟩
    simp only [pop_ok h6 h7, askM, pure_bind, apd_ok (ds := chrs fs) (by rw [chrs_len]; omega)]
    rw [chrs_len] at h7
    have hj : j.toNat < ls.length := by omega
    refine ok_pure ⟨ls.eraseIdx j.toNat, fs ++ [ls[j.toNat]], ?_, by simp [h2], ?_, ?_, ?_⟩
    · unfold chrs
      rw [erase_map, List.map_append, List.getElem_map]
      rfl
    · rw [List.length_eraseIdx_of_lt hj]
      omega
    · have p : (fs ++ [ls[j.toNat]] ++ ls.eraseIdx j.toNat).Perm (fs ++ ls) := by
        rw [List.append_assoc]
        exact List.Perm.append_left fs (erase_perm hj)
      exact p.nodup_iff.mpr h4
    · intro c hc
      rcases List.mem_append.mp hc with hc | hc
      · rcases List.mem_append.mp hc with hc | hc
        · exact h5 c (List.mem_append_left _ hc)
        · have : c = ls[j.toNat] := by simpa using hc
          exact h5 c (List.mem_append_right _ (this ▸ List.getElem_mem _))
      · exact h5 c (List.mem_append_right _ (List.mem_of_mem_eraseIdx hc))
  · rintro a ⟨ls, fs, rfl, h2, h3, h4, h5⟩
    show Ok _ _
    rw [range_len] at h2
    exact ok_pure ⟨fs, rfl, h2, (List.nodup_append.mp h4).1, fun c hc => h5 c (List.mem_append_left _ hc)⟩
def isLab (n : Nat) (z : List Nat) : Bool := decide (1 ≤ z.length) && (decide (z.length ≤ n) && z.all fun c => decide (c ∈ CH))
def labD : D → Bool
  | .str z => isLab 20 z
  | _ => false
theorem labD_str {z : List Nat} : labD (.str z) = isLab 20 z := rfl
def isStr : D → Bool
  | .str _ => true
  | _ => false
theorem isi_str {d : D} {T : String} (h : tyD d = some T) : isiD "str" d = some (.bl (isStr d)) := by
  cases d with
  | non => exact congrArg (Option.map D.bl) (show L2.kitB "NoneType" "str" = some false by decide +kernel)
  | bl _ => exact congrArg (Option.map D.bl) (show L2.kitB "bool" "str" = some false by decide +kernel)
  | int _ => exact congrArg (Option.map D.bl) (show L2.kitB "int" "str" = some false by decide +kernel)
  | str _ => exact congrArg (Option.map D.bl) (show L2.kitB "str" "str" = some true by decide +kernel)
  | tup _ => exact congrArg (Option.map D.bl) (show L2.kitB "tuple" "str" = some false by decide +kernel)
  | lst _ => exact congrArg (Option.map D.bl) (show L2.kitB "list" "str" = some false by decide +kernel)
  | scr _ => exact congrArg (Option.map D.bl) (show L2.kitB "list" "str" = some false by decide +kernel)
  | dic _ _ => exact congrArg (Option.map D.bl) (show L2.kitB "dict" "str" = some false by decide +kernel)
  | ins _ _ _ => cases h
  | xc _ _ _ _ => cases h
theorem chrs_mem {z : List Nat} {d : D} (h : d ∈ chrs z) : ∃ c ∈ z, d = .str [c] := by
  obtain ⟨c, m, rfl⟩ := List.mem_map.mp h
  exact ⟨c, m, rfl⟩
def sgn : D → Nat
  | .str [c] => c
  | _ => 0
theorem filter_chrs (p : Nat → Bool) : ∀ z : List Nat, (chrs z).filter (fun d => p (sgn d)) = chrs (z.filter p)
  | [] => rfl
  | c :: z => by
    show ((D.str [c]) :: chrs z).filter (fun d => p (sgn d)) = _
    rw [List.filter_cons, List.filter_cons, filter_chrs p z]
    show (if p c = true then _ else _) = _
    cases p c <;> rfl
theorem filter_none {α : Type} (p : α → Bool) (z : List α) : (z.filter fun c => !p c).isEmpty = z.all p := by
  induction z with
  | nil => rfl
  | cons c z ih =>
    rw [List.filter_cons, List.all_cons, ← ih]
    cases p c <;> rfl
theorem chrs_empty (z : List Nat) : (chrs z).isEmpty = z.isEmpty := by cases z <;> rfl
theorem is_label_ok {d : D} {T : String} (h : tyD d = some T) : m_is_label_344b [d] = .ok (.bl (labD d)) := by
  unfold m_is_label_344b apR1 b_is_label_344b
  simp only [R.pure_eq, R.bind_eq, R.bd, isi_str h, ask_some, tru_bl, DL.orM, DL.notM]
  cases d with
  | str z =>
    simp only [isStr, Bool.not_true, Bool.false_eq_true, if_false, chainM, R.pure_eq, R.bind_eq, R.bd, len_str, ask_some, le_ii, Option.bind_some, bOf_bl, c_LONGEST_LABEL]
    by_cases h1 : 1 ≤ z.length
    · have e1 : decide ((1 : Int) ≤ (z.length : Int)) = true := decide_eq_true (by omega)
      simp only [e1, if_true, R.bd, ask_some, bOf_bl]
      by_cases h2 : z.length ≤ 20
      · have e2 : decide ((z.length : Int) ≤ 20) = true := decide_eq_true (by omega)
        simp only [e2, Bool.not_true, Bool.false_eq_true, if_false, seqR_nx, it_str, ask_some, R.bd]
        rw [lcR (c := fun d => d) (p := fun d => !decide (sgn d ∈ CH)) (f := fun d => d) _ (fun _ _ => rfl) (fun d m => ?_) (fun _ _ _ => rfl)]
        · rw [filter_chrs (fun c => !decide (c ∈ CH))]
          simp only [List.map_id', mkL_R, notV, R.bind_eq, R.bd, tru_lst, ask_some, R.pure_eq, runR_rt, chrs_empty, filter_none, Bool.not_not]
          rw [labD_str]
          unfold isLab
          rw [decide_eq_true h1, decide_eq_true h2]
          rfl
        · obtain ⟨c, _, rfl⟩ := chrs_mem m
          rfl
      · have e2 : decide ((z.length : Int) ≤ 20) = false := decide_eq_false (by omega)
        simp only [e2, Bool.not_false, if_true, seqR_rt, runR_rt]
        rw [labD_str]
        unfold isLab
        rw [decide_eq_true h1, decide_eq_false h2]
        rfl
    · have e1 : decide ((1 : Int) ≤ (z.length : Int)) = false := decide_eq_false (by omega)
      simp only [e1, Bool.false_eq_true, if_false, R.bd, ask_some, bOf_bl, Bool.not_false, if_true, seqR_rt, runR_rt]
      rw [labD_str]
      unfold isLab
      rw [decide_eq_false h1]
      rfl
  | ins _ _ _ => cases h
  | xc _ _ _ _ => cases h
  | _ => rfl
end FN
namespace DL
open PySem
theorem ok_seqP {α β γ : Type} {x : M (Fl α β)} {k : α → M (Fl γ β)} {Q : Fl γ β → Prop} (P : α → Prop) (h : Ok x (SeqQ P Q)) (w : ∀ a, P a → Ok (k a) Q) : Ok (seqF x k) Q := ok_seq (ok_mono h fun f q => by
  cases f with
  | nx a => exact w a q
  | rt d => exact q
  | bk b => exact q
  | ct b => exact q)
theorem askR {α : Type} {a : α} : (ask (some a) : R α) = pure a := rfl
theorem okpR {α : Type} {a : α} : (R.ok a) = (pure a : R α) := rfl
theorem lift_pR {α : Type} {a : R α} : (Mo.lift a : R α) = a := rfl
theorem okr_p {α : Type} {a : α} {Q : α → Prop} (h : Q a) : OkR (pure a : R α) Q := ⟨a, rfl, h⟩
def Tx (n : Nat) (z : List Nat) : Prop := z.length ≤ n ∧ ∀ c ∈ z, c < 1114112
theorem Tx.up {n m : Nat} {z : List Nat} (h : Tx n z) (w : n ≤ m) : Tx m z := ⟨Nat.le_trans h.1 w, h.2⟩
theorem Tx.app {n m : Nat} {a b : List Nat} (h : Tx n a) (k : Tx m b) : Tx (n + m) (a ++ b) := ⟨by rw [List.length_append]; exact Nat.add_le_add h.1 k.1, fun c hc => by
  rcases List.mem_append.mp hc with hc | hc
  · exact h.2 c hc
  · exact k.2 c hc⟩
theorem add_ss {a b : List Nat} (h : a.length + b.length ≤ 1000000) : addD (.str a) (.str b) = some (.str (a ++ b)) := if_pos (by rw [sizeLine_eq]; omega)
theorem add_ll {a b : List D} (h : a.length + b.length ≤ 1000000) : addD (.lst a) (.lst b) = some (.lst (a ++ b)) := if_pos (by rw [sizeLine_eq]; omega)
@[simp] theorem slice_s {z : List Nat} {lo hi : Option Int} : sliceD (.str z) lo hi = some (.str (cutL z lo hi)) := rfl
@[simp] theorem slice_l {z : List D} {lo hi : Option Int} : sliceD (.lst z) lo hi = some (.lst (cutL z lo hi)) := rfl
theorem cut_hi {α : Type} {z : List α} {i : Int} (h : 0 ≤ i) : cutL z none (some i) = z.take i.toNat := by
  unfold cutL
  have e1 : HT.sIx z.length 0 none = 0 := rfl
  have e2 : HT.sIx z.length z.length (some i) = min i.toNat z.length := by
    unfold HT.sIx
    simp only
    split <;> omega
  rw [e1, e2, List.drop_zero, Nat.sub_zero, List.take_eq_take_iff]
  omega
theorem cut_lo {α : Type} {z : List α} {i : Int} (h : 0 ≤ i) : cutL z (some i) none = z.drop i.toNat := by
  unfold cutL
  have e1 : HT.sIx z.length z.length none = z.length := rfl
  have e2 : HT.sIx z.length 0 (some i) = min i.toNat z.length := by
    unfold HT.sIx
    simp only
    split <;> omega
  rw [e1, e2]
  by_cases c : i.toNat ≤ z.length
  · rw [Nat.min_eq_left c, List.take_of_length_le (by simp)]
  · rw [Nat.min_eq_right (by omega), List.drop_eq_nil_of_le (Nat.le_refl _), List.drop_eq_nil_of_le (by omega)]
    simp
theorem joinN_nil : ∀ ps : List (List Nat), joinN [] ps = ps.flatten
  | [] => rfl
  | [p] => by simp [joinN]
  | p :: q :: r => by rw [joinN, joinN_nil (q :: r)]; simp
theorem strs_map : ∀ ps : List (List Nat), strsOf (ps.map .str) = some ps
  | [] => rfl
  | p :: ps => by
    show (strsOf (ps.map .str)).map (p :: ·) = _
    rw [strs_map ps]
    rfl
theorem join_ok {S : List Nat} {ps : List (List Nat)} (h : (ps.map (·.length)).sum + ps.length * S.length ≤ 16777216) : joinD (.str S) (.lst (ps.map .str)) = some (.str (joinN S ps)) := by
  unfold joinD
  show (match strsOf (ps.map .str) with | some ps => _ | none => _) = _
  rw [strs_map]
  exact if_pos h
theorem flat_ones : ∀ z : List Nat, (z.map fun c => [c]).flatten = z
  | [] => rfl
  | c :: z => by simp [flat_ones z]
theorem sum_ones : ∀ z : List Nat, ((z.map fun c => [c]).map (·.length)).sum = z.length
  | [] => rfl
  | c :: z => by rw [List.map_cons, List.map_cons, List.sum_cons, sum_ones z]; simp; omega
theorem join_chrs {z : List Nat} (h : z.length ≤ 1000000) : joinD (.str []) (.lst (chrs z)) = some (.str z) := by
  have e : chrs z = (z.map fun c => [c]).map .str := by unfold chrs; rw [List.map_map]; rfl
  rw [e, join_ok, joinN_nil, flat_ones]
  rw [sum_ones]
  simp
  omega
theorem drawn_chrs {α : Type} {cs : List Nat} : ∀ {xs : List α} {rs : List D}, All2 (fun _ r => r ∈ chrs cs) xs rs → ∃ z, rs = chrs z ∧ z.length = xs.length ∧ ∀ c ∈ z, c ∈ cs
  | _, _, .nil => ⟨[], rfl, rfl, by simp⟩
  | _, _, .cons h t => by
    obtain ⟨z, rfl, e, hz⟩ := drawn_chrs t
    obtain ⟨c, m, rfl⟩ := List.mem_map.mp h
    refine ⟨c :: z, rfl, by simp [e], fun x hx => ?_⟩
    rcases List.mem_cons.mp hx with rfl | hx
    · exact m
    · exact hz x hx
theorem toPyL_strs : ∀ zs : List (List Nat), toPyL (zs.map .str) = some (zs.map fun z => .str ⟨z.toArray⟩)
  | [] => by simp [toPyL]
  | z :: zs => by simp [toPyL, toPy, toPyL_strs zs]
theorem lay_strs : ∀ {zs : List (List Nat)}, (∀ z ∈ zs, Tx 1000 z) → PyData.canLayAll0 (zs.map fun z => .str ⟨z.toArray⟩) = true ∧ PyData.depthAll (zs.map fun z => .str ⟨z.toArray⟩) = 0 ∧ PyData.weightAll (zs.map fun z => .str ⟨z.toArray⟩) ≤ zs.length * 1001 ∧ PyData.intsShortAll 13 (zs.map fun z => .str ⟨z.toArray⟩) = true ∧ PyData.showableAll (zs.map fun z => .str ⟨z.toArray⟩) = true
  | [], _ => by simp [PyData.canLayAll0, PyData.depthAll, PyData.weightAll, PyData.intsShortAll, PyData.showableAll]
  | z :: zs, h => by
    obtain ⟨h1, h2, h3, h4, h5⟩ := lay_strs fun x m => h x (.tail _ m)
    have hz := h z (.head _)
    refine ⟨?_, ?_, ?_, ?_, ?_⟩
    · rw [List.map_cons, PyData.canLayAll0, h1]
      simp only [PyData.canLay0, Bool.and_true, PyData.strOk]
      simpa using hz.2
    · rw [List.map_cons, PyData.depthAll, h2, PyData.depth]; rfl
    · rw [List.map_cons, PyData.weightAll, PyData.weight, List.length_cons]
      have := hz.1
      simp only [List.size_toArray]
      omega
    · rw [List.map_cons, PyData.intsShortAll, h4, PyData.intsShort]; rfl
    · rw [List.map_cons, PyData.showableAll, h5, PyData.showable]; rfl
theorem str_beq (a b : List Nat) : PyData.eqv (.str ⟨a.toArray⟩) (.str ⟨b.toArray⟩) = decide (a = b) := by
  rw [PyData.eqv]
  by_cases h : a = b
  · subst h
    simp
  · rw [decide_eq_false h]
    have : (⟨a.toArray⟩ : Str) ≠ ⟨b.toArray⟩ := fun z => by
      have z2 : a.toArray = b.toArray := Str.mk.inj z
      exact h (by simpa using z2)
    simpa using this
theorem any_strs (a : List Nat) : ∀ zs : List (List Nat), ((zs.map fun z => PyData.str ⟨z.toArray⟩).any fun z => PyData.eqv z (.str ⟨a.toArray⟩)) = decide (a ∈ zs)
  | [] => rfl
  | z :: zs => by
    rw [List.map_cons, List.any_cons, any_strs a zs, str_beq]
    by_cases h : a = z
    · subst h; simp
    · have h' : ¬ z = a := fun e => h e.symm
      simp [h, h']
theorem shaped_str {n : Nat} {a : List Nat} (h : Tx n a) : SeqAt.shaped (.str ⟨a.toArray⟩) = true := by
  unfold SeqAt.shaped
  simp only [PyData.canLay0, PyData.strOk, PyData.depth]
  simpa using h.2
theorem shaped_strs {zs : List (List Nat)} (h : ∀ z ∈ zs, Tx 1000 z) : SeqAt.shaped (.list (zs.map fun z => .str ⟨z.toArray⟩)) = true ∧ SeqAt.shaped (.tuple (zs.map fun z => .str ⟨z.toArray⟩)) = true := by
  obtain ⟨h1, h2, _⟩ := lay_strs h
  unfold SeqAt.shaped
  simp only [PyData.canLay0, h1, PyData.depth, h2]
  exact ⟨rfl, rfl⟩
theorem in_strs {n : Nat} {a : List Nat} {zs : List (List Nat)} (ha : Tx n a) (h : ∀ z ∈ zs, Tx 1000 z) : inD (.str a) (.lst (zs.map .str)) = some (.bl (decide (a ∈ zs))) := by
  have e : inP (.str a) (.lst (zs.map .str)) = some (decide (a ∈ zs)) := by
    unfold inP
    split
    · rename_i q; cases q
    · rename_i ds _ q
      cases q
      rw [toPy, toPy, toPyL_strs]
      simp only [Option.map_some, shaped_str ha, (shaped_strs h).1, Bool.and_self, if_true, any_strs]
    · rename_i q; cases q
    · rename_i q _ _; exact absurd rfl (q _)
  unfold inD
  rw [e]
  rfl
theorem bols_map {α : Type} (f : α → Bool) : ∀ xs : List α, bolsOf (xs.map fun x => .bl (f x)) = some (xs.map f)
  | [] => rfl
  | x :: xs => by
    show (bolsOf _).map (_ :: ·) = _
    rw [bols_map f xs]
    rfl
theorem all_map {α : Type} (f : α → Bool) (xs : List α) : allD [.lst (xs.map fun x => .bl (f x))] = some (.bl (xs.all f)) := by
  unfold allD
  simp only [bols_map, Option.map_some, List.all_map]
  rfl
end DL
namespace DL
open PySem
mutual
def wt : D → Nat
  | .str z => z.length
  | .tup ds => wtL ds + 1
  | .lst ds => wtL ds + 1
  | .int _ => 70
  | _ => 1
def wtL : List D → Nat
  | [] => 0
  | d :: ds => wt d + 1 + wtL ds
end
mutual
def nic : Nat → D → Bool
  | _, .non => true
  | _, .bl _ => true
  | _, .int i => decide (i.natAbs < 10 ^ 20)
  | _, .str z => z.all fun c => decide (c < 1114112)
  | n + 1, .tup ds => nicL n ds
  | n + 1, .lst ds => nicL n ds
  | _, _ => false
def nicL : Nat → List D → Bool
  | _, [] => true
  | n, d :: ds => nic n d && nicL n ds
end
mutual
def py : D → PyData
  | .non => .none
  | .bl b => .bool b
  | .int i => .int i
  | .str s => .str ⟨s.toArray⟩
  | .tup ds => .tuple (pyL ds)
  | .lst ds => .list (pyL ds)
  | _ => .none
def pyL : List D → List PyData
  | [] => []
  | d :: ds => py d :: pyL ds
end
mutual
def deq : D → D → Bool
  | .non, .non => true
  | .bl a, .bl b => a == b
  | .bl a, .int j => (if a then 1 else 0) == j
  | .int i, .bl b => i == (if b then 1 else 0)
  | .int i, .int j => i == j
  | .str x, .str y => decide (x = y)
  | .lst xs, .lst ys => deqL xs ys
  | .tup xs, .tup ys => deqL xs ys
  | _, _ => false
def deqL : List D → List D → Bool
  | [], [] => true
  | x :: xs, y :: ys => deq x y && deqL xs ys
  | _, _ => false
end
theorem int20 {i : Int} (h : i.natAbs < 10 ^ 20) : i.natAbs.log2 < 67 := PySem.Flt.log2_lt_of (k := 67) (by decide) (Nat.lt_of_lt_of_le h (by decide))
theorem shown20 {i : Int} (h : i.natAbs < 10 ^ 20) : (PyData.shown (.int i)).length ≤ 21 := by
  have e := int_text_length_le10 (k := 20) (by decide) h
  show (Str.ofString (toString i)).length ≤ 21
  rw [ofString_length]; exact e
structure NicP (n : Nat) (w : Nat) (p : PyData) : Prop where
  lay : p.canLay0 = true
  dep : p.depth ≤ n
  sho : p.showable = true
  lea : p.leavesShort 25 = true
  wei : p.weight ≤ w
  nod : p.hasDict = false
structure NicL (n : Nat) (w : Nat) (p : List PyData) : Prop where
  lay : PyData.canLayAll0 p = true
  dep : PyData.depthAll p ≤ n
  sho : PyData.showableAll p = true
  lea : PyData.leavesShortAll 25 p = true
  wei : PyData.weightAll p ≤ w
  nod : PyData.hasDictAll p = false
mutual
theorem nic_ok : ∀ (n : Nat) (d : D), nic n d = true → toPy d = some (py d) ∧ NicP n (wt d) (py d)
  | n, .non, _ => ⟨by simp [toPy, py], by constructor <;> simp [py, PyData.canLay0, PyData.depth, PyData.showable, PyData.leavesShort, PyData.weight, PyData.hasDict, wt]⟩
  | n, .bl _, _ => ⟨by simp [toPy, py], by constructor <;> simp [py, PyData.canLay0, PyData.depth, PyData.showable, PyData.leavesShort, PyData.weight, PyData.hasDict, wt]⟩
  | n, .int i, h => by
    have h' : i.natAbs < 10 ^ 20 := by simpa [nic] using h
    have hl := int20 h'
    refine ⟨by simp [toPy, py], ?_⟩
    constructor <;> simp [py, PyData.canLay0, PyData.depth, PyData.showable, PyData.leavesShort, PyData.hasDict]
    · omega
    · have := shown20 h'; omega
    · simp only [PyData.weight, wt]
      split <;> omega
  | n, .str z, h => by
    have h' : ∀ c ∈ z, c < 1114112 := by simpa [nic] using h
    refine ⟨by simp [toPy, py], ?_⟩
    constructor <;> simp [py, PyData.canLay0, PyData.depth, PyData.showable, PyData.leavesShort, PyData.hasDict, PyData.strOk, PyData.weight, wt]
    · exact h'
    · intro c hc; have := h' c hc; omega
  | n + 1, .tup ds, h => by
    obtain ⟨e, q⟩ := nicL_ok n ds (by simpa [nic] using h)
    refine ⟨by rw [toPy, e]; simp [py], ?_⟩
    constructor <;> simp only [py, PyData.canLay0, PyData.depth, PyData.showable, PyData.leavesShort, PyData.hasDict, PyData.weight, wt]
    · exact q.lay
    · exact Nat.succ_le_succ q.dep
    · exact q.sho
    · exact q.lea
    · exact Nat.le_succ_of_le q.wei
    · exact q.nod
  | n + 1, .lst ds, h => by
    obtain ⟨e, q⟩ := nicL_ok n ds (by simpa [nic] using h)
    refine ⟨by rw [toPy, e]; simp [py], ?_⟩
    constructor <;> simp only [py, PyData.canLay0, PyData.depth, PyData.showable, PyData.leavesShort, PyData.hasDict, PyData.weight, wt]
    · exact q.lay
    · exact Nat.succ_le_succ q.dep
    · exact q.sho
    · exact q.lea
    · exact Nat.le_succ_of_le q.wei
    · exact q.nod
  | 0, .tup _, h => by simp [nic] at h
  | 0, .lst _, h => by simp [nic] at h
  | n, .dic _ _, h => by simp [nic] at h
  | n, .ins _ _ _, h => by simp [nic] at h
  | n, .scr _, h => by simp [nic] at h
  | n, .xc _ _ _ _, h => by simp [nic] at h
theorem nicL_ok : ∀ (n : Nat) (ds : List D), nicL n ds = true → toPyL ds = some (pyL ds) ∧ NicL n (wtL ds) (pyL ds)
  | n, [], _ => ⟨by simp [toPyL, pyL], by constructor <;> simp [pyL, PyData.canLayAll0, PyData.depthAll, PyData.showableAll, PyData.leavesShortAll, PyData.weightAll, PyData.hasDictAll, wtL]⟩
  | n, d :: ds, h => by
    have h' : nic n d = true ∧ nicL n ds = true := by simpa [nicL] using h
    obtain ⟨e1, q1⟩ := nic_ok n d h'.1
    obtain ⟨e2, q2⟩ := nicL_ok n ds h'.2
    refine ⟨by simp [toPyL, e1, e2, pyL], ?_⟩
    have := q1.wei
    have := q2.wei
    have := q1.dep
    have := q2.dep
    constructor <;> simp only [pyL, PyData.canLayAll0, PyData.depthAll, PyData.showableAll, PyData.leavesShortAll, PyData.weightAll, PyData.hasDictAll, wtL]
    · rw [q1.lay, q2.lay]; rfl
    · omega
    · rw [q1.sho, q2.sho]; rfl
    · rw [q1.lea, q2.lea]; rfl
    · omega
    · rw [q1.nod, q2.nod]; rfl
end
theorem repr_nic {n : Nat} {d : D} (h : nic n d = true) (hn : n ≤ 60) (w : wt d ≤ 500000) : ∃ s, reprD [d] = some (.str s) := by
  obtain ⟨e, q⟩ := nic_ok n d h
  unfold reprD
  simp only [e]
  refine ⟨_, if_pos ?_⟩
  simp only [Bool.and_eq_true, Bool.not_eq_true', decide_eq_true_eq]
  refine ⟨⟨⟨q.sho, q.nod⟩, Nat.le_trans q.dep hn⟩, ?_⟩
  have h1 := PyData.shown_le 25 (by decide) (py d) q.lea
  have h2 := q.wei
  rw [sizeLine_eq]
  omega
theorem shaped_nic {n : Nat} {d : D} (h : nic n d = true) (hn : n ≤ 60) : toPy d = some (py d) ∧ SeqAt.shaped (py d) = true := by
  obtain ⟨e, q⟩ := nic_ok n d h
  refine ⟨e, ?_⟩
  unfold SeqAt.shaped
  rw [q.lay]
  have := q.dep
  simp only [Bool.true_and, decide_eq_true_eq]
  omega
theorem str_eqv (x y : List Nat) : ((⟨x.toArray⟩ : Str) == ⟨y.toArray⟩) = decide (x = y) := by
  have := str_beq x y
  rw [PyData.eqv] at this
  exact this
mutual
theorem deq_py : ∀ (n m : Nat) (a b : D), nic n a = true → nic m b = true → PyData.eqv (py a) (py b) = deq a b
  | n, m, .non, b, _, hb => by cases b <;> simp [py, PyData.eqv, deq] <;> simp [nic] at hb
  | n, m, .bl x, b, _, hb => by cases b <;> simp [py, PyData.eqv, deq] <;> simp [nic] at hb
  | n, m, .int x, b, _, hb => by cases b <;> simp [py, PyData.eqv, deq] <;> simp [nic] at hb
  | n, m, .str x, b, _, hb => by cases b <;> simp [py, PyData.eqv, deq, str_eqv] <;> simp [nic] at hb
  | n + 1, m, .tup x, b, ha, hb => by
    cases b with
    | tup y =>
      cases m with
      | zero => simp [nic] at hb
      | succ m =>
        simp only [py, PyData.eqv, deq]
        exact deqL_py n m x y (by simpa [nic] using ha) (by simpa [nic] using hb)
    | _ => simp [py, PyData.eqv, deq] <;> simp [nic] at hb
  | n + 1, m, .lst x, b, ha, hb => by
    cases b with
    | lst y =>
      cases m with
      | zero => simp [nic] at hb
      | succ m =>
        simp only [py, PyData.eqv, deq]
        exact deqL_py n m x y (by simpa [nic] using ha) (by simpa [nic] using hb)
    | _ => simp [py, PyData.eqv, deq] <;> simp [nic] at hb
  | 0, m, .tup _, b, h, _ => by simp [nic] at h
  | 0, m, .lst _, b, h, _ => by simp [nic] at h
  | n, m, .dic _ _, b, h, _ => by simp [nic] at h
  | n, m, .ins _ _ _, b, h, _ => by simp [nic] at h
  | n, m, .scr _, b, h, _ => by simp [nic] at h
  | n, m, .xc _ _ _ _, b, h, _ => by simp [nic] at h
theorem deqL_py : ∀ (n m : Nat) (a b : List D), nicL n a = true → nicL m b = true → PyData.eqvAll (pyL a) (pyL b) = deqL a b
  | n, m, [], [], _, _ => by simp [pyL, PyData.eqvAll, deqL]
  | n, m, [], _ :: _, _, _ => by simp [pyL, PyData.eqvAll, deqL]
  | n, m, _ :: _, [], _, _ => by simp [pyL, PyData.eqvAll, deqL]
  | n, m, x :: xs, y :: ys, h, k => by
    have h' : nic n x = true ∧ nicL n xs = true := by simpa [nicL] using h
    have k' : nic m y = true ∧ nicL m ys = true := by simpa [nicL] using k
    simp only [pyL, PyData.eqvAll, deqL]
    rw [deq_py n m x y h'.1 k'.1, deqL_py n m xs ys h'.2 k'.2]
end
theorem eqP_nic {n m : Nat} {a b : D} (ha : nic n a = true) (hb : nic m b = true) (hn : n ≤ 60) (hm : m ≤ 60) : eqP a b = some (deq a b) := by
  have e : eqS a b = some (deq a b) := by
    obtain ⟨e1, s1⟩ := shaped_nic ha hn
    obtain ⟨e2, s2⟩ := shaped_nic hb hm
    unfold eqS
    rw [e1, e2]
    simp only [s1, s2, Bool.and_self, if_true, deq_py n m a b ha hb]
  unfold eqP
  split
  · simp [deq]
  · simp [deq]; rw [Bool.eq_iff_iff]; simp
  · simp [deq]; rw [Bool.eq_iff_iff]; simp
  · simp [deq]
  · exact e
theorem eq_nic {n m : Nat} {a b : D} (ha : nic n a = true) (hb : nic m b = true) (hn : n ≤ 60) (hm : m ≤ 60) : eqD a b = some (.bl (deq a b)) := by unfold eqD; rw [eqP_nic ha hb hn hm]; rfl
theorem ne_nic {n m : Nat} {a b : D} (ha : nic n a = true) (hb : nic m b = true) (hn : n ≤ 60) (hm : m ≤ 60) : neD a b = some (.bl (!deq a b)) := by unfold neD; rw [eqP_nic ha hb hn hm]; rfl
theorem nicL_iff {n : Nat} : ∀ {ds : List D}, nicL n ds = true ↔ ∀ d ∈ ds, nic n d = true
  | [] => by simp [nicL]
  | d :: ds => by simp [nicL, nicL_iff (ds := ds)]
theorem nic_strs {n : Nat} {zs : List (List Nat)} (h : ∀ z ∈ zs, ∀ c ∈ z, c < 1114112) : nicL n (zs.map .str) = true := nicL_iff.mpr fun d m => by
  obtain ⟨z, hz, rfl⟩ := List.mem_map.mp m
  simpa [nic] using h z hz
theorem deqL_strs : ∀ {A B : List (List Nat)}, deqL (A.map .str) (B.map .str) = decide (A = B)
  | [], [] => by simp [deqL]
  | [], _ :: _ => by simp [deqL]
  | _ :: _, [] => by simp [deqL]
  | a :: A, b :: B => by
    simp only [List.map_cons, deqL, deq, deqL_strs (A := A) (B := B)]
    by_cases h : a = b <;> by_cases k : A = B <;> simp [h, k]
mutual
theorem nic_mono : ∀ (n m : Nat) (d : D), n ≤ m → nic n d = true → nic m d = true
  | n, m, .non, _, _ => by simp [nic]
  | n, m, .bl _, _, _ => by simp [nic]
  | n, m, .int _, _, h => by simpa [nic] using h
  | n, m, .str _, _, h => by simpa [nic] using h
  | n + 1, m + 1, .tup ds, k, h => by
    have := nicL_mono n m ds (by omega) (by simpa [nic] using h)
    simpa [nic] using this
  | n + 1, m + 1, .lst ds, k, h => by
    have := nicL_mono n m ds (by omega) (by simpa [nic] using h)
    simpa [nic] using this
  | n + 1, 0, .tup _, k, h => by omega
  | n + 1, 0, .lst _, k, h => by omega
  | 0, m, .tup _, _, h => by simp [nic] at h
  | 0, m, .lst _, _, h => by simp [nic] at h
  | n, m, .dic _ _, _, h => by simp [nic] at h
  | n, m, .ins _ _ _, _, h => by simp [nic] at h
  | n, m, .scr _, _, h => by simp [nic] at h
  | n, m, .xc _ _ _ _, _, h => by simp [nic] at h
theorem nicL_mono : ∀ (n m : Nat) (ds : List D), n ≤ m → nicL n ds = true → nicL m ds = true
  | n, m, [], _, _ => by simp [nicL]
  | n, m, d :: ds, k, h => by
    have h' : nic n d = true ∧ nicL n ds = true := by simpa [nicL] using h
    simp only [nicL, nic_mono n m d k h'.1, nicL_mono n m ds k h'.2, Bool.and_self]
end
theorem nic_tup {n : Nat} {ds : List D} : nic (n + 1) (.tup ds) = nicL n ds := by simp [nic]
end DL
namespace DL
open PySem PySem.W
def pr (z : List Nat) : PyData := .tuple [.int z.length, .str ⟨z.toArray⟩]
end DL
namespace FN
open DL
def okRow (A : List (List Nat)) : Bool := decide (A.length ≤ 20) && A.all (isLab 20)
theorem isLab_iff {n : Nat} {z : List Nat} : isLab n z = true ↔ 1 ≤ z.length ∧ z.length ≤ n ∧ ∀ c ∈ z, c ∈ CH := by
  unfold isLab
  simp
theorem ch_lt {c : Nat} (h : c ∈ CH) : c < 1114112 := by
  have : ∀ x ∈ CH, x < 1114112 := by decide
  exact this c h
theorem lab_tx {z : List Nat} (h : isLab 20 z = true) : Tx 20 z := ⟨(isLab_iff.mp h).2.1, fun c m => ch_lt ((isLab_iff.mp h).2.2 c m)⟩
theorem drawn_ok {cs : List Nat} {n : Nat} {lo : Int} (hc : cs ≠ []) (hl : cs.length ≤ 1000) : Ok (lcF (fun d => some d) (fun (_ : D) => pure true) (fun (_ : D) => m__law_of_bf28 [.lst (chrs cs)]) (rangeL lo n)) fun rs => ∃ z, rs = chrs z ∧ z.length = n ∧ ∀ c ∈ z, c ∈ cs :=
  ok_mono (ok_lc (P := fun _ r => r ∈ chrs cs) _ fun d _ => ⟨d, rfl, of_ok (by simpa [chrs] using hc) (by rw [chrs_len]; omega)⟩) fun rs h => by
    obtain ⟨z, e, hz, hm⟩ := drawn_chrs h
    exact ⟨z, e, by rw [hz, range_len], hm⟩
end FN
namespace FN
open DL
def c_MOST_PORT : D := (.int (65535))
def b_default_port_11a4 (a0 : D) : R (Fl Unit Empty) := (do let v3 ← (iteM (do let x1 ← (pure a0); let y2 ← (pure (.str [104, 116, 116, 112])); DL.ask ((eqD x1 y2).bind bOf)) (pure (.int 80)) (pure (.int 443))); pure (.rt v3))
def m_default_port_11a4 : List D → R D := apR1 fun a0 => (runR false (b_default_port_11a4 a0))
end FN
namespace FN
open DL PySem PySem.W
theorem ix_str {z : List Nat} {i : Int} (h0 : 0 ≤ i) (h : i < z.length) : ∃ c, c ∈ z ∧ ixD (.str z) (.int i) = some (.str [c]) := by
  refine ⟨z[i.toNat]'(by omega), List.getElem_mem _, ?_⟩
  unfold ixD L2.atI
  simp only [ixN_ok h0 h]
  show Option.map (fun c => D.str [c]) (z[i.toNat]?) = _
  rw [List.getElem?_eq_getElem (by omega)]
  rfl
theorem tup_lst {ds : List D} : tupleD [.lst ds] = some (.tup ds) := rfl
theorem sub_ii {i j : Int} : subD (.int i) (.int j) = some (.int (i - j)) := rfl
theorem neg_i {i : Int} : negD (.int i) = some (.int (-i)) := rfl
theorem eqi {i j : Int} : (eqD (.int i) (.int j)).bind bOf = some (decide (i = j)) := rfl
theorem lti {i j : Int} : (ltD (.int i) (.int j)).bind bOf = some (decide (i < j)) := rfl
theorem gti {i j : Int} : (gtD (.int i) (.int j)).bind bOf = some (decide (j < i)) := rfl
def Sm (n W : Nat) (d : D) : Prop := nic n d = true ∧ wt d ≤ W
theorem Sm.mono {n m W V : Nat} {d : D} (h : Sm n W d) (h1 : n ≤ m) (h2 : W ≤ V) : Sm m V d := ⟨nic_mono n m d h1 h.1, Nat.le_trans h.2 h2⟩
theorem add_tt {a b : List D} (h : a.length + b.length ≤ 1000000) : addD (.tup a) (.tup b) = some (.tup (a ++ b)) := if_pos (by rw [sizeLine_eq]; omega)
theorem slice_t {z : List D} {lo hi : Option Int} : sliceD (.tup z) lo hi = some (.tup (cutL z lo hi)) := rfl
theorem join_tup {S : List Nat} {ps : List (List Nat)} (h : (ps.map (·.length)).sum + ps.length * S.length ≤ 16777216) : joinD (.str S) (.tup (ps.map .str)) = some (.str (joinN S ps)) := by
  unfold joinD
  show (match strsOf (ps.map .str) with | some ps => _ | none => _) = _
  rw [strs_map]
  exact if_pos h
theorem sum_le {A : List (List Nat)} {k : Nat} (h : ∀ z ∈ A, z.length ≤ k) : (A.map (·.length)).sum ≤ A.length * k := by
  induction A with
  | nil => simp
  | cons z A ih =>
    have h1 := h z (.head _)
    have h2 := ih fun w m => h w (.tail _ m)
    rw [List.map_cons, List.sum_cons, List.length_cons, Nat.succ_mul]
    omega
theorem le_l {i j : Int} : leD (.int i) (.int j) = some (.bl (decide (i ≤ j))) := rfl
def kHttp : List Nat := [104, 116, 116, 112]
def kHttps : List Nat := [104, 116, 116, 112, 115]
theorem row_sum {A : List (List Nat)} (h : okRow A = true) : A.length ≤ 20 ∧ (A.map (·.length)).sum ≤ 400 := by
  simp only [okRow, Bool.and_eq_true, decide_eq_true_eq, List.all_eq_true] at h
  have := sum_le (A := A) (k := 20) fun z m => (lab_tx (h.2 z m)).1
  exact ⟨h.1, by omega⟩
theorem sz3 {a b c : D} : szL [a, b, c] = some [a, b, c] := sz_ok (by simp)
theorem sz2 {a b : D} : szL [a, b] = some [a, b] := sz_ok (by simp)
end FN
namespace FN
open DL
def b_port_of_e04e (a0 : D) : R (Fl Unit Empty) := (do let t31 ← (DL.orM (do let x1 ← (pure a0); let y2 ← (pure (.str [])); DL.ask ((eqD x1 y2).bind bOf)) (DL.orM (do let x6 ← (do let r5 ← (do let x3 ← (pure a0); let r4 ← pure []; pure (x3 :: r4)); DL.ask (lenD r5)); let y7 ← (pure (.int 5)); DL.ask ((gtD x6 y7).bind bOf)) (do let x10 ← (do let x8 ← (pure a0); let y9 ← (pure (.int 0)); DL.ask (ixD x8 y9)); let y11 ← (pure (.str [48])); DL.ask ((eqD x10 y11).bind bOf)))); seqF (if t31 = true then (do let v13 ← (pure .non); pure (.rt v13)) else (pure (.nx ()))) fun (q12 : Unit) => (do let r30 ← (do let r14 ← (pure a0); DL.ask (itD r14)); seqF (forF (fun d => some d) (fun (q15 : Unit) (c16 : D) => (do let t21 ← (do let x17 ← (pure c16); let y18 ← (pure (.str [48, 49, 50, 51, 52, 53, 54, 55, 56, 57])); DL.ask ((notInD x17 y18).bind bOf)); seqF (if t21 = true then (do let v20 ← (pure .non); pure (.rt v20)) else (pure (.nx ()))) fun (q19 : Unit) => (pure (.nx ())))) r30 ()) fun (q22 : Unit) => (do let v23 ← (do let r26 ← (do let x24 ← (pure a0); let r25 ← pure []; pure (x24 :: r25)); DL.ask (intXD r26)); (do let v29 ← (iteM (do let x27 ← (pure v23); let y28 ← (pure c_MOST_PORT); DL.ask ((leD x27 y28).bind bOf)) (pure v23) (pure .non)); pure (.rt v29)))))
def m_port_of_e04e : List D → R D := apR1 fun a0 => (runR false (b_port_of_e04e a0))
end FN
namespace FN
open DL PySem PySem.W
section
variable {w w' : List Nat} {A A' B B' : List (List Nat)} {i i' : Int}
def dpt (w : List Nat) : Int := if w = kHttp then 80 else 443
def door (w : List Nat) (i : Int) : List Nat := if i = dpt w then [] else [58] ++ numD i
def pre (w : List Nat) (A : List (List Nat)) : List Nat := w ++ [58, 47, 47] ++ joinN [46] A
def ptx (w : List Nat) (A : List (List Nat)) (i : Int) (B : List (List Nat)) : List Nat := pre w A ++ (door w i ++ ([47] ++ joinN [47] B))
def flds (w : List Nat) (A : List (List Nat)) (i : Int) (B : List (List Nat)) : List D := [.str w, .tup (A.map .str), .int i, .tup (B.map .str), .str (ptx w A i B)]
def pgD (w : List Nat) (A : List (List Nat)) (i : Int) (B : List (List Nat)) : D := D.ins "Page" ["scheme", "host", "port", "path", "text"] (flds w A i B)
structure Pg (w : List Nat) (A : List (List Nat)) (i : Int) (B : List (List Nat)) : Prop where
  sw : w = kHttp ∨ w = kHttps
  rA : okRow A = true
  nA : A ≠ []
  i1 : 1 ≤ i
  i2 : i ≤ 65535
  rB : okRow B = true
theorem def_port2 {w : List Nat} (h : w = kHttp ∨ w = kHttps) : m_default_port_11a4 [.str w] = .ok (.int (dpt w)) := by
  rcases h with rfl | rfl <;> rfl
theorem join_row2 {S : List Nat} {A : List (List Nat)} (h : okRow A = true) (hS : S.length ≤ 1) : joinD (.str S) (.tup (A.map .str)) = some (.str (joinN S A)) ∧ (joinN S A).length ≤ 1000 := by
  obtain ⟨h1, h2⟩ := row_sum h
  have h3 : A.length * S.length ≤ 20 * 1 := Nat.mul_le_mul h1 hS
  refine ⟨join_tup (by omega), ?_⟩
  have := joinN_len S A
  omega
theorem join_tx {S : Nat} {A : List (List Nat)} (h : okRow A = true) (hS : S < 1114112) : ∀ c ∈ joinN [S] A, c < 1114112 := by
  simp only [okRow, Bool.and_eq_true, decide_eq_true_eq, List.all_eq_true] at h
  have hA := h.2
  clear h
  induction A with
  | nil => intro c hc; cases hc
  | cons z A ih =>
    have hz := (lab_tx (hA z (.head _))).2
    have ih' := ih fun w m => hA w (.tail _ m)
    cases A with
    | nil => intro c hc; exact hz c (by simpa [joinN] using hc)
    | cons y A =>
      intro c hc
      rw [joinN] at hc
      rcases List.mem_append.mp hc with hc | hc
      · exact hz c hc
      · rcases List.mem_append.mp hc with hc | hc
        · rw [List.mem_singleton.mp hc]; exact hS
        · exact ih' c hc
theorem lab_ok_row (h : okRow A = true) : A.length ≤ 20 ∧ ∀ z ∈ A, isLab 20 z = true := by
  simpa only [okRow, Bool.and_eq_true, decide_eq_true_eq, List.all_eq_true] using h
theorem row_of (h1 : A.length ≤ 20) (h2 : ∀ z ∈ A, isLab 20 z = true) : okRow A = true := by
  simp only [okRow, Bool.and_eq_true, decide_eq_true_eq, List.all_eq_true]; exact ⟨h1, h2⟩
theorem eq_i {i j : Int} : eqD (.int i) (.int j) = some (.bl (decide (i = j))) := rfl
theorem ch_free {s : Nat} (h : ¬ s ∈ CH) {z : List Nat} (hz : isLab 20 z = true) : s ∉ z := fun m => h ((isLab_iff.mp hz).2.2 s m)
theorem split_ok {s : Nat} (hs : s < 256) (hc : ¬ s ∈ CH) (hA : ∀ z ∈ A, isLab 20 z = true) (h0 : A ≠ []) (hl : (joinN [s] A).length ≤ 1000000) : splitD (.str (joinN [s] A)) (.str [s]) = some (A.map .str) := by
  show (if s < 256 ∧ (joinN [s] A).length ≤ 1000000 then some ((TL.spl [s] 0 [] (joinN [s] A)).map D.str) else none) = _
  rw [if_pos ⟨hs, hl⟩, joinN_eq, TL.spl_join h0 fun p m => ch_free hc (hA p m)]
theorem un3_3 {a b c : D} : un3 (.tup [a, b, c]) = some (a, b, c) := rfl
end
end FN
namespace DL
open PySem PySem.Spec PyProof.Rows L2
end DL
namespace FN
open DL PySem PySem.W
theorem par_eq {S : List Nat} : ∀ {z acc p q : List Nat}, TL.par S acc z = some (p, q) → acc ++ z = p ++ (S ++ q)
  | [], acc, p, q, h => by
    have h' : (none : Option (List Nat × List Nat)) = some (p, q) := h
    cases h'
  | c :: r, acc, p, q, h => by
    by_cases hp : TL.pre S (c :: r) = true
    · rw [TL.par_hit hp] at h
      cases h
      have e : (c :: r).take S.length = S := by simpa [TL.pre] using hp
      have e2 := List.take_append_drop S.length (c :: r)
      rw [e] at e2
      rw [e2]
    · rw [TL.par_miss (by simpa using hp)] at h
      have := par_eq h
      simpa using this
theorem spl_len {S : List Nat} : ∀ (z : List Nat) (k : Nat) (acc : List Nat), (TL.spl S k acc z).length ≤ z.length + 1
  | [], k, acc => by rw [TL.spl_nil]; simp
  | x :: r, 0, acc => by
    by_cases hp : TL.pre S (x :: r) = true
    · rw [TL.spl_hit hp]
      have := spl_len (S := S) r (S.length - 1) []
      simp only [List.length_cons]; omega
    · rw [TL.spl_miss (by simpa using hp)]
      have := spl_len (S := S) r 0 (acc ++ [x])
      simp only [List.length_cons]; omega
  | x :: r, k + 1, acc => by
    have := spl_len (S := S) r k acc
    simp only [List.length_cons]
    show (TL.spl S k acc r).length ≤ _
    omega
theorem split_any {s : Nat} {z : List Nat} (hs : s < 256) (hz : z.length ≤ 1000000) : splitD (.str z) (.str [s]) = some ((TL.spl [s] 0 [] z).map .str) := by
  show (if s < 256 ∧ z.length ≤ 1000000 then some ((TL.spl [s] 0 [] z).map D.str) else none) = _
  rw [if_pos ⟨hs, hz⟩]
theorem part_eq {z S : List Nat} (hS : S ≠ []) (hz : z.length ≤ 1000000) : partD (.str z) (.str S) = some (match TL.par S [] z with | some (p, q) => D.tup [.str p, .str S, .str q] | none => D.tup [.str z, .str [], .str []]) := by
  show (if S ≠ [] ∧ z.length ≤ 1000000 then _ else none) = _
  rw [if_pos ⟨hS, hz⟩] <;> rfl
theorem par_ix {c : Nat} : ∀ {z acc : List Nat}, c ∈ z → TL.par [c] acc z = some (acc ++ z.take (z.idxOf c), z.drop (z.idxOf c + 1))
  | [], _, h => by cases h
  | x :: r, acc, h => by
    by_cases hx : x = c
    · subst hx
      have hp : TL.pre [x] (x :: r) = true := TL.pre_self [x] r
      rw [TL.par_hit hp, List.idxOf_cons_self]
      simp
    · rw [TL.par_miss (TL.pre_of_head [] r hx)]
      have hr : c ∈ r := by
        rcases List.mem_cons.mp h with e | e
        · exact absurd e.symm hx
        · exact e
      have e : (x :: r).idxOf c = r.idxOf c + 1 := by
        have hb : (x == c) = false := beq_eq_false_iff_ne.mpr hx
        rw [List.idxOf_cons, hb]; rfl
      rw [par_ix hr, e]
      simp
theorem notin_sign {z : List Nat} {c : Nat} : (notInD (.str [c]) (.str z)).bind bOf = some (!decide (c ∈ z)) := rfl
theorem cut_to {z : List Nat} {n : Nat} : cutL z none (some (n : Int)) = z.take n := by rw [cut_hi (by omega)]; rfl
theorem sqp {α β γ : Type} {a : α} {k : α → R (Fl γ β)} : seqF (pure (Fl.nx a) : R (Fl α β)) k = k a := rfl
def Rn (l n : Nat) (d : D) : Prop := ∃ A : List (List Nat), d = .tup (A.map .str) ∧ l ≤ A.length ∧ A.length ≤ n ∧ ∀ z ∈ A, isLab 20 z = true
theorem Rn.up {l n m : Nat} {d : D} (h : Rn l n d) (w : n ≤ m) : Rn l m d := by
  obtain ⟨A, a, b, c, e⟩ := h
  exact ⟨A, a, b, by omega, e⟩
end FN
namespace DL
open PySem PySem.Spec PyProof.Rows L2 NdefX ClX
def spIS (K : PySem.W.Frag) (mg : Str → Option Value) (D : Addr) (ns : List Str) (L : Nat → Prop) (g : List DL.D → R (List DL.D)) : Sp := fun vs H Q E => spI K mg ns L g vs H Q E ∧ ∃ x rest dx, vs = .ref x :: rest ∧ H x = some (.ins D dx [])
structure SupFun (P : Program) (K : PySem.W.Frag) (mg : Str → Option Value) (x qual : Str) (st : Stmt) (f fb D : Addr) (fd : FuncData) : Prop where
  ex : ∃ (oc : Value) (od : Option Addr) (kV doc pm : Value) (an : Option Addr) (cda cc : Addr) (ct : Value) (osl : Array (Option Value)) (ccl : Value) (cdd : Option Addr) (vs : Array Value) (ccs : Array (Option Value)) (file : Str) (tf : Tok) (cl : Value) (cld : Option Addr) (csl : Array (Option Value)),
    fd = PySem.W.fnX x qual (defArgs st) (defBody st) (defScope st) [("__class__", cc)] .none kV doc pm an (.ref cda) ct ∧ K.lookup f = some ⟨oc, od, .func fd, osl⟩ ∧ PySem.W.codeIn K (.ref cda) qual = true ∧
    K.lookup cda = some ⟨ccl, cdd, .fields vs, ccs⟩ ∧ vs[2]? = some (.str file tf) ∧ ((P.main.file : Str) == file) = true ∧ K.lookup cc = some ⟨cl, cld, .cell (some (.ref D)), csl⟩
  cls : ∃ cd, PySem.W.clsIn K D = some cd
  mro : PySem.W.mroIn K D (.ref D) = some true
  sup : mg "super" = none
  top : (P.main.scope.names.lookup ("super" : Str)).isSome = false
  init : PySem.W.ks_superIn K D D "__init__" = some (some (.ref fb))
  ty : PySem.W.typeIn K (.ref fb) = some (.type "function")
  fi : PySem.W.fnIn K fb = true
  tp : PySem.W.nsIn K cStatics "thirdparty.any" = some none
theorem startF_at {N : List Str} {vs : List V} {ws : List (Option V)} {i : Nat} {v : V} (h : vs[i]? = some v) : (startF N vs ws)[i]? = some (some v) := by
  unfold startF
  have hl : i < vs.length := (List.getElem?_eq_some_iff.mp h).1
  rw [List.getElem?_append_left (by simpa using hl), List.getElem?_map, h]
  rfl
theorem startF_len {N : List Str} {vs : List V} {ws : List (Option V)} (h : vs.length + ws.length ≤ N.length) : (startF N vs ws).length = N.length := by
  unfold startF
  simp
  omega
section
variable {K : PySem.W.Frag} {mg : Str → Option Value}
theorem StS.initS {Hf H : Hp} {E : XK} {ds : List D} {vs : List V} {N : List Str} {s : S} {x C dx : Addr} {ws : List (Option V)} (sb : Sub Hf H) (hf : Hf x = none) {ns : List Str} (hx : H x = some (.ins C dx [])) (c : Cls K C) (na : ∀ f ∈ ns, NoAttr K C f) (l : IsL K mg Hf ds vs) (hn : vs.length + 1 + ws.length ≤ N.length) :
    StS K mg (fxI ns x H Hf E) Hf H (startF N (.ref x :: vs) ws) (GI N ds) s := by
  refine ⟨.refl sb, trivial, fun b m => ?_, ?_, fun i y e => ?_, fun i j y z p ne ey ez oy oz e1 e2 => ?_⟩
  · have : b = x := by
      rcases List.mem_append.mp m with m | m
      · simpa using m
      · cases m
    subst this
    exact ⟨hf, by rw [hx]; simp, fun _ => by show H b ≠ none; rw [hx]; simp⟩
  · rw [startF_len (by simp only [List.length_cons]; omega)]
    unfold GI
    have := l.len
    simp
    omega
  · cases i with
    | zero =>
      cases e
      exact ⟨x, C, dx, [], startF_at rfl, hx, hf, ⟨by simp, [], hx⟩, by simp, ⟨c, na⟩, rfl, rfl⟩
    | succ i =>
      have e' : (ds.map Sl.im ++ List.replicate (N.length - ds.length - 1) .un)[i]? = some y := e
      have q := slOk_G0 (fx := fxI ns x H Hf E) (H := H) (N := N) l e'
      cases y with
      | un => trivial
      | im d =>
        obtain ⟨v, hv, hi⟩ := q
        refine ⟨v, ?_, hi⟩
        cases h : vs[i]? with
        | none => rw [h] at hv; cases hv
        | some w => rw [h] at hv; cases hv; exact startF_at (by simpa using h)
      | ow ds => exact (isOw_im e' rfl).elim
      | od ks ds => exact (isOw_im e' rfl).elim
      | ob ns ds => exact (isOw_im e' rfl).elim
      | bg =>
        obtain ⟨b, r, e, _⟩ := q
        cases e
  · have z1 : i = 0 := by
      cases i with
      | zero => rfl
      | succ i => exact (isOw_im (n := N.length - ds.length - 1) (ds := ds) (i := i) ey oy).elim
    have z2 : j = 0 := by
      cases j with
      | zero => rfl
      | succ j => exact (isOw_im (n := N.length - ds.length - 1) (ds := ds) (i := j) ez oz).elim
    exact ne (z1.trans z2.symm)
end
section
variable {X : Cx} {j : Nat} {q fb x : Addr} {sp : Sp} {E : L2.St → XK}
theorem run_mP {pins : List (Addr × Obj)} {σ : L2.St} {H : Hp} {s : Shared} {Q : VK} {us : List Value} {vs : List V} (F : FnP X.prog X.w X.K X.mg X.base j fb [] sp) (hg : X.A.guards = some []) (hr : Room j X.A)
    (hx : PassesAt (CXm X.prog X.w X.mg) X σ (E σ)) (I : L2.Inv X ((q, PySem.W.methodObj (.ref fb) (.ref x)) :: pins) σ H s) (r : Vals vs us) (h : sp (.ref x :: vs) H Q (E σ)) : wpAny (model X.prog X.w) X.A (call (.ref q) us) (EP X pins σ Q) X.xe s := by
  have z : wpAny (model X.prog X.w) X.A (call (.ref q) us) (EP X ((q, PySem.W.methodObj (.ref fb) (.ref x)) :: pins) σ Q) X.xe s :=
    wpAny_call (PySem.W.method_call (pin_at I) (codeAny_mono (F X.A X.stack s H (.ref x :: us) [] (.ref x :: vs) Q (E σ) hg hr I.env0 rfl (by rw [List.append_nil]; exact .cons rfl r) h) fun r s' hq => by
      have z := ends_call I hx hq
      cases r with
      | error e => exact z
      | ok fl => cases fl <;> first | exact z | exact z.elim))
  exact thn z fun _ _ y => unpinE y
end
section
variable {P : Program} {w : World} {K : PySem.W.Frag} {mg : Str → Option Value} {base : Heap}
theorem fnSup {x qual : Str} {st : Stmt} {f fb D : Addr} {fd : FuncData} {N ps ns : List Str} {k j n : Nat} {L : Nat → Prop} {g gb : List DL.D → R (List DL.D)} {self : Str} {ar : Arg} {e : Expr} {es : List Expr} {p0 p1 apos cpos epos : Pos}
    (SF : SupFun P K mg x qual st f fb D fd) (Sc : NScope N ps ["__class__"] (defScope st)) (hn : ps.length = n + 1) (hN0 : N[0]? = some self) (hp : ((defArgs st).posonlyargs ++ (defArgs st).args).head? = some ar) (har : ar.arg = self)
    (hb0 : defBody st = [.Expr (.Call (.Attribute (.Call (.Name "super" p0) [] [] p1) "__init__" apos) (e :: es) [] cpos) epos])
    (hks : (defScope st).names.lookup ("super" : Str) = some .globalImplicit) (hkc : (defScope st).names.lookup ("__class__" : Str) = some .free) (hka : (defScope st).names.lookup self = some .local)
    (Fb : FnP P w K mg base j fb [] (spI K mg ns L gb)) (hj : j ≤ k) (hL : ∀ ds : List DL.D, gb ds ≠ .stuck → L (ds.length + 1))
    (ha : ∀ (F : NF) (A : Around) (outer : List Env) (s : Shared) (H Hf : Hp) (E : XK) (o : Addr) (ds : List DL.D), F.scope = defScope st → F.qual = qual → Cok (ncx (CXm P w mg) P w K mg base N F f A outer s H E) (fxI ns o H Hf E) k → ds.length = n →
      ∃ ys : R (List DL.D), PA (ncx (CXm P w mg) P w K mg base N F f A outer s H E) (e :: es) (tA K mg (fxI ns o H Hf E) (GI N ds) ys) ∧ g ds = (do let as ← ys; gb as))
    (hst : ∀ env : Env, starEach (e :: es) env = (false, eval e env) :: starEach es env := by intro _; rfl) (hpl : ∀ env : Env, (backTo cpos (starEach es env)).any (·.1) = false := by intro _; rfl)
    (hev : ∀ env : Env, ∃ pl : Sem Bool, eval (.Call (.Attribute (.Call (.Name "super" p0) [] [] p1) "__init__" apos) (e :: es) [] cpos) env = (do
      let ov ← attributeBase (.Call (.Name "super" p0) [] [] p1) "__init__" env (eval (.Call (.Name "super" p0) [] [] p1) env)
      standAt apos.atName
      let (f, first) ← holding [ov] (getMethod ov "__init__" pl)
      callWith cpos f first (backTo cpos (starEach (e :: es) env)) []) := by intro _; exact ⟨_, rfl⟩) :
    FnG P w K mg base (k + 1) f fd ps (spIS K mg D ns (fun l => l = n + 1) g) := by
  refine ⟨fun vs H Q E h => h.1.1.trans hn.symm, fun A outer s H args us vs Q E gd hr e0 hb r hsp => ?_⟩
  obtain ⟨oc, od, kV, doc, pm, an, cda, cc, ct, osl, ccl, cdd, cvs, ccs, file, tf, cl, cld, csl, rfl, lk, hcd, hcode, hvs, hfile, hcell⟩ := SF.ex
  obtain ⟨cdD, hD⟩ := SF.cls
  obtain ⟨⟨hlen, o, C, dx, rest, Hf, ds, rfl, sb, hf, hx, cls, na, l, q⟩, o2, rest2, dx2, e2, hx2⟩ := hsp
  cases e2
  rw [hx] at hx2
  cases hx2
  have hl' : rest.length = n := by simpa using hlen
  have kp := fun b o e => (e0.bs b o e).1
  have KX : K.In s.heap := e0.mod.kin.keeps kp
  have lim : s.heap.NoLimit := e0.mod.nolimit.keeps kp
  have hpsl : (V.ref o :: rest).length = ps.length := by rw [hn, List.length_cons, hl']
  let F : NF := ⟨x, qual, defArgs st, defBody st, defScope st, [("__class__", cc)], cda⟩
  have hCc : base.get? cc = some ⟨cl, cld, .cell (some (.ref D)), csl⟩ := e0.mod.kin _ _ hcell
  have CA : CellsAt F.cl ["__class__"] [some (V.ref D)] s.heap H := by
    refine ⟨rfl, fun y c h => ?_, fun y z c h1 h2 => ?_, fun i y h => ?_⟩
    · have : y = "__class__" ∧ c = cc := by
        have h' : List.lookup y [(("__class__" : Str), cc)] = some c := h
        simp only [List.lookup] at h'
        split at h'
        · rename_i hb; cases h'; exact ⟨by simpa using hb, rfl⟩
        · cases h'
      obtain ⟨rfl, rfl⟩ := this
      exact ⟨(e0.bs _ _ hCc).2, _, _, (e0.bs _ _ hCc).1, rfl⟩
    · have aux : ∀ y : Str, List.lookup y [(("__class__" : Str), cc)] = some c → y = "__class__" := fun y h' => by
        simp only [List.lookup] at h'
        split at h'
        · rename_i hb; simpa using hb
        · cases h'
      rw [aux y h1, aux z h2]
    · cases i with
      | zero =>
        cases h
        exact ⟨cc, rfl, fun v hv => by cases hv; exact ⟨.ref D, rfl, _, (e0.bs _ _ hCc).1, rfl⟩⟩
      | succ i => simp at h
  refine codeAny_call_function hr.depth (KX _ _ lk) rfl Sc.co Sc.gen rfl (PySem.W.codeRec_of KX hcd) (hb _ _ _ _ ?_)
  refine wpAny_newFunctionEnv Sc.nocell (fun ⟨n, _⟩ hy => Sc.par n (List.of_mem_zip hy).1) (fun h₁ hns hsb => ⟨lim.fresh _ hsb, ?_⟩) Sc.kind
  show codeAny _ _ (.func (defBody st) (envF F f s.heap.objs.size)) _ _
  have kp1 : ∀ b o, s.heap.get? b = some o → h₁.get? b = some o := fun b o e => hsb.extBut b o (Nat.ne_of_lt (Heap.lt_size e)) (Heap.get?_push_of_some _ e)
  have I : L2.Inv (ncx (CXm P w mg) P w K mg base N F f A outer s H E) [] (startF N (.ref o :: rest) [some (.ref D)]) H { s with heap := h₁, toks := s.toks + (ps.zip us).length } := inv_startN Sc hr.hd e0 hpsl r CA hns kp1
  generalize ({ s with heap := h₁, toks := s.toks + (ps.zip us).length } : Shared) = s1 at I ⊢
  have Ck : Cok (ncx (CXm P w mg) P w K mg base N F f A outer s H E) (fxI ns o H Hf E) k := ⟨rfl, fun _ => passes_of rfl, takes_of rfl rfl rfl rfl, hr.deeper _, Sc.nd, gd⟩
  obtain ⟨ys, hpa, hg⟩ := ha F A outer s H Hf E o ds rfl rfl Ck (l.len.trans hl')
  have hNl : (ps.length + 1) ≤ N.length := by
    have := congrArg List.length Sc.pre
    rw [List.length_take, List.length_append] at this
    simp only [List.length_cons, List.length_nil] at this
    omega
  have st0 : StS K mg (fxI ns o H Hf E) Hf H (startF N (.ref o :: rest) [some (.ref D)]) (GI N ds) ⟨0, 0, 0, [], false⟩ := .initS sb hf hx cls na l (by simp only [List.length_cons, List.length_nil]; omega)
  have hOD : o ≠ D := fun z => by
    obtain ⟨oD, hoD⟩ : ∃ oD, K.lookup D = some oD := by
      unfold PySem.W.clsIn at hD
      split at hD
      · rename_i ho; exact ⟨_, ho⟩
      · cases hD
    have := (e0.bs _ _ (e0.mod.kin _ _ hoD)).2
    rw [← z, hx] at this
    cases this
  have hinit : PySem.W.alongIn K "__init__" ((cdD.mro.dropWhile (· != .ref D)).drop 1) = some (some (.ref fb)) := by
    have h := SF.init
    unfold PySem.W.ks_superIn at h
    rw [hD] at h
    exact h
  rw [hb0]
  refine PySem.ks_codeAny_funcAt ?_
  refine PySem.ks_wpAt_execs_cons (PySem.ks_wpAt_Expr_any ?_ I.quiet rfl)
  obtain ⟨pl, hpe⟩ := hev (envF F f s.heap.objs.size)
  refine PySem.ks_wpAt_MethodCall (pl := pl) ?_ hpe
  obtain ⟨hh, gg, dd, tt, oo⟩ := s1
  obtain ⟨m, hns1, hloc⟩ := id I.loc
  obtain ⟨u0, ru0, hlook⟩ := hloc 0 self (.ref o) hN0 (startF_at rfl) (.inl hka)
  obtain rfl : u0 = .ref o := ru0
  have hself : m self = some (.ref o) := by
    rcases hlook with ⟨_, h⟩ | ⟨h, _⟩
    · exact h
    · have hk' : (ncx (CXm P w mg) P w K mg base N F f A outer s H E).env.kindOf self = some .local := hka
      rcases h with h | h <;> (rw [hk'] at h; cases h)
  have X1 : K.In hh := I.kIn
  obtain ⟨oD, hD1, hD2⟩ : ∃ oD, hh.get? D = some oD ∧ oD.data = .cls cdD := by
    unfold PySem.W.clsIn at hD
    split at hD
    · rename_i ho
      cases hD
      exact ⟨_, X1 _ _ ho, rfl⟩
    · cases hD
  obtain ⟨mA, O, _, _, _, _⟩ := ins_get I.hok hx
  obtain ⟨mb, hb1, hb2⟩ := I.mod.blt
  refine PySem.ks_wpAt_super_base (env := envF F f s.heap.objs.size) hks hkc rfl rfl (X1 _ _ lk) rfl hp rfl (X1 _ _ hcode) rfl hvs hfile SF.top ?_
  refine PySem.W.ks_loadName_global Sc.kind hks (Calls.loadGlobal_builtin (I.mod.glob.keeps I.bk) SF.sup (hb1.keeps I.bk) ((hb2 "super" (by decide)).trans (by kernel_rfl)) ⟨rfl, ?_⟩)
  refine wpAny_loadName_free Sc.kind hkc rfl ⟨_, X1 _ _ hcell, rfl⟩ ?_
  rw [har]
  refine wpAny_loadName_local Sc.kind hka hns1 hself ?_
  refine PySem.ks_wpAny_isType_cls hD1 hD2 ⟨rfl, ?_⟩
  refine PySem.ks_wpAny_call_super hD1 hD2 O.obj rfl (fun c e => nomatch e) (PySem.W.looks_mroIn X1 SF.mro) (fun h' e k => ?_)
  have I' : L2.Inv (ncx (CXm P w mg) P w K mg base N F f A outer s H E) [] (startF N (.ref o :: rest) [some (.ref D)]) H ⟨h', gg, dd, tt, oo⟩ := I.kept (t' := tt) k
  have X2 : K.In h' := I'.kIn
  obtain ⟨of, hof, hofc⟩ : ∃ of, h'.get? fb = some of ∧ of.cls = .type "function" := by
    have ht' : (K.lookup fb).map (·.cls) = some (.type "function") := SF.ty
    cases z : K.lookup fb with
    | none => rw [z] at ht'; cases ht'
    | some of => rw [z] at ht'; exact ⟨of, X2 _ _ z, Option.some.inj ht'⟩
  refine PySem.ks_wpAny_getMethod_super (K := K) e (PySem.W.looks_opaque X2 SF.tp) (l₀ := cdD.mro) (fun A Q E s k q => wpAny_bind ((PySem.W.looks_clsIn X2 hD) A _ E s k (wpAny_pure q))) rfl X2 hinit hof hofc hOD rfl ?_
  have J := met_new (g := fb) (C := o) I'
  have hq0 : spI K mg ns L gb = spI K mg ns L gb := rfl
  refine wpAny_mono (Q := EP (ncx (CXm P w mg) P w K mg base N F f A outer s H E) [] (startF N (.ref o :: rest) [some (.ref D)]) (fun _ H' => Q .non H')) (callwith_cm J (base_none I' (Nat.le_refl _)) SF.fi (thn (hpa.run cpos _ _ (startF N (.ref o :: rest) [some (.ref D)]) H (fun vs2 H2 => spI K mg ns L gb (.ref o :: vs2) H2 (fun _ H' => Q .non H') (WE (fxI ns o H Hf E).W (startF N (.ref o :: rest) [some (.ref D)]))) J ?_) fun us2 s3 ⟨vs2, H2, I3, rv, q2⟩ => ⟨⟨pin_at I3, I3.kIn⟩, run_mP (E := WE (fxI ns o H Hf E).W) Fb Ck.gd (Ck.rm.mono hj) (passAt Ck.tk _) I3 rv q2⟩) (hst _) (hpl _)) (fun u s' h => ?_) fun _ _ z => z
  · refine ⟨Hf, ⟨0, 0, 0, [], false⟩, st0, ?_⟩
    have stx : ∀ {Hf1 H1 : Hp}, Ste [] Hf H Hf1 H1 → H1 o = some (.ins D dx []) ∧ Hf1 o = none := fun {Hf1 H1} e => ⟨e.keep _ _ hx (by simp), e.stayNone hf (by rw [hx]; simp)⟩
    show R.wp ys _ _ _
    rw [hg] at q
    cases hys : ys with
    | ok as =>
      rw [hys] at q
      have q1 : match gb as with
        | .ok es => ∀ us Hf' H', Ste [o] Hf H Hf' H' → H' o = some (.ins D dx (ns.zip us)) → ns.length = us.length → IsL K mg Hf' es us → Hf' o = none → Q .non H'
        | .ex e => ∀ cls dd Hf' H', Ste [o] Hf H Hf' H' → ExIs K mg Hf' H' e cls dd → E cls dd H'
        | .stuck => False := q
      intro vs2 Hf1 H1 e1 bg1 l1
      obtain ⟨hx1, hf1⟩ := stx e1
      have hlen1 : L ((V.ref o :: vs2).length) := by
        rw [List.length_cons, ← l1.len]
        refine hL as fun z => ?_
        rw [z] at q1
        exact q1
      refine ⟨hlen1, o, D, dx, vs2, Hf1, as, rfl, e1.top, hf1, hx1, cls, na, l1, ?_⟩
      cases hgb : gb as with
      | ok es =>
        rw [hgb] at q1
        exact fun us Hf' H' e2 => q1 us Hf' H' (e1.wide.trans e2)
      | ex ee =>
        rw [hgb] at q1
        exact fun cls dd Hf' H' e2 xi => q1 cls dd Hf' H' (e1.wide.trans e2) xi
      | stuck => rw [hgb] at q1; exact q1
    | ex ee =>
      rw [hys] at q
      have q1 : ∀ cls dd Hf' H', Ste [o] Hf H Hf' H' → ExIs K mg Hf' H' ee cls dd → E cls dd H' := q
      exact fun cls dd Hf' H' st xi => q1 cls dd Hf' H' st.ste xi
    | stuck =>
      rw [hys] at q
      exact q
  · obtain ⟨v, H', J', rv, q'⟩ := h
    exact wpAt_of_wpAny (wpAny_execs_nil ⟨.non, H', J'.os, J'.bare, J'.base, J'.hok, rfl, q'⟩)
end
end DL
namespace DL
open PySem PySem.Spec PyProof.Rows L2
inductive FT where
  | nm (i : Nat)
  | fl (f : Str)
def stepT (i0 : Nat) (t : FT) (d : D) (G : List Sl) : List Sl := match t with
  | .nm i => G.set i (.im d)
  | .fl f => match G[i0]? with
    | some (.ob ns ds) => G.set i0 (.ob (ns ++ [f]) (ds ++ [d]))
    | _ => G
def setT (i0 : Nat) : List FT → Nat → List D → List Sl → List Sl
  | [], _, _, G => G
  | t :: ts, k, c, G => setT i0 ts (k + 1) c (stepT i0 t (c.getD k .non) G)
def gT (K : PySem.W.Frag) (i0 : Nat) : List FT → TGs
  | [] => gNil
  | .nm i :: ts => gCons (gName i) (gT K i0 ts)
  | .fl f :: ts => gCons (gFld K (tVar i0) f) (gT K i0 ts)
section
variable {X : Cx} {fx : Fx} {i0 : Nat} {self : Str}
inductive TgF (X : Cx) (fx : Fx) (i0 : Nat) (self : Str) : List Expr → List FT → List Str → Prop
  | nil {ns : List Str} : TgF X fx i0 self [] [] ns
  | nm {n : Str} {p : Pos} {es : List Expr} {ts : List FT} {ns : List Str} (i : Nat) (r : TgF X fx i0 self es ts ns) (hi : X.N[i]? = some n := by rfl) (hx : Loc X.env.scope n := by first | exact Or.inl rfl | exact Or.inr rfl) (hf : X.fn n = true ∨ X.env.scope.names.lookup n = some .local := by first | exact .inl rfl | exact .inr rfl) (hne : i ≠ i0 := by decide) : TgF X fx i0 self (.Name n p :: es) (.nm i :: ts) ns
  | fl {np pos' : Pos} {es : List Expr} {ts : List FT} {ns : List Str} {f : Str} (r : TgF X fx i0 self es ts (ns ++ [f])) (hf : f ∉ ns := by decide +kernel) (hm : f ∈ fx.nas := by decide +kernel) (hz : ns.length < 1000 := by decide) : TgF X fx i0 self (.Attribute (.Name self np) f pos' :: es) (.fl f :: ts) ns
theorem tgf_pgs (nd : X.N.Nodup) (hN : X.N[i0]? = some self) (hv : Vis X.env.scope self) (hd : (self == ("__debug__" : Str)) = false) (hcd : (self == ("__classdict__" : Str)) = false) {es : List Expr} {ts : List FT} {ns : List Str} (h : TgF X fx i0 self es ts ns) : PGs X es (gT X.K i0 ts) := by
  induction h with
  | nil => exact pgs_nil
  | nm i r hi hx hf hne ih => exact pgs_cons (pg_name nd hi hx hf) ih
  | fl r hf hm hz ih => exact pgs_cons (pg_fld (pe_var hN hv hd hcd)) ih
theorem gt_read {Hf : Hp} {s : S} {Q : L2.St → Hp → Prop} {es : List Expr} {ts : List FT} {ns : List Str} (h : TgF X fx i0 self es ts ns) : ∀ (k : Nat) (c ds es0 : List D) (vs : List V) {σ : L2.St} {H : Hp} {G : List Sl}, StS X.K X.mg fx Hf H σ G s → G[i0]? = some (.ob ns es0) → IsL X.K X.mg Hf ds vs → c.drop k = ds → ds.length = ts.length →
    (∀ σ' H', StS X.K X.mg fx Hf H' σ' (setT i0 ts k c G) s → Q σ' H') → gT X.K i0 ts vs σ H Q := by
  induction h with
  | nil =>
    intro k c ds es0 vs σ H G st hG l e hl q
    cases ds with
    | nil => cases l; exact ⟨rfl, q σ H st⟩
    | cons d ds => simp at hl
  | nm i r hi hx hf hne ih =>
    intro k c ds es0 vs σ H G st hG l e hl q
    cases ds with
    | nil => simp at hl
    | cons d ds =>
      obtain ⟨v, rr, rfl, iv, l'⟩ := l
      have hk : c.getD k .non = d := by
        have : c[k]? = some d := by
          have := congrArg (fun z => z[0]?) e
          simpa using this
        simp [List.getD, this]
      refine ⟨v, rr, rfl, ?_⟩
      refine ih (k + 1) c ds es0 rr (st.set (i := i) iv) (by rw [List.getElem?_set_ne hne]; exact hG) l' ?_ (by simpa using hl) fun σ' H' st' => q σ' H' ?_
      · have := congrArg (List.drop 1) e
        simpa [List.drop_drop, Nat.add_comm] using this
      · show StS X.K X.mg fx Hf H' σ' (setT i0 _ (k + 1) c (stepT i0 (.nm i) (c.getD k .non) G)) s
        rw [hk]; exact st'
  | @fl np pos' es ts ns f r hf hm hz ih =>
    intro k c ds es0 vs σ H G st hG l e hl q
    cases ds with
    | nil => simp at hl
    | cons d ds =>
      obtain ⟨v, rr, rfl, iv, l'⟩ := l
      have hk : c.getD k .non = d := by
        have : c[k]? = some d := by
          have := congrArg (fun z => z[0]?) e
          simpa using this
        simp [List.getD, this]
      obtain ⟨p, C, dx, us, ep, hp, hf', h0, nb, ⟨cc, na⟩, hll, ll⟩ := st.sl i0 _ hG
      refine ⟨v, rr, rfl, .ref p, ep, p, C, dx, ns.zip us, rfl, hp, cc, na _ hm, ?_, ?_⟩
      · rw [List.length_zip, ← hll, Nat.min_self]; exact hz
      · have st2 : StS X.K X.mg fx Hf (upd H p (.ins C dx (putF f v (ns.zip us)))) σ (G.set i0 (.ob (ns ++ [f]) (es0 ++ [d]))) s := by
          refine st.updAt hG rfl ep rfl ⟨p, C, dx, us ++ [v], rfl, ?_, hf', h0, nb, ⟨cc, na⟩, by simp [hll], ll.app (.cons iv .nil)⟩
          rw [upd_same, putF_new hll hf]
        have hi0 : i0 < G.length := (List.getElem?_eq_some_iff.mp hG).1
        refine ih (k + 1) c ds (es0 ++ [d]) rr st2 (List.getElem?_set_self hi0) l' ?_ (by simpa using hl) fun σ' H' st' => q σ' H' ?_
        · have := congrArg (List.drop 1) e
          simpa [List.drop_drop, Nat.add_comm] using this
        · show StS X.K X.mg fx Hf H' σ' (setT i0 _ (k + 1) c (stepT i0 (.fl f) (c.getD k .non) G)) s
          have : stepT i0 (.fl f) (c.getD k .non) G = G.set i0 (.ob (ns ++ [f]) (es0 ++ [d])) := by
            show (match G[i0]? with | some (.ob ns ds) => _ | _ => G) = _
            rw [hG, hk]
          rw [this]; exact st'
end
section
variable {X : Cx} {fx : Fx} {m : Type → Type} [Mo m] {G : List Sl} {α β : Type} {kk : Nat} {e : Expr} {rest : List Stmt} {ex : α → List Sl} {exb : β → List Sl} {pos : Pos} {x : m D}
theorem dss_unpF {es : List Expr} {kt : Nat} {pt : Pos} {k : List D → m (Fl α β)} {self : Str} {ns : List Str} {es0 : List D} (C : Cok X fx kk) (i0 n : Nat) (ts : List FT) (ht : TgF X fx i0 self es ts ns) (he : PE X e (tE X.K X.mg fx G x)) (hr : ∀ c, PSs X rest (tS X.K X.mg fx (setT i0 ts 0 c G) ex exb (k c)))
    (hG : G[i0]? = some (.ob ns es0) := by rfl) (hn : ts.length = n := by rfl) (hN : X.N[i0]? = some self := by rfl) (hv : Vis X.env.scope self := by first | exact Or.inl rfl | exact Or.inr (Or.inl rfl) | exact Or.inr (Or.inr rfl)) (hd : (self == ("__debug__" : Str)) = false := by decide) (hcd : (self == ("__classdict__" : Str)) = false := by decide)
    (hl : (assignEach es X.env).length = n := by rfl) (hst : (assignEach es X.env).findIdx? (·.1) = none := by rfl)
    (hs : swapsWithSole [.Tuple es kt pt] e pos.line X.env = pure false := by rfl) (hw : swappedStores [.Tuple es kt pt] e X.env = pure none := by rfl) (h1 : (assignEach [.Tuple es kt pt] X.env).map (·.2) = [assign (.Tuple es kt pt) X.env] := by rfl)
    (hgx : GxOk fx G := by first | exact True.intro | repeat' (first | exact True.intro | exact Or.inl rfl | exact Or.inr rfl | refine And.intro ?_ ?_)) :
    PSs X (.Assign [.Tuple es kt pt] e pos :: rest) (tS X.K X.mg fx G ex exb (do let d ← x; let c ← DL.ask (unN n d); k c)) := pssI (pss_cons (ps_asg he (pg_tup C.calm (tgf_pgs C.nd hN hv hd hcd ht) hl hst) hs hw h1) (pss_ex hr)) fun De σ H ⟨Hf, s, h⟩ =>
  ((h.bind hgx).mono fun v H1 ⟨d, Hf1, s1, sb, r, h1⟩ => by
    have w1 := Mo.wp_lift (Mo.wp_bind h1.2)
    cases hu : unN n d with
    | none => rw [hu] at w1; exact w1.elim
    | some c =>
      rw [hu] at w1
      cases d with
      | tup ds =>
        obtain ⟨hz, a, vs, rfl, t, l⟩ := r
        have e' : (if ds.length = n then some ds else none) = some c := hu
        by_cases hd : ds.length = n
        · rw [if_pos hd] at e'
          cases e'
          exact ⟨a, vs, rfl, h1.1.top.sqt t, l.len.symm.trans hd, gt_read ht 0 c c es0 vs h1.1 hG l rfl (hd.trans hn.symm) fun σ' H' st' => ⟨c, Hf1, s1, st', w1⟩⟩
        · rw [if_neg hd] at e'; cases e'
      | _ => cases hu).to
end
section
variable {X : Cx} {fx : Fx} {m : Type → Type} [Mo m] {G : List Sl} {es : List Expr} {pos p : Pos} {ys : m (List D)} {kk j : Nat} {c : Str} {C fI : Addr} {ns : List Str} {g : List D → R (List D)}
theorem de_makeS {L : Nat → Prop} (Ck : Cok X fx kk) (cn : ClsN X.K X.mg c C) (na : ∀ f ∈ ns, NoAttr X.K C f) (M : Mk X.K C fI) (F : FnP X.prog X.w X.K X.mg X.base j fI [] (spIS X.K X.mg C ns L g)) (ha : PA X es (tA X.K X.mg fx G ys)) (hn : ∀ ds : List D, g ds ≠ .stuck → L (ds.length + 1))
    (hj : j + 1 ≤ kk := by decide) (hg : Gl X c := by rfl) (hdb : (c == ("__debug__" : Str)) = false := by decide)
    (he : ArgHd X.env es := by first | exact True.intro | exact rfl)
    (hpl : ((backTo pos (starEach es X.env)).any (·.1) || (backToKw pos (keywordEach [] X.env)).any (·.1.isNone)) = false := by rfl) :
    PE X (.Call (.Name c p) es [] pos) (tE X.K X.mg fx G (do let ds ← ys; let es ← Mo.lift (g ds); pure (.ins c ns es))) := by
  refine ⟨fun pins s σ H Q I ⟨Hf, s0, h⟩ => ?_⟩
  refine wpAny_Call_Name_kw (ld_glob I hg cn.mg ?_ hdb)
  refine args_run (ks := []) (tk := tNil) M.kp ha pk_nil I ?_ he rfl rfl hpl
  refine (h.bind.mono fun vs H1 ⟨ds, Hf1, s1, sb, r, h1⟩ => ?_).to
  refine ⟨rfl, fun s2 us ws I2 hw rv => ?_⟩
  rw [List.append_nil] at rv
  have hlen : L (ds.length + 1) := hn ds fun z => by
    have w := Mo.wp_lift (Mo.wp_bind h1.2)
    rw [z] at w
    exact w
  exact run_makeP (E := WE fx.W) M F Ck.gd (Ck.rm.mono hj) (passAt Ck.tk σ) I2 hw rv fun x dx hx hdx hne => ⟨make_core cn na hlen r h1 hx hdx hne, x, vs, dx, rfl, upd_same⟩
end
end DL
namespace DL
open PySem PySem.Spec PyProof.Rows PySem.Calls L2 RZ
section
variable {prog : Program} {w : World} {A : Around} {E : Value → Shared → Prop} {s : Shared}
structure ZpSt (h : Heap) (z TI TO i1 i2 l1 l2 S : Addr) (xs ys : Array Value) (k : Nat) : Prop where
  ti : IsPair h TI (.ref i1) (.ref i2)
  a1 : h.IsTupleIter i1 l1 k
  a2 : h.IsTupleIter i2 l2 k
  b1 : h.IsTuple l1 xs
  b2 : h.IsTuple l2 ys
  st : (IsZip h z TI TO .none ∧ IsPair h TO .none .none) ∨ ∃ T f oT, IsZipHeld h z TI TO T f ∧ h.get? T = some oT ∧ T ≠ z ∧ T ≠ i1 ∧ T ≠ i2 ∧ T ≠ S
structure ZpOff (z TI TO i1 i2 l1 l2 S : Addr) : Prop where
  z : z ≠ S
  TI : TI ≠ S
  TO : TO ≠ S
  i1 : i1 ≠ S
  i2 : i2 ≠ S
  l1 : l1 ≠ S
  l2 : l2 ≠ S
theorem ZpSt.keep {h h' : Heap} {z TI TO i1 i2 l1 l2 S : Addr} {xs ys : Array Value} {k : Nat} (o : ZpOff z TI TO i1 i2 l1 l2 S) (a : ZpSt h z TI TO i1 i2 l1 l2 S xs ys k) (hk : ∀ b o, b ≠ S → h.get? b = some o → h'.get? b = some o) : ZpSt h' z TI TO i1 i2 l1 l2 S xs ys k :=
  ⟨hk _ _ o.TI a.ti, a.a1.at fun u e => hk _ u o.i1 e, a.a2.at fun u e => hk _ u o.i2 e, a.b1.at fun u e => hk _ u o.l1 e, a.b2.at fun u e => hk _ u o.l2 e, by
    rcases a.st with ⟨h1, h2⟩ | ⟨T, f, oT, h1, h2, n1, n2, n3, n4⟩
    · exact .inl ⟨hk _ _ o.z h1, hk _ _ o.TO h2⟩
    · exact .inr ⟨T, f, oT, hk _ _ o.z h1, hk _ _ n4 h2, n1, n2, n3, n4⟩⟩
end
def zipLD : List D → Option D
  | [.tup xs, .tup ys] => some (.lst (zipL xs ys))
  | _ => none
end DL
namespace DL
open PySem PySem.Spec PyProof.Rows L2
section
variable {X : Cx} {fx : Fx} {m : Type → Type} [Mo m] {G : List Sl} {o e : Expr} {pos apos : Pos} {x y : m D}
theorem de_count (ho : PE X o (tE X.K X.mg fx G x)) (he : PE X e (tE X.K X.mg fx G y)) (hs : starEach [e] X.env = [(false, eval e X.env)] := by rfl) (hbase : attributeBase o "count" X.env (eval o X.env) = eval o X.env := by rfl) (hline : (apos.endLine == pos.line) = true := by rfl) :
    PE X (.Call (.Attribute o "count" apos) [e] [] pos) (tE X.K X.mg fx G (do let u ← x; let _ ← DL.ask (strOf u); let v ← y; DL.ask (strM (fun a b => .int (Txt.count ⟨a.toArray⟩ ⟨b.toArray⟩)) u v))) :=
  peI (pe_m1 PySem.F.slot_str_count PySem.F.type_str_count mt_count ho he hs hbase hline) fun σ H Q ⟨Hf, s, h⟩ =>
  (h.bind.mono fun v1 H1 ⟨d1, Hf1, s1, sb1, r1, h1⟩ => by
    have k := Mo.wp_lift (Mo.wp_bind h1.2)
    cases d1 with
    | str S =>
      obtain ⟨rfl, hz1⟩ := r1
      refine ⟨⟨_, rfl⟩, ?_⟩
      have h2 : tX X.K X.mg fx G (fun H d v => Is X.K X.mg H d v) (do let v ← y; DL.ask (strM (fun a b => .int (Txt.count ⟨a.toArray⟩ ⟨b.toArray⟩)) (.str S) v) : m D) Hf1 s1 σ H1 Q := ⟨h1.1, k⟩
      refine (h2.bind.mono fun v2 H2 ⟨d2, Hf2, s2, sb2, r2, h3⟩ => ?_).to
      obtain ⟨d, e, q⟩ := h3.ask
      cases d2 with
      | str T =>
        cases e
        obtain ⟨rfl, _⟩ := r2
        exact ⟨_, _, rfl, rfl, q _ Hf2 H2 (.refl h3.1.top) (is_int _)⟩
      | _ => cases e
    | _ => exact k.elim).to
end
section
variable {P : Program} {K : PySem.W.Frag} {mg : Str → Option Value}
theorem supFun_mk {x qual : Str} {st : Stmt} {f fb D cda cc : Addr} {oc : Value} {od an : Option Addr} {osl : Array (Option Value)} {kV doc pm ct : Value} {ccl : Value} {cdd : Option Addr} {vs : Array Value} {ccs : Array (Option Value)} {file : Str} {tf : Tok} {cl : Value} {cld : Option Addr} {csl : Array (Option Value)} {ob : Value} {db : Option Addr} {fdb : FuncData} {sb : Array (Option Value)}
    (l : K.lookup f = some ⟨oc, od, .func (PySem.W.fnX x qual (defArgs st) (defBody st) (defScope st) [("__class__", cc)] .none kV doc pm an (.ref cda) ct), osl⟩) (c : PySem.W.codeIn K (.ref cda) qual = true) (lc : K.lookup cda = some ⟨ccl, cdd, .fields vs, ccs⟩) (hv : vs[2]? = some (.str file tf)) (hf : ((P.main.file : Str) == file) = true)
    (hcc : K.lookup cc = some ⟨cl, cld, .cell (some (.ref D)), csl⟩) (hcls : PySem.W.isClsIn K D = true) (mro : PySem.W.mroIn K D (.ref D) = some true) (sup : mg "super" = none) (top : (P.main.scope.names.lookup ("super" : Str)).isSome = false) (init : PySem.W.ks_superIn K D D "__init__" = some (some (.ref fb))) (ty : PySem.W.typeIn K (.ref fb) = some (.type "function"))
    (lb : K.lookup fb = some ⟨ob, db, .func fdb, sb⟩) (tp : PySem.W.nsIn K cStatics "thirdparty.any" = some none) :
    SupFun P K mg x qual st f fb D (PySem.W.fnX x qual (defArgs st) (defBody st) (defScope st) [("__class__", cc)] .none kV doc pm an (.ref cda) ct) :=
  ⟨⟨oc, od, kV, doc, pm, an, cda, cc, ct, osl, ccl, cdd, vs, ccs, file, tf, cl, cld, csl, rfl, l, c, lc, hv, hf, hcc⟩, Option.isSome_iff_exists.mp hcls, mro, sup, top, init, ty, by unfold PySem.W.fnIn; rw [lb], tp⟩
end
end DL
namespace DL
open PySem PySem.Spec PyProof.Rows L2
section
variable {X : Cx} {fx : Fx} {m : Type → Type} [Mo m] {G : List Sl} {o e : Expr} {pos apos : Pos} {x y : m D}
def lstripD : D → D → Option D
  | .str a, .str b => if (Txt.lstripChars ⟨a.toArray⟩ ⟨b.toArray⟩).cps.toList.length ≤ sizeLine then some (.str (Txt.lstripChars ⟨a.toArray⟩ ⟨b.toArray⟩).cps.toList) else none
  | _, _ => none
end
end DL
namespace DL
open PySem PySem.Spec PyProof.Rows L2
def indexLD (a b : D) : Option D := match a, b with
  | .lst ds, .str z => match strsOf ds with
    | some ps => if z ∈ ps then some (.int ((ps.idxOf z : Nat) : Int)) else none
    | none => none
  | _, _ => none
end DL
namespace FN
open DL
def c_ALL_PORTS : D := (.tup [(.int (1)), (.int (65535))])
def c_GAP : D := (.str [42, 42])
def c_HOST : D := (.str [104, 111, 115, 116])
def c_HOST_LIMITS : D := (.tup [(.int (1)), (.int (4)), (.int (3)), (.int (2))])
def c_LONGEST_TEXT : D := (.int (8))
def c_PATH : D := (.str [112, 97, 116, 104])
def c_PATH_LIMITS : D := (.tup [(.int (0)), (.int (3)), (.int (2)), (.int (2))])
def b_is_label_text_206f (a0 : D) : R (Fl Unit Empty) := (do let t22 ← (DL.orM (DL.notM (do let x2 ← (do let x1 ← (pure a0); DL.ask (isiD "str" x1)); DL.ask (truD x2))) (DL.orM (DL.notM (do let x6 ← (chainM leD leD (pure (.int 1)) (do let r5 ← (do let x3 ← (pure a0); let r4 ← pure []; pure (x3 :: r4)); DL.ask (lenD r5)) (pure c_LONGEST_TEXT)); DL.ask (bOf x6))) (do let x9 ← (do let x7 ← (pure a0); let _ ← DL.ask (strOf x7); let y8 ← (pure (.str [42])); DL.ask (strM (fun a b => .int (PySem.Txt.count ⟨a.toArray⟩ ⟨b.toArray⟩)) x7 y8)); let y10 ← (pure (.int 1)); DL.ask ((gtD x9 y10).bind bOf)))); seqF (if t22 = true then (do let v12 ← (pure (.bl false)); pure (.rt v12)) else (pure (.nx ()))) fun (q11 : Unit) => (do let v21 ← (notV (mkL (do let r20 ← (do let r13 ← (pure a0); DL.ask (itD r13)); lcF (fun d => some d) (fun (c15 : D) => (DL.andM (do let x16 ← (pure c15); let y17 ← (pure (.str [42])); DL.ask ((neD x16 y17).bind bOf)) (do let x18 ← (pure c15); let y19 ← (pure c_CHARACTERS); DL.ask ((notInD x18 y19).bind bOf)))) (fun (c15 : D) => (pure c15)) r20))); pure (.rt v21)))
theorem e_is_label_text_206f (a0 : D) : b_is_label_text_206f a0 = (do let t22 ← (DL.orM (DL.notM (do let x2 ← (DL.ask (isiD "str" a0)); DL.ask (truD x2))) (DL.orM (DL.notM (do let x6 ← (chainM leD leD (pure (.int 1)) (DL.ask (lenD [a0])) (pure c_LONGEST_TEXT)); DL.ask (bOf x6))) (do let _ ← DL.ask (strOf a0); let x9 ← (DL.ask (strM (fun a b => .int (PySem.Txt.count ⟨a.toArray⟩ ⟨b.toArray⟩)) a0 (.str [42]))); DL.ask ((gtD x9 (.int 1)).bind bOf)))); seqF (if t22 = true then (pure (.rt (.bl false))) else (pure (.nx ()))) fun (q11 : Unit) => (do let v21 ← (notV (mkL (do let r20 ← (DL.ask (itD a0)); lcF (fun d => some d) (fun (c15 : D) => (DL.andM (DL.ask ((neD c15 (.str [42])).bind bOf)) (DL.ask ((notInD c15 c_CHARACTERS).bind bOf)))) (fun (c15 : D) => (pure c15)) r20))); pure (.rt v21))) := by
  unfold b_is_label_text_206f; simp only [pure_bind, bind_assoc, mkL]
def m_is_label_text_206f : List D → R D := apR1 fun a0 => (runR false (b_is_label_text_206f a0))
theorem n_is_label_text_206f : ∀ ds : List D, m_is_label_text_206f ds ≠ .stuck → ds.length = 1 := apR1_len _
def b_Pattern_init_4a0d (a1 a2 a3 : D) : R (Fl (List D) Empty) := (do let t9 ← (do let x1 ← (pure a3); let y2 ← (pure .non); DL.ask ((isD x1 y2).bind bOf)); seqF (if t9 = true then (do let v4 ← (pure a1); raiseX "BadPattern" "pattern" v4) else (pure (.nx ()))) fun (q3 : Unit) => (do let v5 ← (pure a1); (do let v6 ← (pure a2); (do let v7 ← (pure a3); let c8 ← DL.ask (unN 3 v7); (pure (.nx [v5, v6, (c8.getD 0 .non), (c8.getD 1 .non), (c8.getD 2 .non)]))))))
def m_Pattern_init_4a0d : List D → R (List D) := apI3 fun a1 a2 a3 => runI (b_Pattern_init_4a0d a1 a2 a3)
theorem n_Pattern_init_4a0d : ∀ ds : List D, m_Pattern_init_4a0d ds ≠ .stuck → ds.length = 3 := apI3_len _
def b_shape_of_items_2081 (a0 a1 : D) : R (Fl Unit Empty) := (do let v1 ← (pure a1); let c2 ← DL.ask ((unN 4) v1); (do let v3 ← mkL (do let r11 ← (do let r6 ← (do let x4 ← (pure a0); let r5 ← pure []; pure (x4 :: r5)); DL.ask (enumOf r6)); lcF un2 (fun (c8 : D × D) => (do let x9 ← (pure c8.2); let y10 ← (pure c_GAP); DL.ask ((eqD x9 y10).bind bOf))) (fun (c8 : D × D) => (pure c8.1)) r11); (do let t94 ← (DL.orM (do let x15 ← (do let r14 ← (do let x12 ← (pure v3); let r13 ← pure []; pure (x12 :: r13)); DL.ask (lenD r14)); let y16 ← (pure (.int 1)); DL.ask ((gtD x15 y16).bind bOf)) (do let x27 ← (mkL (do let r26 ← (do let r17 ← (pure a0); DL.ask (itD r17)); lcF (fun d => some d) (fun (c19 : D) => (DL.andM (do let x20 ← (pure c19); let y21 ← (pure c_GAP); DL.ask ((neD x20 y21).bind bOf)) (DL.notM (do let x25 ← (do let r24 ← (do let x22 ← (pure c19); let r23 ← pure []; pure (x22 :: r23)); Mo.lift (m_is_label_text_206f r24)); DL.ask (truD x25))))) (fun (c19 : D) => (pure c19)) r26)); DL.ask (truD x27))); seqF (if t94 = true then (do let v29 ← (pure .non); pure (.rt v29)) else (pure (.nx ()))) fun (q28 : Unit) => (do let t93 ← (DL.notM (do let x30 ← (pure v3); DL.ask (truD x30))); seqF (if t93 = true then (do let v49 ← (iteM (do let x35 ← (chainM leD leD (pure (c2.getD 0 .non)) (do let r34 ← (do let x32 ← (pure a0); let r33 ← pure []; pure (x32 :: r33)); DL.ask (lenD r34)) (pure (c2.getD 1 .non))); DL.ask (bOf x35)) (do let r47 ← (do let x45 ← (do let r38 ← (do let x36 ← (pure a0); let r37 ← pure []; pure (x36 :: r37)); DL.ask (tupleD r38)); let r46 ← (do let x43 ← (do let r39 ← pure []; let r40 ← DL.ask (szL r39); pure (.tup r40)); let r44 ← (do let x41 ← (pure (.bl false)); let r42 ← pure []; pure (x41 :: r42)); pure (x43 :: r44)); pure (x45 :: r46)); let r48 ← DL.ask (szL r47); pure (.tup r48)) (pure .non)); pure (.rt v49)) else (pure (.nx ()))) fun (q31 : Unit) => (do let v50 ← (do let r61 ← (do let x59 ← (do let x56 ← (pure a0); let l57 ← (pure none); let u58 ← (do let x54 ← (do let x52 ← (pure v3); let y53 ← (pure (.int 0)); DL.ask (ixD x52 y53)); let i55 ← DL.ask (intOf x54); pure (some i55)); DL.ask (sliceD x56 l57 u58)); let r60 ← pure []; pure (x59 :: r60)); DL.ask (tupleD r61)); let v51 ← (do let r73 ← (do let x71 ← (do let x68 ← (pure a0); let l69 ← (do let x66 ← (do let x64 ← (do let x62 ← (pure v3); let y63 ← (pure (.int 0)); DL.ask (ixD x62 y63)); let y65 ← (pure (.int 1)); DL.ask (addD x64 y65)); let i67 ← DL.ask (intOf x66); pure (some i67)); let u70 ← (pure none); DL.ask (sliceD x68 l69 u70)); let r72 ← pure []; pure (x71 :: r72)); DL.ask (tupleD r73)); (do let v92 ← (iteM (DL.andM (do let x77 ← (do let r76 ← (do let x74 ← (pure v50); let r75 ← pure []; pure (x74 :: r75)); DL.ask (lenD r76)); let y78 ← (pure (c2.getD 2 .non)); DL.ask ((leD x77 y78).bind bOf)) (do let x82 ← (do let r81 ← (do let x79 ← (pure v51); let r80 ← pure []; pure (x79 :: r80)); DL.ask (lenD r81)); let y83 ← (pure (c2.getD 3 .non)); DL.ask ((leD x82 y83).bind bOf))) (do let r90 ← (do let x88 ← (pure v50); let r89 ← (do let x86 ← (pure v51); let r87 ← (do let x84 ← (pure (.bl true)); let r85 ← pure []; pure (x84 :: r85)); pure (x86 :: r87)); pure (x88 :: r89)); let r91 ← DL.ask (szL r90); pure (.tup r91)) (pure .non)); pure (.rt v92)))))))
theorem e_shape_of_items_2081 (a0 a1 : D) : b_shape_of_items_2081 a0 a1 = (do let c2 ← DL.ask ((unN 4) a1); let r11 ← (DL.ask (enumOf [a0])); let v3 ← (lcF un2 (fun (c8 : D × D) => (DL.ask ((eqD c8.2 c_GAP).bind bOf))) (fun (c8 : D × D) => (pure c8.1)) r11); let t94 ← (DL.orM (do let x15 ← (DL.ask (lenD [(.lst v3)])); DL.ask ((gtD x15 (.int 1)).bind bOf)) (do let r26 ← (DL.ask (itD a0)); let x27 ← (lcF (fun d => some d) (fun (c19 : D) => (DL.andM (DL.ask ((neD c19 c_GAP).bind bOf)) (DL.notM (do let x25 ← (Mo.lift (m_is_label_text_206f [c19])); DL.ask (truD x25))))) (fun (c19 : D) => (pure c19)) r26); DL.ask (truD (.lst x27)))); seqF (if t94 = true then (pure (.rt .non)) else (pure (.nx ()))) fun (q28 : Unit) => (do let t93 ← (DL.notM (DL.ask (truD (.lst v3)))); seqF (if t93 = true then (do let v49 ← (iteM (do let x35 ← (chainM leD leD (pure (c2.getD 0 .non)) (DL.ask (lenD [a0])) (pure (c2.getD 1 .non))); DL.ask (bOf x35)) (do let x45 ← (DL.ask (tupleD [a0])); let r40 ← DL.ask (szL []); let r48 ← DL.ask (szL [x45, (.tup r40), (.bl false)]); pure (.tup r48)) (pure .non)); pure (.rt v49)) else (pure (.nx ()))) fun (q31 : Unit) => (do let x54 ← (DL.ask (ixD (.lst v3) (.int 0))); let i55 ← DL.ask (intOf x54); let x59 ← (DL.ask (sliceD a0 none (some i55))); let v50 ← (DL.ask (tupleD [x59])); let x64 ← (DL.ask (ixD (.lst v3) (.int 0))); let x66 ← (DL.ask (addD x64 (.int 1))); let i67 ← DL.ask (intOf x66); let x71 ← (DL.ask (sliceD a0 (some i67) none)); let v51 ← (DL.ask (tupleD [x71])); let v92 ← (iteM (DL.andM (do let x77 ← (DL.ask (lenD [v50])); DL.ask ((leD x77 (c2.getD 2 .non)).bind bOf)) (do let x82 ← (DL.ask (lenD [v51])); DL.ask ((leD x82 (c2.getD 3 .non)).bind bOf))) (do let r91 ← DL.ask (szL [v50, v51, (.bl true)]); pure (.tup r91)) (pure .non)); pure (.rt v92)))) := by
  unfold b_shape_of_items_2081; simp only [pure_bind, bind_assoc, mkL]
def m_shape_of_items_2081 : List D → R D := apR2 fun a0 a1 => (runR false (b_shape_of_items_2081 a0 a1))
theorem n_shape_of_items_2081 : ∀ ds : List D, m_shape_of_items_2081 ds ≠ .stuck → ds.length = 2 := apR2_len _
def b_ports_of_0eba (a0 : D) : R (Fl Unit Empty) := (do let t40 ← (do let x1 ← (pure a0); let y2 ← (pure (.str [42])); DL.ask ((eqD x1 y2).bind bOf)); seqF (if t40 = true then (do let v4 ← (pure c_ALL_PORTS); pure (.rt v4)) else (pure (.nx ()))) fun (q3 : Unit) => (do let v5 ← (do let x7 ← (pure a0); let _ ← DL.ask (strOf x7); let y8 ← (pure (.str [45])); DL.ask (partD x7 y8)); let c6 ← DL.ask (un3 v5); (do let v9 ← (do let r12 ← (do let x10 ← (pure c6.1); let r11 ← pure []; pure (x10 :: r11)); Mo.lift (m_port_of_e04e r12)); (do let v13 ← (iteM (do let x14 ← (pure c6.2.1); let y15 ← (pure (.str [])); DL.ask ((eqD x14 y15).bind bOf)) (pure v9) (do let r18 ← (do let x16 ← (pure c6.2.2); let r17 ← pure []; pure (x16 :: r17)); Mo.lift (m_port_of_e04e r18))); (do let t39 ← (DL.orM (do let x19 ← (pure v9); let y20 ← (pure .non); DL.ask ((isD x19 y20).bind bOf)) (do let x21 ← (pure v13); let y22 ← (pure .non); DL.ask ((isD x21 y22).bind bOf))); seqF (if t39 = true then (do let v24 ← (pure .non); pure (.rt v24)) else (pure (.nx ()))) fun (q23 : Unit) => (do let t38 ← (DL.andM (do let x25 ← (pure c6.2.1); let y26 ← (pure (.str [45])); DL.ask ((eqD x25 y26).bind bOf)) (do let x27 ← (pure v9); let y28 ← (pure v13); DL.ask ((geD x27 y28).bind bOf))); seqF (if t38 = true then (do let v30 ← (pure .non); pure (.rt v30)) else (pure (.nx ()))) fun (q29 : Unit) => (do let v37 ← (do let r35 ← (do let x33 ← (pure v9); let r34 ← (do let x31 ← (pure v13); let r32 ← pure []; pure (x31 :: r32)); pure (x33 :: r34)); let r36 ← DL.ask (szL r35); pure (.tup r36)); pure (.rt v37))))))))
def m_ports_of_0eba : List D → R D := apR1 fun a0 => (runR false (b_ports_of_0eba a0))
def b_host_shape_b82b (a0 : D) : R (Fl Unit Empty) := (do let t14 ← (DL.notM (do let x2 ← (do let x1 ← (pure a0); DL.ask (isiD "str" x1)); DL.ask (truD x2))); seqF (if t14 = true then (do let v4 ← (pure .non); pure (.rt v4)) else (pure (.nx ()))) fun (q3 : Unit) => (do let v13 ← (do let r12 ← (do let x10 ← (do let x7 ← (mkL (do let x5 ← (pure a0); let _ ← DL.ask (strOf x5); let y6 ← (pure (.str [46])); DL.ask (splitD x5 y6))); DL.ask (revD x7)); let r11 ← (do let x8 ← (pure c_HOST_LIMITS); let r9 ← pure []; pure (x8 :: r9)); pure (x10 :: r11)); Mo.lift (m_shape_of_items_2081 r12)); pure (.rt v13)))
theorem e_host_shape_b82b (a0 : D) : b_host_shape_b82b a0 = (do let t14 ← (DL.notM (do let x2 ← (DL.ask (isiD "str" a0)); DL.ask (truD x2))); seqF (if t14 = true then (pure (.rt .non)) else (pure (.nx ()))) fun (q3 : Unit) => (do let _ ← DL.ask (strOf a0); let x7 ← (DL.ask (splitD a0 (.str [46]))); let x10 ← (DL.ask (revD (.lst x7))); let v13 ← (Mo.lift (m_shape_of_items_2081 [x10, c_HOST_LIMITS])); pure (.rt v13))) := by
  unfold b_host_shape_b82b; simp only [pure_bind, bind_assoc, mkL]
def m_host_shape_b82b : List D → R D := apR1 fun a0 => (runR false (b_host_shape_b82b a0))
theorem n_host_shape_b82b : ∀ ds : List D, m_host_shape_b82b ds ≠ .stuck → ds.length = 1 := apR1_len _
def b_path_shape_25b3 (a0 : D) : R (Fl Unit Empty) := (do let t24 ← (DL.orM (DL.notM (do let x2 ← (do let x1 ← (pure a0); DL.ask (isiD "str" x1)); DL.ask (truD x2))) (DL.notM (do let x5 ← (do let x3 ← (pure a0); let _ ← DL.ask (strOf x3); let y4 ← (pure (.str [47])); DL.ask (strM (fun a b => .bl (PySem.Txt.startswith ⟨a.toArray⟩ ⟨b.toArray⟩)) x3 y4)); DL.ask (truD x5)))); seqF (if t24 = true then (do let v7 ← (pure .non); pure (.rt v7)) else (pure (.nx ()))) fun (q6 : Unit) => (do let v23 ← (do let r22 ← (do let x20 ← (iteM (do let x8 ← (pure a0); let y9 ← (pure (.str [47])); DL.ask ((neD x8 y9).bind bOf)) (mkL (do let x15 ← (do let x12 ← (pure a0); let l13 ← (do let x10 ← (pure (.int 1)); let i11 ← DL.ask (intOf x10); pure (some i11)); let u14 ← (pure none); DL.ask (sliceD x12 l13 u14)); let _ ← DL.ask (strOf x15); let y16 ← (pure (.str [47])); DL.ask (splitD x15 y16))) (mkL (do let r17 ← pure []; DL.ask (szL r17)))); let r21 ← (do let x18 ← (pure c_PATH_LIMITS); let r19 ← pure []; pure (x18 :: r19)); pure (x20 :: r21)); Mo.lift (m_shape_of_items_2081 r22)); pure (.rt v23)))
theorem e_path_shape_25b3 (a0 : D) : b_path_shape_25b3 a0 = (do let t24 ← (DL.orM (DL.notM (do let x2 ← (DL.ask (isiD "str" a0)); DL.ask (truD x2))) (DL.notM (do let _ ← DL.ask (strOf a0); let x5 ← (DL.ask (strM (fun a b => .bl (PySem.Txt.startswith ⟨a.toArray⟩ ⟨b.toArray⟩)) a0 (.str [47]))); DL.ask (truD x5)))); seqF (if t24 = true then (pure (.rt .non)) else (pure (.nx ()))) fun (q6 : Unit) => (do let x20 ← (iteM (DL.ask ((neD a0 (.str [47])).bind bOf)) (mkL (do let i11 ← DL.ask (intOf (.int 1)); let x15 ← (DL.ask (sliceD a0 (some i11) none)); let _ ← DL.ask (strOf x15); DL.ask (splitD x15 (.str [47])))) (mkL (DL.ask (szL [])))); let v23 ← (Mo.lift (m_shape_of_items_2081 [x20, c_PATH_LIMITS])); pure (.rt v23))) := by
  unfold b_path_shape_25b3; simp only [pure_bind, bind_assoc, mkL]
def m_path_shape_25b3 : List D → R D := apR1 fun a0 => (runR false (b_path_shape_25b3 a0))
theorem n_path_shape_25b3 : ∀ ds : List D, m_path_shape_25b3 ds ≠ .stuck → ds.length = 1 := apR1_len _
def m_HostPattern_init_23dd : List D → R (List D) := apI1 fun a1 => (do let z10 ← (do let x8 ← (pure a1); let r9 ← (do let x6 ← (pure c_HOST); let r7 ← (do let x4 ← (do let r3 ← (do let x1 ← (pure a1); let r2 ← pure []; pure (x1 :: r2)); Mo.lift (m_host_shape_b82b r3)); let r5 ← pure []; pure (x4 :: r5)); pure (x6 :: r7)); pure (x8 :: r9)); m_Pattern_init_4a0d z10)
theorem n_HostPattern_init_23dd : ∀ ds : List D, m_HostPattern_init_23dd ds ≠ .stuck → ds.length = 1 := apI1_len _
def m_PathPattern_init_28de : List D → R (List D) := apI1 fun a1 => (do let z10 ← (do let x8 ← (pure a1); let r9 ← (do let x6 ← (pure c_PATH); let r7 ← (do let x4 ← (do let r3 ← (do let x1 ← (pure a1); let r2 ← pure []; pure (x1 :: r2)); Mo.lift (m_path_shape_25b3 r3)); let r5 ← pure []; pure (x4 :: r5)); pure (x6 :: r7)); pure (x8 :: r9)); m_Pattern_init_4a0d z10)
theorem n_PathPattern_init_28de : ∀ ds : List D, m_PathPattern_init_28de ds ≠ .stuck → ds.length = 1 := apI1_len _
end FN
namespace FN
open DL PySem PySem.W
theorem parts_len (x : Str) (w : Nat) : ∀ (cuts : List Nat) (a : Nat), (StrLaws.partsFrom x w a cuts).length = cuts.length + 1
  | [], a => rfl
  | c :: r, a => by
    show (StrLaws.partsFrom x w (c + w) r).length + 1 = _
    rw [parts_len x w r]
    rfl
theorem spl_count {c : Nat} : ∀ (z acc : List Nat), (TL.spl [c] 0 acc z).length = z.count c + 1
  | [], acc => by rw [TL.spl_nil]; rfl
  | x :: r, acc => by
    by_cases h : x = c
    · subst h
      have hp : TL.pre [x] (x :: r) = true := by simp [TL.pre]
      rw [TL.spl_hit hp]
      show (TL.spl [x] 0 [] r).length + 1 = _
      rw [spl_count r, List.count_cons_self]
    · have hp : TL.pre [c] (x :: r) = false := TL.pre_of_head [] r h
      rw [TL.spl_miss hp, spl_count r, List.count_cons_of_ne h]
theorem count_one (a : List Nat) (c : Nat) : Txt.count ⟨a.toArray⟩ ⟨[c].toArray⟩ = (a.count c : Int) := by
  have hy : TL.tl (⟨[c].toArray⟩ : Str) ≠ [] := by simp [TL.tl]
  obtain ⟨f, g, hn⟩ := StrLaws.occ_tight ⟨a.toArray⟩ ⟨[c].toArray⟩ (TL.len1 hy)
  have key := congrArg List.length (TL.parts_spl hy _ 0 f (Nat.zero_le _) g hn)
  rw [List.length_map, parts_len, List.drop_zero] at key
  have e : TL.tl (⟨[c].toArray⟩ : Str) = [c] := rfl
  have e2 : TL.tl (⟨a.toArray⟩ : Str) = a := by simp [TL.tl]
  rw [e, e2, spl_count] at key
  unfold Txt.count
  omega
def isIt (z : List Nat) : Bool := decide (1 ≤ z.length) && decide (z.length ≤ 8) && decide (z.count 42 ≤ 1) && z.all fun c => decide (c = 42) || decide (c ∈ CH)
theorem item_ok (z : List Nat) : m_is_label_text_206f [.str z] = .ok (.bl (isIt z)) := by
  have is1 : isiD "str" (.str z) = some (.bl true) := rfl
  have hl : lenD [.str z] = some (.int z.length) := rfl
  have hc : strM (fun a b => .int (PySem.Txt.count ⟨a.toArray⟩ ⟨b.toArray⟩)) (.str z) (.str [42]) = some (.int (z.count 42 : Int)) := by
    show some (D.int (PySem.Txt.count ⟨z.toArray⟩ ⟨[42].toArray⟩)) = _
    rw [count_one]
  have hcm : (chainM leD leD (pure (.int 1)) (DL.ask (lenD [.str z])) (pure c_LONGEST_TEXT) : R D) = .ok (.bl (decide (1 ≤ (z.length : Int)) && decide ((z.length : Int) ≤ 8))) := by
    rw [hl]
    unfold chainM
    simp only [le_l, askR, pure_bind, Option.bind_some, bOf_bl, c_LONGEST_TEXT]
    cases decide (1 ≤ (z.length : Int)) <;> rfl
  have gt : (gtD (.int (z.count 42 : Int)) (.int 1)).bind bOf = some (decide ((1 : Int) < (z.count 42 : Int))) := rfl
  have ewalk : (lcF (fun d => some d) (fun (c15 : D) => (DL.andM (DL.ask ((neD c15 (.str [42])).bind bOf)) (DL.ask ((notInD c15 c_CHARACTERS).bind bOf)))) (fun (c15 : D) => (pure c15)) (chrs z) : R (List D)) = .ok ((chrs z).filter fun d => !(decide (sgn d = 42) || decide (sgn d ∈ CH))) := by
    refine (lcR (u := fun d => some d) (xe := fun c15 : D => (pure c15 : R D)) (c := fun d => d) (p := fun d => !(decide (sgn d = 42) || decide (sgn d ∈ CH))) (f := fun d => d) (chrs z) (fun _ _ => rfl) (fun d m => ?_) (fun _ _ _ => rfl)).trans ?_
    rotate_left
    · rw [List.map_id']
    · obtain ⟨c, _, rfl⟩ := chrs_mem m
      have e1 : (neD (.str [c]) (.str [42])).bind bOf = some (!decide ([c] = [42])) := by rw [ne_ss]; rfl
      have e2 : (notInD (.str [c]) c_CHARACTERS).bind bOf = some (!decide (c ∈ CH)) := notin_sign
      have e3 : decide ([c] = [42]) = decide (c = 42) := by simp
      have e4 : sgn (.str [c]) = c := rfl
      simp only [DL.andM, e1, e2, e3, e4, askR, pure_bind]
      cases decide (c = 42) <;> rfl
  unfold m_is_label_text_206f apR1
  simp only [e_is_label_text_206f, is1, DL.notM, DL.orM, askR, pure_bind, tru_bl, Bool.not_true, Bool.false_eq_true, if_false, hcm, okpR, bOf_bl, str_of, hc, gt, it_str, ewalk]
  unfold isIt
  by_cases h1 : 1 ≤ z.length
  · by_cases h2 : z.length ≤ 8
    · by_cases h3 : z.count 42 ≤ 1
      · have e1 : decide ((1 : Int) ≤ (z.length : Int)) = true := decide_eq_true (by omega)
        have e2 : decide ((z.length : Int) ≤ 8) = true := decide_eq_true (by omega)
        have e3 : decide ((1 : Int) < (z.count 42 : Int)) = false := decide_eq_false (by omega)
        simp only [e1, e2, e3, Bool.and_self, Bool.not_true, Bool.false_eq_true, if_false, decide_eq_true h1, decide_eq_true h2, decide_eq_true h3, Bool.true_and]
        rw [filter_chrs (fun c => !(decide (c = 42) || decide (c ∈ CH)))]
        have ef := filter_none (z := z) (p := fun c => decide (c = 42) || decide (c ∈ CH))
        show R.ok (D.bl (!(!(chrs (List.filter (fun c => !(decide (c = 42) || decide (c ∈ CH))) z)).isEmpty))) = _
        rw [chrs_empty, ef, Bool.not_not]
        rfl
      · have e1 : decide ((1 : Int) ≤ (z.length : Int)) = true := decide_eq_true (by omega)
        have e2 : decide ((z.length : Int) ≤ 8) = true := decide_eq_true (by omega)
        have e3 : decide ((1 : Int) < (z.count 42 : Int)) = true := decide_eq_true (by omega)
        simp only [e1, e2, e3, Bool.and_self, Bool.not_true, Bool.false_eq_true, if_false, if_true, decide_eq_false h3, Bool.and_false, Bool.false_and]
        rfl
    · have e1 : decide ((1 : Int) ≤ (z.length : Int)) = true := decide_eq_true (by omega)
      have e2 : decide ((z.length : Int) ≤ 8) = false := decide_eq_false (by omega)
      simp only [e1, e2, Bool.and_false, Bool.not_false, if_true, decide_eq_false h2, Bool.and_false, Bool.false_and]
      rfl
  · have e1 : decide ((1 : Int) ≤ (z.length : Int)) = false := decide_eq_false (by omega)
    simp only [e1, Bool.false_and, Bool.not_false, if_true, decide_eq_false h1, Bool.false_and]
    rfl
def gp : List Nat := [42, 42]
def gapIx : List (List Nat) → Nat → List D
  | [], _ => []
  | z :: r, k => if z = gp then .int (k : Int) :: gapIx r (k + 1) else gapIx r (k + 1)
def enumK (I : List (List Nat)) (k : Nat) : List D := match I with
  | [] => []
  | z :: r => .tup [.int (k : Int), .str z] :: enumK r (k + 1)
theorem enumK_eq : ∀ (I : List (List Nat)) (k : Nat), (I.map D.str).mapIdx (fun i d => D.tup [.int ((i + k : Nat) : Int), d]) = enumK I k
  | [], _ => rfl
  | z :: r, k => by
    rw [List.map_cons, List.mapIdx_cons]
    show _ :: _ = _ :: enumK r (k + 1)
    rw [← enumK_eq r (k + 1)]
    simp only [Nat.zero_add]
    congr 1
    congr 1
    funext i d
    rw [show i + 1 + k = i + (k + 1) by omega]
theorem enumL_strs (I : List (List Nat)) : enumL (I.map D.str) = enumK I 0 := by
  rw [← enumK_eq]
  rfl
def sndZ : D → Bool
  | .tup [_, .str z] => decide (z = gp)
  | _ => false
def fstZ : D → D
  | .tup [a, _] => a
  | d => d
def pairZ : D → D × D
  | .tup [a, b] => (a, b)
  | d => (d, d)
theorem enumK_mem : ∀ {I : List (List Nat)} {k : Nat} {d : D}, d ∈ enumK I k → ∃ (i : Int) (z : List Nat), d = .tup [.int i, .str z]
  | [], _, _, h => by cases h
  | z :: r, k, d, h => by
    have h' : d ∈ (D.tup [.int (k : Int), .str z] :: enumK r (k + 1)) := h
    rcases List.mem_cons.mp h' with rfl | h'
    · exact ⟨_, _, rfl⟩
    · exact enumK_mem h'
theorem enumK_filter : ∀ (I : List (List Nat)) (k : Nat), ((enumK I k).filter sndZ).map fstZ = gapIx I k
  | [], _ => rfl
  | z :: r, k => by
    show (List.filter sndZ (D.tup [.int (k : Int), .str z] :: enumK r (k + 1))).map fstZ = gapIx (z :: r) k
    have ih := enumK_filter r (k + 1)
    by_cases h : z = gp
    · have e : sndZ (D.tup [.int (k : Int), .str z]) = true := decide_eq_true h
      rw [List.filter_cons_of_pos e, List.map_cons, ih]
      show _ = (if z = gp then _ else _)
      rw [if_pos h]
      rfl
    · have e : ¬ sndZ (D.tup [.int (k : Int), .str z]) = true := by
        show ¬ decide (z = gp) = true
        simpa using h
      rw [List.filter_cons_of_neg e, ih]
      show _ = (if z = gp then _ else _)
      rw [if_neg h]
theorem gaps_ok (I : List (List Nat)) : (lcF un2 (fun (c8 : D × D) => (DL.ask ((eqD c8.2 c_GAP).bind bOf))) (fun (c8 : D × D) => (pure c8.1)) (enumK I 0) : R (List D)) = .ok (gapIx I 0) := by
  refine (lcR (u := un2) (xe := fun c8 : D × D => (pure c8.1 : R D)) (c := pairZ) (p := sndZ) (f := fstZ) (enumK I 0) (fun d m => ?_) (fun d m => ?_) (fun d m _ => ?_)).trans ?_
  · obtain ⟨i, z, rfl⟩ := enumK_mem m
    rfl
  · obtain ⟨i, z, rfl⟩ := enumK_mem m
    show (DL.ask ((eqD (.str z) (.str [42, 42])).bind bOf) : R Bool) = .ok (decide (z = gp))
    rw [eq_ss]
    rfl
  · obtain ⟨i, z, rfl⟩ := enumK_mem m
    rfl
  · rw [enumK_filter]
theorem gap_none : ∀ {I : List (List Nat)} {k : Nat}, gp ∉ I → gapIx I k = []
  | [], _, _ => rfl
  | z :: r, k, h => by
    show (if z = gp then _ else _) = _
    rw [if_neg fun e => h (by rw [e]; exact .head _)]
    exact gap_none fun m => h (.tail _ m)
theorem gap_one : ∀ {A B : List (List Nat)} {k : Nat}, gp ∉ A → gp ∉ B → gapIx (A ++ gp :: B) k = [.int ((k + A.length : Nat) : Int)]
  | [], B, k, _, hB => by
    show (if gp = gp then _ else _) = _
    rw [if_pos rfl, gap_none hB]
    rfl
  | z :: r, B, k, hA, hB => by
    show (if z = gp then D.int (k : Int) :: gapIx (r ++ gp :: B) (k + 1) else gapIx (r ++ gp :: B) (k + 1)) = _
    rw [if_neg fun e => hA (by rw [e]; exact .head _), gap_one (k := k + 1) (fun m => hA (.tail _ m)) hB, List.length_cons, show k + 1 + r.length = k + (r.length + 1) by omega]
theorem it_gap {z : List Nat} (h : isIt z = true) : z ≠ gp := by
  rintro rfl
  revert h
  decide
theorem bad_ok (I : List (List Nat)) (h : ∀ z ∈ I, z = gp ∨ isIt z = true) : (lcF (fun d => some d) (fun (c19 : D) => (DL.andM (DL.ask ((neD c19 c_GAP).bind bOf)) (DL.notM (do let x25 ← (Mo.lift (m_is_label_text_206f [c19])); DL.ask (truD x25))))) (fun (c19 : D) => (pure c19)) (I.map D.str) : R (List D)) = .ok [] := by
  refine (lcR (u := fun d => some d) (xe := fun c19 : D => (pure c19 : R D)) (c := fun d => d) (p := fun _ => false) (f := fun d => d) (I.map D.str) (fun _ _ => rfl) (fun d m => ?_) (fun _ _ q => by cases q)).trans ?_
  · obtain ⟨z, hz, rfl⟩ := List.mem_map.mp m
    have e1 : (neD (.str z) c_GAP).bind bOf = some (!decide (z = gp)) := by
      show (neD (.str z) (.str [42, 42])).bind bOf = _
      rw [ne_ss]
      rfl
    simp only [DL.andM, e1, askR, pure_bind, DL.notM, item_ok, lift_pR, okpR, tru_bl]
    rcases h z hz with rfl | hi
    · rfl
    · rw [hi, decide_eq_false (it_gap hi)]
      rfl
  · rw [show (I.map D.str).filter (fun _ => false) = [] from List.filter_eq_nil_iff.mpr fun _ _ => by simp]
    rfl
theorem cut_toD {z : List D} {n : Nat} : cutL z none (some (n : Int)) = z.take n := by rw [cut_hi (by omega)]; rfl
theorem cut_fromD {z : List D} {n : Nat} : cutL z (some ((n : Int) + 1)) none = z.drop (n + 1) := by
  have := cut_lo (z := z) (i := (n : Int) + 1) (by omega)
  rw [this]
  congr 1
def limD (a b c d : Nat) : D := .tup [.int (a : Int), .int (b : Int), .int (c : Int), .int (d : Int)]
theorem shape_plain {I : List (List Nat)} {l0 l1 mh mt : Nat} (h : ∀ z ∈ I, isIt z = true) (h0 : l0 ≤ I.length) (h1 : I.length ≤ l1) : m_shape_of_items_2081 [.lst (I.map .str), limD l0 l1 mh mt] = .ok (.tup [.tup (I.map .str), .tup [], .bl false]) := by
  have ng : gp ∉ I := fun m => it_gap (h _ m) rfl
  have e1 : enumOf [.lst (I.map D.str)] = some (enumK I 0) := congrArg some (enumL_strs I)
  have e2 : unN 4 (limD l0 l1 mh mt) = some [.int (l0 : Int), .int (l1 : Int), .int (mh : Int), .int (mt : Int)] := rfl
  have eg := gaps_ok I
  rw [gap_none ng] at eg
  have eb := bad_ok I fun z m => .inr (h z m)
  have l0' : lenD [.lst ([] : List D)] = some (.int 0) := rfl
  have g0 : (gtD (.int 0) (.int 1)).bind bOf = some false := rfl
  have hl : lenD [.lst (I.map D.str)] = some (.int (I.length : Int)) := by
    show some (D.int ((I.map D.str).length : Int)) = _
    rw [List.length_map]
  have t0 : truD (.lst ([] : List D)) = some false := rfl
  have s0 : szL [] = some [] := sz_ok (by simp)
  have ch : (chainM leD leD (pure (.int (l0 : Int))) (pure (.int (I.length : Int))) (pure (.int (l1 : Int))) : R D) = .ok (.bl true) := by
    unfold chainM
    simp only [le_l, askR, pure_bind, Option.bind_some, bOf_bl, decide_eq_true (show (l0 : Int) ≤ (I.length : Int) by omega), if_true, decide_eq_true (show (I.length : Int) ≤ (l1 : Int) by omega)]
    rfl
  unfold m_shape_of_items_2081 apR2
  simp only [e_shape_of_items_2081, e2, e1, askR, pure_bind, eg, okpR, l0', g0, DL.orM, Bool.false_eq_true, if_false, it_lst, eb, t0]
  simp only [askR, pure_bind, okpR, t0, Bool.false_eq_true, if_false, DL.notM, Bool.not_false, sqp, if_true, iteM, List.getD_cons_zero, List.getD_cons_succ, hl, ch, bOf_bl, tup_lst, s0, sz3]
  rfl
theorem shape_gap {A B : List (List Nat)} {l0 l1 mh mt : Nat} (hA : ∀ z ∈ A, isIt z = true) (hB : ∀ z ∈ B, isIt z = true) (h0 : A.length ≤ mh) (h1 : B.length ≤ mt) : m_shape_of_items_2081 [.lst ((A ++ gp :: B).map .str), limD l0 l1 mh mt] = .ok (.tup [.tup (A.map .str), .tup (B.map .str), .bl true]) := by
  have na : gp ∉ A := fun m => it_gap (hA _ m) rfl
  have nb : gp ∉ B := fun m => it_gap (hB _ m) rfl
  have e1 : enumOf [.lst ((A ++ gp :: B).map D.str)] = some (enumK (A ++ gp :: B) 0) := congrArg some (enumL_strs _)
  have e2 : unN 4 (limD l0 l1 mh mt) = some [.int (l0 : Int), .int (l1 : Int), .int (mh : Int), .int (mt : Int)] := rfl
  have eg := gaps_ok (A ++ gp :: B)
  rw [gap_one na nb, Nat.zero_add] at eg
  have eb := bad_ok (A ++ gp :: B) fun z m => by
    rcases List.mem_append.mp m with m | m
    · exact .inr (hA z m)
    · rcases List.mem_cons.mp m with m | m
      · exact .inl m
      · exact .inr (hB z m)
  have l1' : lenD [.lst [D.int (A.length : Int)]] = some (.int 1) := rfl
  have g0 : (gtD (.int 1) (.int 1)).bind bOf = some false := rfl
  have t0 : truD (.lst ([] : List D)) = some false := rfl
  have t1 : truD (.lst [D.int (A.length : Int)]) = some true := rfl
  have x0 : ixD (.lst [D.int (A.length : Int)]) (.int 0) = some (.int (A.length : Int)) := rfl
  have i0 : ∀ i : Int, intOf (.int i) = some i := fun _ => rfl
  have c1 : cutL ((A ++ gp :: B).map D.str) none (some (A.length : Int)) = A.map D.str := by
    rw [show (A ++ gp :: B).map D.str = A.map D.str ++ (gp :: B).map D.str by simp]
    have : cutL (A.map D.str ++ (gp :: B).map D.str) none (some (A.length : Int)) = (A.map D.str ++ (gp :: B).map D.str).take A.length := cut_toD
    rw [this, List.take_left' (by simp)]
  have c2 : cutL ((A ++ gp :: B).map D.str) (some ((A.length : Int) + 1)) none = B.map D.str := by
    have : cutL ((A ++ gp :: B).map D.str) (some ((A.length : Int) + 1)) none = ((A ++ gp :: B).map D.str).drop (A.length + 1) := cut_fromD
    rw [this, show (A ++ gp :: B).map D.str = (A.map D.str ++ [D.str gp]) ++ B.map D.str by simp, List.drop_left' (by simp)]
  have ll : ∀ xs : List D, lenD [.tup xs] = some (.int (xs.length : Int)) := fun _ => rfl
  have q1 : (leD (.int ((A.map D.str).length : Int)) (.int (mh : Int))).bind bOf = some true := by
    rw [le_l]
    show some (decide _) = _
    rw [decide_eq_true (by simpa using h0)]
  have q2 : (leD (.int ((B.map D.str).length : Int)) (.int (mt : Int))).bind bOf = some true := by
    rw [le_l]
    show some (decide _) = _
    rw [decide_eq_true (by simpa using h1)]
  unfold m_shape_of_items_2081 apR2
  simp only [e_shape_of_items_2081, e2, e1, askR, pure_bind, eg, okpR, l1', g0, DL.orM, Bool.false_eq_true, if_false, it_lst, eb, t0]
  simp only [askR, pure_bind, okpR, Bool.false_eq_true, if_false, t0, t1, DL.notM, Bool.not_true, sqp, x0, i0, add_ii, slice_l, c1, c2, tup_lst, ll, List.getD_cons_zero, List.getD_cons_succ, DL.andM, q1, q2, if_true, iteM, sz3]
  rfl
def PatI (l0 l1 mh mt : Nat) (I h t : List (List Nat)) (g : Bool) : Prop := (∀ z ∈ h ++ t, isIt z = true) ∧ ((g = false ∧ I = h ∧ t = [] ∧ l0 ≤ h.length ∧ h.length ≤ l1) ∨ (g = true ∧ I = h ++ gp :: t ∧ h.length ≤ mh ∧ t.length ≤ mt))
theorem pat_mem {l0 l1 mh mt : Nat} {I h t : List (List Nat)} {g : Bool} (p : PatI l0 l1 mh mt I h t g) : ∀ z ∈ I, z = gp ∨ isIt z = true := by
  obtain ⟨hz, ⟨rfl, rfl, rfl, h0, h1⟩ | ⟨rfl, rfl, h0, h1⟩⟩ := p
  · exact fun z m => .inr (hz z (by simpa using m))
  · intro z m
    rcases List.mem_append.mp m with m | m
    · exact .inr (hz z (List.mem_append_left _ m))
    · rcases List.mem_cons.mp m with m | m
      · exact .inl m
      · exact .inr (hz z (List.mem_append_right _ m))
theorem it_free {z : List Nat} {s : Nat} (h : z = gp ∨ isIt z = true) (hs : s ∉ CH) (h2 : s ≠ 42) : s ∉ z := by
  intro m
  rcases h with rfl | h
  · simp only [gp, List.mem_cons, List.not_mem_nil, or_false, or_self] at m
    exact h2 m
  · unfold isIt at h
    simp only [Bool.and_eq_true] at h
    have := List.all_eq_true.mp h.2 s m
    simp only [Bool.or_eq_true, decide_eq_true_eq] at this
    rcases this with e | e
    · exact h2 e
    · exact hs e
theorem it_len {z : List Nat} (h : z = gp ∨ isIt z = true) : z.length ≤ 8 := by
  rcases h with rfl | h
  · decide
  · unfold isIt at h
    simp only [Bool.and_eq_true, decide_eq_true_eq] at h
    exact h.1.1.2
theorem join_len {s : Nat} : ∀ {I : List (List Nat)}, (∀ z ∈ I, z.length ≤ 8) → (joinN [s] I).length ≤ 9 * I.length
  | [], _ => Nat.zero_le _
  | [p], h => by
    show p.length ≤ 9 * 1
    have := h p (.head _)
    omega
  | p :: q :: r, h => by
    show (p ++ ([s] ++ joinN [s] (q :: r))).length ≤ _
    have ih := join_len (s := s) (I := q :: r) fun z m => h z (.tail _ m)
    have := h p (.head _)
    simp only [List.length_append, List.length_cons, List.length_nil] at ih ⊢
    omega
def iPd (i j : Int) : D := .tup [.int i, .int j]
def Dr (t : List Nat) (pd : D) : Prop := (t = [] ∧ pd = .non) ∨ ∃ u lo hi, t = 58 :: u ∧ pd = iPd lo hi ∧ 1 ≤ lo ∧ lo ≤ hi ∧ hi ≤ 65535 ∧ m_ports_of_0eba [.str u] = .ok (iPd lo hi) ∧ 47 ∉ u ∧ (∀ c ∈ u, c < 1114112) ∧ u.length ≤ 100
theorem in_strsT {k : Nat} {z : List Nat} {S : List (List Nat)} (h : Tx k z) (hz : ∀ w ∈ S, Tx 1000 w) : inP (.str z) (.tup (S.map .str)) = some (decide (z ∈ S)) := by
  have e : inP (.str z) (.tup (S.map .str)) = match toPy (.str z), toPy (.tup (S.map .str)) with
    | some x, some (.tuple ys) => if SeqAt.shaped x && SeqAt.shaped (.tuple ys) then some (ys.any fun z => PyData.eqv z x) else none
    | _, _ => none := by
    unfold inP
    split
    · rename_i q; cases q
    · rename_i q; cases q
    · rename_i ds _ q; cases q; rfl
    · rename_i q1 q2 q3; first | exact absurd rfl (q1 _) | exact absurd rfl (q2 _) | exact absurd rfl (q3 _)
  rw [e, toPy, toPy, toPyL_strs]
  simp only [Option.map_some, shaped_str h, (shaped_strs hz).2, Bool.and_self, if_true, any_strs]
theorem notin_T {k : Nat} {z : List Nat} {S : List (List Nat)} (h : Tx k z) (hz : ∀ w ∈ S, Tx 1000 w) : (notInD (.str z) (.tup (S.map .str))).bind bOf = some (!decide (z ∈ S)) := by
  unfold notInD
  rw [in_strsT h hz]
  rfl
theorem tx_all {S : List (List Nat)} (h : (S.all fun w => decide (w.length ≤ 1000) && w.all fun c => decide (c < 1114112)) = true) : ∀ w ∈ S, Tx 1000 w := fun w m => by
  have := List.all_eq_true.mp h w m
  simp only [Bool.and_eq_true, decide_eq_true_eq, List.all_eq_true] at this
  exact ⟨this.1, fun c hc => by simpa using this.2 c hc⟩
theorem ix_zero {c : Nat} {r : List Nat} : ixD (.str (c :: r)) (.int 0) = some (.str [c]) := by
  unfold ixD L2.atI
  simp only [ixN_ok (n := (c :: r).length) (i := 0) (Int.le_refl 0) (by simp)]
  rfl
def Sg (s : List Nat) : Prop := s = [43] ∨ s = [45]
def Wd (w : List Nat) : Prop := w = [97, 110, 121] ∨ w = kHttp ∨ w = kHttps
def wrt (t : List Nat) : List Nat := t.drop 1
def ruT (s w nm t pj : List Nat) : List Nat := s ++ [32] ++ w ++ [58, 47, 47] ++ nm ++ t ++ [47] ++ pj
def PNs : List Str := ["text", "level", "head", "tail", "gap"]
def RNs : List Str := ["text", "sign", "scheme", "written_ports", "ports", "near", "host", "path"]
def ptF (x : List Nat) (lv : D) (h t : List (List Nat)) (g : Bool) : List D := [.str x, lv, .tup (h.map .str), .tup (t.map .str), .bl g]
theorem pat_init {x lv : D} {h t : List (List Nat)} {g : Bool} : m_Pattern_init_4a0d [x, lv, .tup [.tup (h.map .str), .tup (t.map .str), .bl g]] = .ok [x, lv, .tup (h.map .str), .tup (t.map .str), .bl g] := rfl
inductive NmK : List Nat → D → D → Prop
  | near {A : List (List Nat)} (h0 : A ≠ []) (hl : A.length ≤ 4) (hA : ∀ z ∈ A, isLab 20 z = true) : NmK (126 :: joinN [46] A) (.tup (A.map .str)) .non
  | host {I h t : List (List Nat)} {g : Bool} (p : PatI 1 4 3 2 I.reverse h t g) (h0 : I ≠ []) (hl : I.length ≤ 10) : NmK (joinN [46] I) .non (.ins "HostPattern" PNs (ptF (joinN [46] I) c_HOST h t g))
theorem nm_len {nm : List Nat} {n h : D} (k : NmK nm n h) : nm.length ≤ 1000 := by
  cases k with
  | near h0 hl hA =>
    have hr : okRow _ = true := row_of (by omega) hA
    have e : ∀ {A : List (List Nat)}, (∀ z ∈ A, z.length ≤ 20) → (joinN [46] A).length ≤ 21 * A.length := by
      intro A
      induction A with
      | nil => intro _; exact Nat.zero_le _
      | cons z r ih =>
        intro h
        cases r with
        | nil =>
          show z.length ≤ 21 * 1
          have := h z (.head _)
          omega
        | cons q r =>
          show (z ++ ([46] ++ joinN [46] (q :: r))).length ≤ _
          have := ih fun z m => h z (.tail _ m)
          have := h z (.head _)
          simp only [List.length_append, List.length_cons, List.length_nil] at *
          omega
    have := e fun z m => (lab_tx (hA z m)).1
    simp only [List.length_cons]
    have hl' := hl
    omega
  | host p h0 hl =>
    have := join_len (s := 46) fun z m => it_len (pat_mem p z (by simpa using m))
    omega
def ruF (s w nm t pj : List Nat) (pd near host path : D) : List D := [.str (ruT s w nm t pj), .str s, .str w, .str (wrt t), pd, near, host, path]
theorem all2_P {P : List Nat → Prop} : ∀ {ds rs : List D}, All2 (fun _ r => ∃ z, r = D.str z ∧ P z) ds rs → ∃ A : List (List Nat), rs = A.map .str ∧ A.length = ds.length ∧ ∀ z ∈ A, P z
  | [], [], _ => ⟨[], rfl, rfl, by simp⟩
  | [], _ :: _, h => by cases h
  | _ :: _, [], h => by cases h
  | d :: ds, r :: rs, h => by
    cases h with
    | cons h1 h2 =>
      obtain ⟨z, rfl, hz⟩ := h1
      obtain ⟨A, rfl, hl, hA⟩ := all2_P h2
      exact ⟨z :: A, rfl, by simp [hl], fun x m => by
        rcases List.mem_cons.mp m with rfl | m
        · exact hz
        · exact hA x m⟩
inductive HpD : D → List Nat → D → D → Prop
  | near {A : List (List Nat)} (h0 : A ≠ []) (hl : A.length ≤ 4) (hA : ∀ z ∈ A, isLab 20 z = true) : HpD (.tup [.str [126], .tup (A.map .str)]) (126 :: joinN [46] A) (.tup (A.map .str)) .non
  | host {I h t : List (List Nat)} {g : Bool} (p : PatI 1 4 3 2 I.reverse h t g) (h0 : I ≠ []) (hl : I.length ≤ 10) : HpD (.tup [.str [], .lst (I.map .str)]) (joinN [46] I) .non (.ins "HostPattern" PNs (ptF (joinN [46] I) c_HOST h t g))
theorem HpD.nm {d : D} {nm : List Nat} {n h : D} (k : HpD d nm n h) : NmK nm n h := by
  cases k with
  | near h0 hl hA => exact .near h0 hl hA
  | host p h0 hl => exact .host p h0 hl
inductive PjD : D → List Nat → D → Prop
  | mk {J h t : List (List Nat)} {g : Bool} (p : PatI 0 3 2 2 J h t g) (hl : J.length ≤ 10) : PjD (.lst (J.map .str)) (joinN [47] J) (.ins "PathPattern" PNs (ptF (47 :: joinN [47] J) c_PATH h t g))
theorem sum_le8 {I : List (List Nat)} {k : Nat} (h : ∀ z ∈ I, z.length ≤ k) (hl : I.length ≤ 1000) (hk : k ≤ 100) : (I.map (·.length)).sum + I.length * 1 ≤ 16777216 := by
  have := sum_le h
  have : I.length * k ≤ 1000 * 100 := Nat.mul_le_mul hl hk
  omega
theorem HpD.join {d : D} {nm : List Nat} {n h : D} (k : HpD d nm n h) : ∃ p x r j, d = .tup [.str p, x] ∧ listD [x] = some r ∧ szL r = some r ∧ joinD (.str [46]) (.lst r) = some (.str j) ∧ nm = p ++ j ∧ p.length ≤ 1 ∧ j.length ≤ 1000 := by
  have hn := nm_len k.nm
  cases k with
  | @near A h0 hl hA =>
    refine ⟨[126], .tup (A.map .str), A.map .str, joinN [46] A, rfl, rfl, sz_ok (by rw [List.length_map]; omega), join_ok (sum_le8 (k := 20) (fun z m => (isLab_iff.mp (hA z m)).2.1) (by omega) (by omega)), rfl, by simp, ?_⟩
    simp only [List.length_cons] at hn
    omega
  | @host I h t g p h0 hl =>
    exact ⟨[], .lst (I.map .str), I.map .str, joinN [46] I, rfl, rfl, sz_ok (by rw [List.length_map]; omega), join_ok (sum_le8 (k := 8) (fun z m => it_len (pat_mem p z (by simpa using m))) (by omega) (by omega)), rfl, by simp, hn⟩
inductive RuD : D → List Nat → List D → Prop
  | mk {s w nm t pj : List Nat} {part pd near host path J : D} (hs : Sg s) (hw : Wd w) (ht : Dr t pd) (hn : HpD part nm near host) (hp : PjD J pj path) : RuD (.tup [.str s, .str w, part, pd, J]) (ruT s w nm t pj) (ruF s w nm t pj pd near host path)
end FN
namespace DL
open PySem PySem.Spec PyProof.Rows L2
section
variable {X : Cx} {fx : Fx} {m : Type → Type} [Mo m] {G : List Sl} {α β : Type} {ss : List Stmt} {ex : α → List Sl} {exb : β → List Sl}
theorem pss_k {k k' : m (Fl α β)} (e : k = k') (h : PSs X ss (tS X.K X.mg fx G ex exb k')) : PSs X ss (tS X.K X.mg fx G ex exb k) := by
  rw [e]
  exact h
end
end DL
namespace DL
open PySem PySem.Spec PyProof.Rows L2
end DL
namespace FN
open DL PySem PySem.W
def b_label_fits_6e5b (a0 a1 : D) : R (Fl Unit Empty) := (do let v1 ← (do let x3 ← (pure a0); let _ ← DL.ask (strOf x3); let y4 ← (pure (.str [42])); DL.ask (partD x3 y4)); let c2 ← DL.ask (un3 v1); (do let t29 ← (do let x5 ← (pure c2.2.1); let y6 ← (pure (.str [])); DL.ask ((eqD x5 y6).bind bOf)); seqF (if t29 = true then (do let v10 ← (do let x8 ← (pure a0); let y9 ← (pure a1); DL.ask (eqD x8 y9)); pure (.rt v10)) else (pure (.nx ()))) fun (q7 : Unit) => (do let v28 ← (andV (do let x22 ← (do let r13 ← (do let x11 ← (pure a1); let r12 ← pure []; pure (x11 :: r12)); DL.ask (lenD r13)); let y23 ← (do let x20 ← (do let r16 ← (do let x14 ← (pure c2.1); let r15 ← pure []; pure (x14 :: r15)); DL.ask (lenD r16)); let y21 ← (do let r19 ← (do let x17 ← (pure c2.2.2); let r18 ← pure []; pure (x17 :: r18)); DL.ask (lenD r19)); DL.ask (addD x20 y21)); DL.ask (geD x22 y23)) (andV (do let x24 ← (pure a1); let _ ← DL.ask (strOf x24); let y25 ← (pure c2.1); DL.ask (strM (fun a b => .bl (PySem.Txt.startswith ⟨a.toArray⟩ ⟨b.toArray⟩)) x24 y25)) (do let x26 ← (pure a1); let _ ← DL.ask (strOf x26); let y27 ← (pure c2.2.2); DL.ask (strM (fun a b => .bl (PySem.Txt.endswith ⟨a.toArray⟩ ⟨b.toArray⟩)) x26 y27)))); pure (.rt v28))))
theorem e_label_fits_6e5b (a0 a1 : D) : b_label_fits_6e5b a0 a1 = (do let _ ← DL.ask (strOf a0); let v1 ← (DL.ask (partD a0 (.str [42]))); let c2 ← DL.ask (un3 v1); let t29 ← (DL.ask ((eqD c2.2.1 (.str [])).bind bOf)); seqF (if t29 = true then (do let v10 ← (DL.ask (eqD a0 a1)); pure (.rt v10)) else (pure (.nx ()))) fun (q7 : Unit) => (do let v28 ← (andV (do let x22 ← (DL.ask (lenD [a1])); let x20 ← (DL.ask (lenD [c2.1])); let y21 ← (DL.ask (lenD [c2.2.2])); let y23 ← (DL.ask (addD x20 y21)); DL.ask (geD x22 y23)) (andV (do let _ ← DL.ask (strOf a1); DL.ask (strM (fun a b => .bl (PySem.Txt.startswith ⟨a.toArray⟩ ⟨b.toArray⟩)) a1 c2.1)) (do let _ ← DL.ask (strOf a1); DL.ask (strM (fun a b => .bl (PySem.Txt.endswith ⟨a.toArray⟩ ⟨b.toArray⟩)) a1 c2.2.2)))); pure (.rt v28))) := by
  unfold b_label_fits_6e5b; simp only [pure_bind, bind_assoc, mkL]
def m_label_fits_6e5b : List D → R D := apR2 fun a0 a1 => (runR false (b_label_fits_6e5b a0 a1))
def b__law_fits_b893 (a0 a1 : D) : R (Fl Unit Empty) := (do let t53 ← (do let x1 ← (pure (.str [42])); let y2 ← (pure a0); DL.ask ((notInD x1 y2).bind bOf)); seqF (if t53 = true then (do let v6 ← (do let x4 ← (pure a0); let y5 ← (pure a1); DL.ask (eqD x4 y5)); pure (.rt v6)) else (pure (.nx ()))) fun (q3 : Unit) => (do let v7 ← (do let x9 ← (pure a0); let _ ← DL.ask (strOf x9); let y10 ← (pure (.str [42])); DL.ask (partD x9 y10)); let c8 ← DL.ask (un3 v7); (do let t52 ← (do let x22 ← (do let r13 ← (do let x11 ← (pure a1); let r12 ← pure []; pure (x11 :: r12)); DL.ask (lenD r13)); let y23 ← (do let x20 ← (do let r16 ← (do let x14 ← (pure c8.1); let r15 ← pure []; pure (x14 :: r15)); DL.ask (lenD r16)); let y21 ← (do let r19 ← (do let x17 ← (pure c8.2.2); let r18 ← pure []; pure (x17 :: r18)); DL.ask (lenD r19)); DL.ask (addD x20 y21)); DL.ask ((ltD x22 y23).bind bOf)); seqF (if t52 = true then (do let v25 ← (pure (.bl false)); pure (.rt v25)) else (pure (.nx ()))) fun (q24 : Unit) => (do let v51 ← (andV (do let x34 ← (do let x31 ← (pure a1); let l32 ← (pure none); let u33 ← (do let x29 ← (do let r28 ← (do let x26 ← (pure c8.1); let r27 ← pure []; pure (x26 :: r27)); DL.ask (lenD r28)); let i30 ← DL.ask (intOf x29); pure (some i30)); DL.ask (sliceD x31 l32 u33)); let y35 ← (pure c8.1); DL.ask (eqD x34 y35)) (do let x49 ← (do let x46 ← (pure a1); let l47 ← (do let x44 ← (do let x42 ← (do let r38 ← (do let x36 ← (pure a1); let r37 ← pure []; pure (x36 :: r37)); DL.ask (lenD r38)); let y43 ← (do let r41 ← (do let x39 ← (pure c8.2.2); let r40 ← pure []; pure (x39 :: r40)); DL.ask (lenD r41)); DL.ask (subD x42 y43)); let i45 ← DL.ask (intOf x44); pure (some i45)); let u48 ← (pure none); DL.ask (sliceD x46 l47 u48)); let y50 ← (pure c8.2.2); DL.ask (eqD x49 y50))); pure (.rt v51)))))
theorem e__law_fits_b893 (a0 a1 : D) : b__law_fits_b893 a0 a1 = (do let t53 ← (DL.ask ((notInD (.str [42]) a0).bind bOf)); seqF (if t53 = true then (do let v6 ← (DL.ask (eqD a0 a1)); pure (.rt v6)) else (pure (.nx ()))) fun (q3 : Unit) => (do let _ ← DL.ask (strOf a0); let v7 ← (DL.ask (partD a0 (.str [42]))); let c8 ← DL.ask (un3 v7); let x22 ← (DL.ask (lenD [a1])); let x20 ← (DL.ask (lenD [c8.1])); let y21 ← (DL.ask (lenD [c8.2.2])); let y23 ← (DL.ask (addD x20 y21)); let t52 ← (DL.ask ((ltD x22 y23).bind bOf)); seqF (if t52 = true then (pure (.rt (.bl false))) else (pure (.nx ()))) fun (q24 : Unit) => (do let v51 ← (andV (do let x29 ← (DL.ask (lenD [c8.1])); let i30 ← DL.ask (intOf x29); let x34 ← (DL.ask (sliceD a1 none (some i30))); DL.ask (eqD x34 c8.1)) (do let x42 ← (DL.ask (lenD [a1])); let y43 ← (DL.ask (lenD [c8.2.2])); let x44 ← (DL.ask (subD x42 y43)); let i45 ← DL.ask (intOf x44); let x49 ← (DL.ask (sliceD a1 (some i45) none)); DL.ask (eqD x49 c8.2.2))); pure (.rt v51)))) := by
  unfold b__law_fits_b893; simp only [pure_bind, bind_assoc, mkL]
def m__law_fits_b893 : List D → R D := apR2 fun a0 a1 => (runR false (b__law_fits_b893 a0 a1))
def b__law_default_6094 (a0 : D) : R (Fl Unit Empty) := (do let v3 ← (iteM (do let x1 ← (pure a0); let y2 ← (pure (.str [104, 116, 116, 112])); DL.ask ((eqD x1 y2).bind bOf)) (pure (.int 80)) (pure (.int 443))); pure (.rt v3))
def m__law_default_6094 : List D → R D := apR1 fun a0 => (runR false (b__law_default_6094 a0))
def b_row_fits_a0db (a0 a1 : D) : R (Fl Unit Empty) := (do let v1 ← (pure a0); let c2 ← DL.ask (un3 v1); (do let t64 ← (DL.orM (do let x14 ← (do let r5 ← (do let x3 ← (pure a1); let r4 ← pure []; pure (x3 :: r4)); DL.ask (lenD r5)); let y15 ← (do let x12 ← (do let r8 ← (do let x6 ← (pure c2.1); let r7 ← pure []; pure (x6 :: r7)); DL.ask (lenD r8)); let y13 ← (do let r11 ← (do let x9 ← (pure c2.2.1); let r10 ← pure []; pure (x9 :: r10)); DL.ask (lenD r11)); DL.ask (addD x12 y13)); DL.ask ((ltD x14 y15).bind bOf)) (DL.andM (DL.notM (do let x16 ← (pure c2.2.2); DL.ask (truD x16))) (do let x23 ← (do let r19 ← (do let x17 ← (pure a1); let r18 ← pure []; pure (x17 :: r18)); DL.ask (lenD r19)); let y24 ← (do let r22 ← (do let x20 ← (pure c2.1); let r21 ← pure []; pure (x20 :: r21)); DL.ask (lenD r22)); DL.ask ((gtD x23 y24).bind bOf)))); seqF (if t64 = true then (do let v26 ← (pure (.bl false)); pure (.rt v26)) else (pure (.nx ()))) fun (q25 : Unit) => (do let v27 ← (do let x51 ← (do let r32 ← (do let x30 ← (pure c2.1); let r31 ← (do let x28 ← (pure a1); let r29 ← pure []; pure (x28 :: r29)); pure (x30 :: r31)); DL.ask (zipLD r32)); let y52 ← (do let r50 ← (do let x48 ← (pure c2.2.1); let r49 ← (do let x46 ← (do let x43 ← (pure a1); let l44 ← (do let x41 ← (do let x39 ← (do let r35 ← (do let x33 ← (pure a1); let r34 ← pure []; pure (x33 :: r34)); DL.ask (lenD r35)); let y40 ← (do let r38 ← (do let x36 ← (pure c2.2.1); let r37 ← pure []; pure (x36 :: r37)); DL.ask (lenD r38)); DL.ask (subD x39 y40)); let i42 ← DL.ask (intOf x41); pure (some i42)); let u45 ← (pure none); DL.ask (sliceD x43 l44 u45)); let r47 ← pure []; pure (x46 :: r47)); pure (x48 :: r49)); DL.ask (zipLD r50)); DL.ask (addD x51 y52)); (do let v63 ← (notV (mkL (do let r62 ← (do let r53 ← (pure v27); DL.ask (itD r53)); lcF un2 (fun (c55 : D × D) => (DL.notM (do let x61 ← (do let r60 ← (do let x58 ← (pure c55.1); let r59 ← (do let x56 ← (pure c55.2); let r57 ← pure []; pure (x56 :: r57)); pure (x58 :: r59)); Mo.lift (m_label_fits_6e5b r60)); DL.ask (truD x61)))) (fun (c55 : D × D) => (pure c55.2)) r62))); pure (.rt v63)))))
theorem e_row_fits_a0db (a0 a1 : D) : b_row_fits_a0db a0 a1 = (do let c2 ← DL.ask (un3 a0); let t64 ← (DL.orM (do let x14 ← (DL.ask (lenD [a1])); let x12 ← (DL.ask (lenD [c2.1])); let y13 ← (DL.ask (lenD [c2.2.1])); let y15 ← (DL.ask (addD x12 y13)); DL.ask ((ltD x14 y15).bind bOf)) (DL.andM (DL.notM (DL.ask (truD c2.2.2))) (do let x23 ← (DL.ask (lenD [a1])); let y24 ← (DL.ask (lenD [c2.1])); DL.ask ((gtD x23 y24).bind bOf)))); seqF (if t64 = true then (pure (.rt (.bl false))) else (pure (.nx ()))) fun (q25 : Unit) => (do let x51 ← (DL.ask (zipLD [c2.1, a1])); let x39 ← (DL.ask (lenD [a1])); let y40 ← (DL.ask (lenD [c2.2.1])); let x41 ← (DL.ask (subD x39 y40)); let i42 ← DL.ask (intOf x41); let x46 ← (DL.ask (sliceD a1 (some i42) none)); let y52 ← (DL.ask (zipLD [c2.2.1, x46])); let v27 ← (DL.ask (addD x51 y52)); let v63 ← (notV (mkL (do let r62 ← (DL.ask (itD v27)); lcF un2 (fun (c55 : D × D) => (DL.notM (do let x61 ← (Mo.lift (m_label_fits_6e5b [c55.1, c55.2])); DL.ask (truD x61)))) (fun (c55 : D × D) => (pure c55.2)) r62))); pure (.rt v63))) := by
  unfold b_row_fits_a0db; simp only [pure_bind, bind_assoc, mkL]
def m_row_fits_a0db : List D → R D := apR2 fun a0 a1 => (runR false (b_row_fits_a0db a0 a1))
def b__law_all_fit_d024 (a0 a1 : D) : R (Fl Unit Empty) := (do let v17 ← (do let r16 ← (do let x14 ← (mkL (do let r13 ← (do let r5 ← (do let x3 ← (pure a0); let r4 ← (do let x1 ← (pure a1); let r2 ← pure []; pure (x1 :: r2)); pure (x3 :: r4)); DL.ask (zipD r5)); lcF un2 (fun (c7 : D × D) => pure true) (fun (c7 : D × D) => (do let r12 ← (do let x10 ← (pure c7.1); let r11 ← (do let x8 ← (pure c7.2); let r9 ← pure []; pure (x8 :: r9)); pure (x10 :: r11)); Mo.lift (m__law_fits_b893 r12))) r13)); let r15 ← pure []; pure (x14 :: r15)); DL.ask (allD r16)); pure (.rt v17))
theorem e__law_all_fit_d024 (a0 a1 : D) : b__law_all_fit_d024 a0 a1 = (do let r13 ← (DL.ask (zipD [a0, a1])); let x14 ← (lcF un2 (fun (c7 : D × D) => pure true) (fun (c7 : D × D) => (Mo.lift (m__law_fits_b893 [c7.1, c7.2]))) r13); let v17 ← (DL.ask (allD [(.lst x14)])); pure (.rt v17)) := by
  unfold b__law_all_fit_d024; simp only [pure_bind, bind_assoc, mkL]
def m__law_all_fit_d024 : List D → R D := apR2 fun a0 a1 => (runR false (b__law_all_fit_d024 a0 a1))
def b__law_row_fits_3c3f (a0 a1 : D) : R (Fl Unit Empty) := (do let t75 ← (do let x1 ← (pure (.str [42, 42])); let y2 ← (pure a0); DL.ask ((notInD x1 y2).bind bOf)); seqF (if t75 = true then (do let v17 ← (andV (do let x10 ← (do let r6 ← (do let x4 ← (pure a0); let r5 ← pure []; pure (x4 :: r5)); DL.ask (lenD r6)); let y11 ← (do let r9 ← (do let x7 ← (pure a1); let r8 ← pure []; pure (x7 :: r8)); DL.ask (lenD r9)); DL.ask (eqD x10 y11)) (do let r16 ← (do let x14 ← (pure a0); let r15 ← (do let x12 ← (pure a1); let r13 ← pure []; pure (x12 :: r13)); pure (x14 :: r15)); Mo.lift (m__law_all_fit_d024 r16))); pure (.rt v17)) else (pure (.nx ()))) fun (q3 : Unit) => (do let v18 ← (do let x19 ← (pure a0); let _ ← DL.ask (lstOf x19); let y20 ← (pure (.str [42, 42])); DL.ask (indexLD x19 y20)); (do let v21 ← (do let x25 ← (pure a0); let l26 ← (pure none); let u27 ← (do let x23 ← (pure v18); let i24 ← DL.ask (intOf x23); pure (some i24)); DL.ask (sliceD x25 l26 u27)); let v22 ← (do let x32 ← (pure a0); let l33 ← (do let x30 ← (do let x28 ← (pure v18); let y29 ← (pure (.int 1)); DL.ask (addD x28 y29)); let i31 ← DL.ask (intOf x30); pure (some i31)); let u34 ← (pure none); DL.ask (sliceD x32 l33 u34)); (do let t74 ← (do let x46 ← (do let r37 ← (do let x35 ← (pure a1); let r36 ← pure []; pure (x35 :: r36)); DL.ask (lenD r37)); let y47 ← (do let x44 ← (do let r40 ← (do let x38 ← (pure v21); let r39 ← pure []; pure (x38 :: r39)); DL.ask (lenD r40)); let y45 ← (do let r43 ← (do let x41 ← (pure v22); let r42 ← pure []; pure (x41 :: r42)); DL.ask (lenD r43)); DL.ask (addD x44 y45)); DL.ask ((ltD x46 y47).bind bOf)); seqF (if t74 = true then (do let v49 ← (pure (.bl false)); pure (.rt v49)) else (pure (.nx ()))) fun (q48 : Unit) => (do let v73 ← (andV (do let r54 ← (do let x52 ← (pure v21); let r53 ← (do let x50 ← (pure a1); let r51 ← pure []; pure (x50 :: r51)); pure (x52 :: r53)); Mo.lift (m__law_all_fit_d024 r54)) (do let r72 ← (do let x70 ← (pure v22); let r71 ← (do let x68 ← (do let x65 ← (pure a1); let l66 ← (do let x63 ← (do let x61 ← (do let r57 ← (do let x55 ← (pure a1); let r56 ← pure []; pure (x55 :: r56)); DL.ask (lenD r57)); let y62 ← (do let r60 ← (do let x58 ← (pure v22); let r59 ← pure []; pure (x58 :: r59)); DL.ask (lenD r60)); DL.ask (subD x61 y62)); let i64 ← DL.ask (intOf x63); pure (some i64)); let u67 ← (pure none); DL.ask (sliceD x65 l66 u67)); let r69 ← pure []; pure (x68 :: r69)); pure (x70 :: r71)); Mo.lift (m__law_all_fit_d024 r72))); pure (.rt v73))))))
theorem e__law_row_fits_3c3f (a0 a1 : D) : b__law_row_fits_3c3f a0 a1 = (do let t75 ← (DL.ask ((notInD (.str [42, 42]) a0).bind bOf)); seqF (if t75 = true then (do let v17 ← (andV (do let x10 ← (DL.ask (lenD [a0])); let y11 ← (DL.ask (lenD [a1])); DL.ask (eqD x10 y11)) (Mo.lift (m__law_all_fit_d024 [a0, a1]))); pure (.rt v17)) else (pure (.nx ()))) fun (q3 : Unit) => (do let _ ← DL.ask (lstOf a0); let v18 ← (DL.ask (indexLD a0 (.str [42, 42]))); let i24 ← DL.ask (intOf v18); let v21 ← (DL.ask (sliceD a0 none (some i24))); let x30 ← (DL.ask (addD v18 (.int 1))); let i31 ← DL.ask (intOf x30); let v22 ← (DL.ask (sliceD a0 (some i31) none)); let x46 ← (DL.ask (lenD [a1])); let x44 ← (DL.ask (lenD [v21])); let y45 ← (DL.ask (lenD [v22])); let y47 ← (DL.ask (addD x44 y45)); let t74 ← (DL.ask ((ltD x46 y47).bind bOf)); seqF (if t74 = true then (pure (.rt (.bl false))) else (pure (.nx ()))) fun (q48 : Unit) => (do let v73 ← (andV (Mo.lift (m__law_all_fit_d024 [v21, a1])) (do let x61 ← (DL.ask (lenD [a1])); let y62 ← (DL.ask (lenD [v22])); let x63 ← (DL.ask (subD x61 y62)); let i64 ← DL.ask (intOf x63); let x68 ← (DL.ask (sliceD a1 (some i64) none)); Mo.lift (m__law_all_fit_d024 [v22, x68]))); pure (.rt v73)))) := by
  unfold b__law_row_fits_3c3f; simp only [pure_bind, bind_assoc, mkL]
def m__law_row_fits_3c3f : List D → R D := apR2 fun a0 a1 => (runR false (b__law_row_fits_3c3f a0 a1))
def fitN (x l : List Nat) : Bool := match TL.par [42] [] x with
  | none => decide (x = l)
  | some (h, t) => decide (h.length + t.length ≤ l.length) && (decide (l.take h.length = h) && decide (l.drop (l.length - t.length) = t))
theorem beq_eq (a b : List Nat) : (a == b) = decide (a = b) := by
  rw [Bool.eq_iff_iff]
  simp
theorem starts_eq (a b : List Nat) : PySem.Txt.startswith ⟨a.toArray⟩ ⟨b.toArray⟩ = (decide (b.length ≤ a.length) && decide (a.take b.length = b)) := by
  unfold PySem.Txt.startswith
  rw [StrLaws.subAt_eq]
  simp [Str.length]
  rw [beq_eq]
theorem ends_eq (a b : List Nat) : PySem.Txt.endswith ⟨a.toArray⟩ ⟨b.toArray⟩ = (decide (b.length ≤ a.length) && decide ((a.drop (a.length - b.length)).take b.length = b)) := by
  unfold PySem.Txt.endswith
  rw [StrLaws.subAt_eq]
  simp [Str.length]
  rw [beq_eq]
theorem par_none_iff {x : List Nat} {c : Nat} (h : TL.par [c] [] x = none) : c ∉ x := fun m => by
  rw [par_ix m] at h
  cases h
theorem par_some_mem {x p q : List Nat} {c : Nat} (h : TL.par [c] [] x = some (p, q)) : c ∈ x := by
  have e := par_eq h
  rw [List.nil_append] at e
  rw [e]
  simp
theorem label_fits43 {x l : List Nat} (hx : x.length ≤ 1000) (hl : l.length ≤ 1000) : m_label_fits_6e5b [.str x, .str l] = .ok (.bl (fitN x l)) := by
  have hp := part_eq (z := x) (S := [42]) (by simp) (by omega)
  have ll : ∀ z : List Nat, lenD [.str z] = some (.int (z.length : Int)) := fun _ => rfl
  unfold m_label_fits_6e5b apR2
  unfold fitN
  cases e : TL.par [42] [] x with
  | none =>
    rw [e] at hp
    have d0 : decide (([] : List Nat) = []) = true := by decide
    simp only [e_label_fits_6e5b, str_of, askR, pure_bind, hp, un3_3, eq_ss, decide_true, Option.bind_some, bOf_bl, if_true]
    rfl
  | some pq =>
    obtain ⟨p, q⟩ := pq
    rw [e] at hp
    have d0 : decide (([42] : List Nat) = []) = false := by decide
    have ge : geD (.int (l.length : Int)) (.int ((p.length : Int) + (q.length : Int))) = some (.bl (decide (p.length + q.length ≤ l.length))) := by
      show some (D.bl (decide ((p.length : Int) + (q.length : Int) ≤ (l.length : Int)))) = _
      by_cases c : p.length + q.length ≤ l.length
      · rw [decide_eq_true c, decide_eq_true (show (p.length : Int) + (q.length : Int) ≤ (l.length : Int) by omega)]
      · rw [decide_eq_false c, decide_eq_false (show ¬ (p.length : Int) + (q.length : Int) ≤ (l.length : Int) by omega)]
    have st : strM (fun a b => .bl (PySem.Txt.startswith ⟨a.toArray⟩ ⟨b.toArray⟩)) (.str l) (.str p) = some (.bl (decide (p.length ≤ l.length) && decide (l.take p.length = p))) := congrArg (fun b => some (D.bl b)) (starts_eq l p)
    have en : strM (fun a b => .bl (PySem.Txt.endswith ⟨a.toArray⟩ ⟨b.toArray⟩)) (.str l) (.str q) = some (.bl (decide (q.length ≤ l.length) && decide ((l.drop (l.length - q.length)).take q.length = q))) := congrArg (fun b => some (D.bl b)) (ends_eq l q)
    simp only [e_label_fits_6e5b, str_of, askR, pure_bind, hp, un3_3, eq_ss, d0, Option.bind_some, bOf_bl, Bool.false_eq_true, if_false, sqp, ll, add_ii, andV, ge, tru_bl, st, en]
    by_cases h1 : p.length + q.length ≤ l.length
    · have h2 : p.length ≤ l.length := by omega
      have h3 : q.length ≤ l.length := by omega
      have h4 : (l.drop (l.length - q.length)).take q.length = l.drop (l.length - q.length) := List.take_of_length_le (by rw [List.length_drop]; omega)
      rw [decide_eq_true h1, decide_eq_true h2, decide_eq_true h3, h4]
      simp only [Bool.true_and, if_true]
      cases decide (l.take p.length = p) <;> rfl
    · rw [decide_eq_false h1]
      rfl
theorem law_fits43 {x l : List Nat} (hx : x.length ≤ 1000) (hl : l.length ≤ 1000) : m__law_fits_b893 [.str x, .str l] = .ok (.bl (fitN x l)) := by
  have hp := part_eq (z := x) (S := [42]) (by simp) (by omega)
  have ll : ∀ z : List Nat, lenD [.str z] = some (.int (z.length : Int)) := fun _ => rfl
  unfold m__law_fits_b893 apR2
  unfold fitN
  cases e : TL.par [42] [] x with
  | none =>
    have hm : (notInD (.str [42]) (.str x)).bind bOf = some true := by rw [notin_sign, decide_eq_false (par_none_iff e)]; rfl
    simp only [e__law_fits_b893, hm, askR, pure_bind, if_true, eq_ss]
    rfl
  | some pq =>
    obtain ⟨p, q⟩ := pq
    rw [e] at hp
    have hm : (notInD (.str [42]) (.str x)).bind bOf = some false := by rw [notin_sign, decide_eq_true (par_some_mem e)]; rfl
    have lt : (ltD (.int (l.length : Int)) (.int ((p.length : Int) + (q.length : Int)))).bind bOf = some (decide (¬ p.length + q.length ≤ l.length)) := by
      rw [lti]
      congr 2
      simp only [eq_iff_iff]
      omega
    have c1 : cutL l none (some (p.length : Int)) = l.take p.length := cut_to
    simp only [e__law_fits_b893, hm, askR, pure_bind, Bool.false_eq_true, if_false, sqp, str_of, hp, un3_3, ll, add_ii, lt]
    by_cases h1 : p.length + q.length ≤ l.length
    · have c2 : cutL l (some ((l.length : Int) - (q.length : Int))) none = l.drop (l.length - q.length) := by
        rw [cut_lo (by omega)]
        congr 1
        omega
      have d : decide (¬ p.length + q.length ≤ l.length) = false := decide_eq_false (by omega)
      simp only [d, Bool.false_eq_true, if_false, sqp, int_of, slice_s, c1, askR, pure_bind, andV, eq_ss, tru_bl, sub_ii, c2]
      rw [decide_eq_true h1, Bool.true_and]
      cases decide (l.take p.length = p) <;> rfl
    · have d : decide (¬ p.length + q.length ≤ l.length) = true := decide_eq_true h1
      simp only [d, if_true, decide_eq_false h1]
      rfl
def zfit (h R : List (List Nat)) : Bool := (h.zip R).all fun p => fitN p.1 p.2
def pr2 (p : List Nat × List Nat) : D := .tup [.str p.1, .str p.2]
theorem zipL_strs : ∀ (h R : List (List Nat)), zipL (h.map D.str) (R.map D.str) = (h.zip R).map pr2
  | [], _ => rfl
  | _ :: _, [] => rfl
  | x :: h, y :: R => by
    show D.tup [.str x, .str y] :: zipL (h.map D.str) (R.map D.str) = _
    rw [zipL_strs h R]
    rfl
def badP : D → Bool
  | .tup [.str x, .str l] => !fitN x l
  | _ => false
def sndD : D → D
  | .tup [_, b] => b
  | d => d
def prD : D → D × D
  | .tup [a, b] => (a, b)
  | d => (d, d)
theorem bad_filter (ps : List (List Nat × List Nat)) : (((ps.map pr2).filter badP).map sndD).isEmpty = ps.all fun p => fitN p.1 p.2 := by
  induction ps with
  | nil => rfl
  | cons p r ih =>
    rw [List.map_cons, List.all_cons]
    cases h : fitN p.1 p.2 with
    | true =>
      have e : ¬ badP (pr2 p) = true := by show ¬ (!fitN p.1 p.2) = true; rw [h]; simp
      rw [List.filter_cons_of_neg e, ih, Bool.true_and]
    | false =>
      have e : badP (pr2 p) = true := by show (!fitN p.1 p.2) = true; rw [h]; rfl
      rw [List.filter_cons_of_pos e]
      rfl
def Sh (A : List (List Nat)) : Prop := ∀ z ∈ A, z.length ≤ 1000
def rowN (h t : List (List Nat)) (g : Bool) (R : List (List Nat)) : Bool := decide (h.length + t.length ≤ R.length) && ((g || decide (R.length ≤ h.length)) && (zfit h R && zfit t (R.drop (R.length - t.length))))
theorem walk43 (ps : List (List Nat × List Nat)) (hs : ∀ p ∈ ps, p.1.length ≤ 1000 ∧ p.2.length ≤ 1000) : (lcF un2 (fun (c55 : D × D) => (DL.notM (do let x61 ← (Mo.lift (m_label_fits_6e5b [c55.1, c55.2])); DL.ask (truD x61)))) (fun (c55 : D × D) => (pure c55.2)) (ps.map pr2) : R (List D)) = .ok (((ps.map pr2).filter badP).map sndD) := by
  refine lcR (u := un2) (xe := fun c55 : D × D => (pure c55.2 : R D)) (c := prD) (p := badP) (f := sndD) (ps.map pr2) (fun d m => ?_) (fun d m => ?_) (fun d m _ => ?_)
  · obtain ⟨p, hp, rfl⟩ := List.mem_map.mp m
    rfl
  · obtain ⟨p, hp, rfl⟩ := List.mem_map.mp m
    obtain ⟨h1, h2⟩ := hs p hp
    show (DL.notM (do let x61 ← (Mo.lift (m_label_fits_6e5b [.str p.1, .str p.2])); DL.ask (truD x61)) : R Bool) = .ok (!fitN p.1 p.2)
    simp only [DL.notM, label_fits43 h1 h2, lift_pR, okpR, pure_bind, tru_bl, askR]
  · obtain ⟨p, hp, rfl⟩ := List.mem_map.mp m
    rfl
theorem zip_sh {A B : List (List Nat)} (hA : Sh A) (hB : Sh B) : ∀ p ∈ A.zip B, p.1.length ≤ 1000 ∧ p.2.length ≤ 1000 := fun p m => ⟨hA _ (List.of_mem_zip m).1, hB _ (List.of_mem_zip m).2⟩
theorem row_fits43 {h t R : List (List Nat)} {g : Bool} (hh : Sh h) (ht : Sh t) (hR : Sh R) (l1 : h.length ≤ 1000) (l2 : t.length ≤ 1000) (l3 : R.length ≤ 1000) : m_row_fits_a0db [.tup [.tup (h.map .str), .tup (t.map .str), .bl g], .tup (R.map .str)] = .ok (.bl (rowN h t g R)) := by
  have ll : ∀ xs : List (List Nat), lenD [.tup (xs.map D.str)] = some (.int (xs.length : Int)) := fun xs => by
    show some (D.int ((xs.map D.str).length : Int)) = _
    rw [List.length_map]
  have lt : (ltD (.int (R.length : Int)) (.int ((h.length : Int) + (t.length : Int)))).bind bOf = some (decide (¬ h.length + t.length ≤ R.length)) := by
    rw [lti]
    congr 2
    simp only [eq_iff_iff]
    omega
  have gt : (gtD (.int (R.length : Int)) (.int (h.length : Int))).bind bOf = some (decide (¬ R.length ≤ h.length)) := by
    rw [gti]
    congr 2
    simp only [eq_iff_iff]
    omega
  unfold m_row_fits_a0db apR2
  simp only [e_row_fits_a0db, un3_3, askR, pure_bind, ll, add_ii, lt, DL.orM]
  unfold rowN
  by_cases c1 : h.length + t.length ≤ R.length
  · have d1 : decide (¬ h.length + t.length ≤ R.length) = false := decide_eq_false (by omega)
    simp only [d1, Bool.false_eq_true, if_false, decide_eq_true c1, Bool.true_and, tru_bl, askR, gt]
    by_cases c2 : (g || decide (R.length ≤ h.length)) = true
    · have d2 : (DL.andM (DL.notM (pure g)) (pure (decide (¬ R.length ≤ h.length))) : DL.R Bool) = pure false := by
        cases g with
        | true => rfl
        | false =>
          have : R.length ≤ h.length := by simpa using c2
          simp only [DL.andM, DL.notM, pure_bind, Bool.not_false, if_true, decide_eq_false (show ¬ ¬ R.length ≤ h.length from fun q => q this)]
      rw [d2, c2]
      have cd : cutL (R.map D.str) (some ((R.length : Int) - (t.length : Int))) none = (R.drop (R.length - t.length)).map D.str := by
        rw [cut_lo (by omega), List.map_drop]
        congr 1
        omega
      have z1 : zipLD [.tup (h.map D.str), .tup (R.map D.str)] = some (.lst ((h.zip R).map pr2)) := by
        show some (D.lst (zipL (h.map D.str) (R.map D.str))) = _
        rw [zipL_strs]
      have z2 : zipLD [.tup (t.map D.str), .tup ((R.drop (R.length - t.length)).map D.str)] = some (.lst ((t.zip (R.drop (R.length - t.length))).map pr2)) := by
        show some (D.lst (zipL (t.map D.str) _)) = _
        rw [zipL_strs]
      have ea : addD (.lst ((h.zip R).map pr2)) (.lst ((t.zip (R.drop (R.length - t.length))).map pr2)) = some (.lst ((h.zip R ++ t.zip (R.drop (R.length - t.length))).map pr2)) := by
        rw [add_ll (by simp only [List.length_map, List.length_zip]; omega), List.map_append]
      have hw := walk43 (h.zip R ++ t.zip (R.drop (R.length - t.length))) fun p m => by
        rcases List.mem_append.mp m with m | m
        · exact zip_sh hh hR p m
        · exact zip_sh ht (fun z q => hR z (List.mem_of_mem_drop q)) p m
      simp only [pure_bind, Bool.false_eq_true, if_false, sqp, z1, sub_ii, int_of, slice_t, cd, z2, ea, it_lst, askR]
      rw [hw]
      show DL.R.ok (D.bl (!(!(List.map sndD (List.filter badP _)).isEmpty))) = _
      rw [Bool.not_not, bad_filter, List.all_append]
      simp only [Bool.true_and]
      rfl
    · have c2' : (g || decide (R.length ≤ h.length)) = false := by simpa using c2
      have d2 : (DL.andM (DL.notM (pure g)) (pure (decide (¬ R.length ≤ h.length))) : DL.R Bool) = pure true := by
        simp only [Bool.or_eq_false_iff, decide_eq_false_iff_not] at c2'
        obtain ⟨rfl, q⟩ := c2'
        simp only [DL.andM, DL.notM, pure_bind, Bool.not_false, if_true, decide_eq_true q]
      rw [d2, c2']
      rfl
  · have d1 : decide (¬ h.length + t.length ≤ R.length) = true := decide_eq_true c1
    simp only [d1, if_true, pure_bind, decide_eq_false c1, Bool.false_and]
    rfl
theorem all_fit43 {A B : List (List Nat)} (hA : Sh A) (hB : Sh B) : m__law_all_fit_d024 [.lst (A.map .str), .lst (B.map .str)] = .ok (.bl (zfit A B)) := by
  have z : zipD [.lst (A.map D.str), .lst (B.map D.str)] = some ((A.zip B).map pr2) := by
    show some (zipL (A.map D.str) (B.map D.str)) = _
    rw [zipL_strs]
  have hw : (lcF un2 (fun (c7 : D × D) => pure true) (fun (c7 : D × D) => (Mo.lift (m__law_fits_b893 [c7.1, c7.2]))) ((A.zip B).map pr2) : R (List D)) = .ok ((A.zip B).map fun p => .bl (fitN p.1 p.2)) := by
    refine (lcR (u := un2) (xt := fun _ : D × D => (pure true : R Bool)) (xe := fun c7 : D × D => (Mo.lift (m__law_fits_b893 [c7.1, c7.2]) : R D)) (c := prD) (p := fun _ => true) (f := fun d => match d with | .tup [.str x, .str l] => .bl (fitN x l) | d => d) ((A.zip B).map pr2) (fun d m => ?_) (fun d m => rfl) (fun d m _ => ?_)).trans ?_
    · obtain ⟨p, hp, rfl⟩ := List.mem_map.mp m
      rfl
    · obtain ⟨p, hp, rfl⟩ := List.mem_map.mp m
      obtain ⟨h1, h2⟩ := zip_sh hA hB p hp
      show (Mo.lift (m__law_fits_b893 [.str p.1, .str p.2]) : R D) = _
      rw [law_fits43 h1 h2]
      rfl
    · rw [List.filter_eq_self.mpr (fun _ _ => rfl), List.map_map]
      rfl
  unfold m__law_all_fit_d024 apR2
  simp only [e__law_all_fit_d024, z, askR, pure_bind]
  rw [hw]
  simp only [okpR, pure_bind, all_map, askR]
  rfl
theorem notin_L {k : Nat} {z : List Nat} {S : List (List Nat)} (h : Tx k z) (hz : ∀ w ∈ S, Tx 1000 w) : (notInD (.str z) (.lst (S.map .str))).bind bOf = some (!decide (z ∈ S)) := by
  have e := in_strs h hz
  unfold inD at e
  unfold notInD
  cases q : inP (.str z) (.lst (S.map .str)) with
  | none => rw [q] at e; cases e
  | some b =>
    rw [q] at e
    cases e
    rfl
theorem ch_small43 : ∀ c ∈ CH, c < 1114112 := by decide
theorem it_tx {z : List Nat} (h : z = gp ∨ isIt z = true) : Tx 1000 z := ⟨by have := it_len h; omega, fun c m => Nat.lt_of_not_le fun q => it_free h (s := c) (fun x => by have := ch_small43 c x; omega) (by omega) m⟩
theorem strs_map : ∀ A : List (List Nat), strsOf (A.map D.str) = some A
  | [] => rfl
  | z :: r => by
    show (strsOf (r.map D.str)).map (z :: ·) = _
    rw [strs_map r]
    rfl
theorem idx_gap {A B : List (List Nat)} (h : gp ∉ A) : (A ++ gp :: B).idxOf gp = A.length := by
  induction A with
  | nil => simp
  | cons x r ih =>
    have hx : (x == gp) = false := by
      simp only [beq_eq_false_iff_ne, ne_eq]
      exact fun e => h (by rw [e]; exact .head _)
    rw [List.cons_append, List.idxOf_cons, hx, ih fun m => h (.tail _ m)]
    rfl
theorem law_row43 {l0 l1 mh mt : Nat} {I h t R : List (List Nat)} {g : Bool} (p : PatI l0 l1 mh mt I h t g) (hR : Sh R) (hl : I.length ≤ 1000) (hr : R.length ≤ 1000) : m__law_row_fits_3c3f [.lst (I.map .str), .lst (R.map .str)] = .ok (.bl (rowN h t g R)) := by
  have pm := pat_mem p
  have hI : Sh I := fun z m => (it_tx (pm z m)).1
  have hn := notin_L (k := 2) (z := gp) ⟨by decide, by decide⟩ (fun w m => it_tx (pm w m))
  have ll : ∀ xs : List (List Nat), lenD [.lst (xs.map D.str)] = some (.int (xs.length : Int)) := fun xs => by
    show some (D.int ((xs.map D.str).length : Int)) = _
    rw [List.length_map]
  obtain ⟨hz, ⟨rfl, rfl, rfl, h0, h1⟩ | ⟨rfl, rfl, h0, h1⟩⟩ := p
  · have ng : gp ∉ I := fun m => it_gap (hz _ (by simpa using m)) rfl
    rw [decide_eq_false ng] at hn
    have hn' : (notInD (.str [42, 42]) (.lst (I.map D.str))).bind bOf = some true := hn
    unfold m__law_row_fits_3c3f apR2
    simp only [e__law_row_fits_3c3f, hn', askR, pure_bind, if_true, ll, eq_i, andV, tru_bl, all_fit43 hI hR, lift_pR, okpR]
    unfold rowN
    have zn : zfit [] (R.drop (R.length - ([] : List (List Nat)).length)) = true := rfl
    rw [zn]
    by_cases c : I.length = R.length
    · have c' : decide ((I.length : Int) = (R.length : Int)) = true := decide_eq_true (by omega)
      rw [c', decide_eq_true (show I.length + ([] : List (List Nat)).length ≤ R.length by simp; omega), decide_eq_true (show R.length ≤ I.length by omega)]
      simp
      rfl
    · have c' : decide ((I.length : Int) = (R.length : Int)) = false := decide_eq_false (by omega)
      rw [c']
      have : (decide (I.length + ([] : List (List Nat)).length ≤ R.length) && ((false || decide (R.length ≤ I.length)) && (zfit I R && true))) = false := by
        by_cases c1 : I.length ≤ R.length
        · rw [decide_eq_false (show ¬ R.length ≤ I.length by omega)]
          simp
        · rw [decide_eq_false (show ¬ I.length + ([] : List (List Nat)).length ≤ R.length by simp; omega)]
          rfl
      rw [this]
      rfl
  · have na : gp ∉ h := fun m => it_gap (hz _ (List.mem_append_left _ m)) rfl
    rw [decide_eq_true (show gp ∈ h ++ gp :: t by simp)] at hn
    have hn' : (notInD (.str [42, 42]) (.lst ((h ++ gp :: t).map D.str))).bind bOf = some false := hn
    have hi : indexLD (.lst ((h ++ gp :: t).map D.str)) (.str [42, 42]) = some (.int (h.length : Int)) := by
      show (match strsOf ((h ++ gp :: t).map D.str) with | some ps => if [42, 42] ∈ ps then some (D.int ((ps.idxOf [42, 42] : Nat) : Int)) else none | none => none) = _
      rw [strs_map]
      show (if gp ∈ h ++ gp :: t then some (D.int (((h ++ gp :: t).idxOf gp : Nat) : Int)) else none) = _
      rw [if_pos (by simp), idx_gap na]
    have lo : lstOf (.lst ((h ++ gp :: t).map D.str)) = some ((h ++ gp :: t).map D.str) := rfl
    have c1 : cutL ((h ++ gp :: t).map D.str) none (some (h.length : Int)) = h.map D.str := by
      rw [cut_toD, ← List.map_take, List.take_left' rfl]
    have c2 : cutL ((h ++ gp :: t).map D.str) (some ((h.length : Int) + 1)) none = t.map D.str := by
      rw [cut_fromD, ← List.map_drop, show h ++ gp :: t = (h ++ [gp]) ++ t by simp, List.drop_left' (by simp)]
    have lt : (ltD (.int (R.length : Int)) (.int ((h.length : Int) + (t.length : Int)))).bind bOf = some (decide (¬ h.length + t.length ≤ R.length)) := by
      rw [lti]
      congr 2
      simp only [eq_iff_iff]
      omega
    have hh : Sh h := fun z m => hI z (List.mem_append_left _ m)
    have htt : Sh t := fun z m => hI z (List.mem_append_right _ (.tail _ m))
    unfold m__law_row_fits_3c3f apR2
    simp only [e__law_row_fits_3c3f, hn', lo, hi, askR, pure_bind, Bool.false_eq_true, if_false, sqp, str_of, int_of, slice_l, c1, add_ii, c2, ll, lt]
    unfold rowN
    by_cases c : h.length + t.length ≤ R.length
    · have d1 : decide (¬ h.length + t.length ≤ R.length) = false := decide_eq_false (by omega)
      have cd : cutL (R.map D.str) (some ((R.length : Int) - (t.length : Int))) none = (R.drop (R.length - t.length)).map D.str := by
        rw [cut_lo (by omega), List.map_drop]
        congr 1
        omega
      simp only [d1, Bool.false_eq_true, if_false, decide_eq_true c, Bool.true_and, Bool.true_or, sqp, andV, all_fit43 hh hR, lift_pR, okpR, pure_bind, tru_bl, askR, sub_ii, int_of, slice_l, cd, all_fit43 htt (fun z m => hR z (List.mem_of_mem_drop m))]
      cases zfit h R <;> rfl
    · have d1 : decide (¬ h.length + t.length ≤ R.length) = true := decide_eq_true c
      simp only [d1, if_true, pure_bind, decide_eq_false c, Bool.false_and]
      rfl
theorem zfit_take : ∀ (h R : List (List Nat)), zfit h R = zfit h (R.take h.length)
  | [], R => rfl
  | x :: h, [] => rfl
  | x :: h, y :: R => by
    show (fitN x y && zfit h R) = (fitN x y && zfit h (R.take h.length))
    rw [zfit_take h R]
theorem zfit_app : ∀ {a b c d : List (List Nat)}, a.length = c.length → zfit (a ++ b) (c ++ d) = (zfit a c && zfit b d)
  | [], b, [], d, _ => by simp [zfit]
  | x :: a, b, y :: c, d, h => by
    show (fitN x y && zfit (a ++ b) (c ++ d)) = ((fitN x y && zfit a c) && zfit b d)
    rw [zfit_app (by simpa using h), Bool.and_assoc]
  | [], _, _ :: _, _, h => by simp at h
  | _ :: _, _, [], _, h => by simp at h
theorem zfit_rev : ∀ {h R : List (List Nat)}, h.length = R.length → zfit h.reverse R.reverse = zfit h R
  | [], [], _ => rfl
  | x :: h, y :: R, e => by
    have e' : h.length = R.length := by simpa using e
    rw [List.reverse_cons, List.reverse_cons, zfit_app (by simpa using e'), zfit_rev e']
    show (zfit h R && (fitN x y && true)) = (fitN x y && zfit h R)
    rw [Bool.and_true, Bool.and_comm]
  | [], _ :: _, h => by simp at h
  | _ :: _, [], h => by simp at h
theorem zfit_back {h A : List (List Nat)} (l : h.length ≤ A.length) : zfit h A.reverse = zfit h.reverse (A.drop (A.length - h.length)) := by
  have e : (A.reverse).take h.length = (A.drop (A.length - h.length)).reverse := by
    rw [List.reverse_drop]
    congr 1
    omega
  have hl : (A.drop (A.length - h.length)).length = h.length := by rw [List.length_drop]; omega
  rw [zfit_take, e]
  have := zfit_rev (h := h.reverse) (R := A.drop (A.length - h.length)) (by rw [List.length_reverse, hl])
  rw [List.reverse_reverse] at this
  exact this
theorem row_back {h t A : List (List Nat)} : rowN h t true A.reverse = rowN t.reverse h.reverse true A := by
  unfold rowN
  simp only [List.length_reverse, Bool.true_or, Bool.true_and]
  by_cases c : h.length + t.length ≤ A.length
  · have c' : t.length + h.length ≤ A.length := by omega
    rw [decide_eq_true c, decide_eq_true c', Bool.true_and, Bool.true_and, zfit_back (by omega)]
    have e : A.reverse.drop (A.length - t.length) = (A.take t.length).reverse := by
      rw [List.reverse_take]
    have hl : (A.take t.length).length = t.length := by rw [List.length_take]; omega
    have z := zfit_rev (h := t.reverse) (R := A.take t.length) (by rw [List.length_reverse, hl])
    rw [List.reverse_reverse] at z
    rw [e, z, zfit_take t.reverse A, List.length_reverse, Bool.and_comm]
  · have c' : ¬ t.length + h.length ≤ A.length := by omega
    rw [decide_eq_false c, decide_eq_false c']
    rfl
theorem row_plain {h A : List (List Nat)} : rowN h [] false A.reverse = rowN h.reverse [] false A := by
  unfold rowN
  have zn : ∀ X : List (List Nat), zfit [] X = true := fun _ => rfl
  simp only [List.length_reverse, zn, Bool.and_true, Bool.false_or, List.length_nil, Nat.add_zero]
  by_cases c : h.length = A.length
  · have e := zfit_rev (h := h.reverse) (R := A) (by rw [List.length_reverse]; exact c)
    rw [List.reverse_reverse] at e
    rw [e]
  · by_cases c1 : h.length ≤ A.length
    · rw [decide_eq_false (show ¬ A.length ≤ h.length by omega)]
      simp
    · rw [decide_eq_false c1]
      rfl
def dueB (sch : List Nat) (i : Int) : D → Bool
  | .tup [.int lo, .int hi] => decide (lo ≤ i) && decide (i ≤ hi)
  | _ => decide (i = dpt sch)
theorem in_any {w sch : List Nat} (hw : Wd w) (hsch : sch = kHttp ∨ sch = kHttps) : (notInD (.str w) (.tup [.str [97, 110, 121], .str sch])).bind bOf = some (!decide (w ∈ [[97, 110, 121], sch])) ∧ (∃ b, b = decide (w ∈ [[97, 110, 121], sch]) ∧ inD (.str w) (.lst [.str [97, 110, 121], .str sch]) = some (.bl b)) := by
  have tx : Tx 5 w := by rcases hw with rfl | rfl | rfl <;> exact ⟨by decide, by decide⟩
  have ta : ∀ z ∈ ([[97, 110, 121], sch] : List (List Nat)), Tx 1000 z := by
    rcases hsch with rfl | rfl <;> exact tx_all (by decide)
  exact ⟨notin_T tx ta, _, rfl, in_strs tx ta⟩
theorem chain_ii {a b c : Int} : (chainM leD leD (pure (.int a)) (pure (.int b)) (pure (.int c)) : R D) = .ok (.bl (decide (a ≤ b) && decide (b ≤ c))) := by
  unfold chainM
  simp only [le_l, askR, pure_bind]
  cases h : decide (a ≤ b)
  · rfl
  · rfl
def fitB (w sch : List Nat) (i : Int) (pd : D) : Bool := decide (w ∈ [[97, 110, 121], sch]) && dueB sch i pd
theorem pat_len {l0 l1 mh mt : Nat} {I h t : List (List Nat)} {g : Bool} (p : PatI l0 l1 mh mt I h t g) (hl : I.length ≤ 10) : h.length ≤ 10 ∧ t.length ≤ 10 ∧ Sh h ∧ Sh t := by
  have pm := pat_mem p
  obtain ⟨hz, ⟨rfl, rfl, rfl, _, _⟩ | ⟨rfl, rfl, _, _⟩⟩ := p
  · exact ⟨hl, by simp, fun z m => (it_tx (pm z m)).1, fun z m => by cases m⟩
  · simp only [List.length_append, List.length_cons] at hl
    exact ⟨by omega, by omega, fun z m => (it_tx (.inr (hz z (List.mem_append_left _ m)))).1, fun z m => (it_tx (.inr (hz z (List.mem_append_right _ m)))).1⟩
theorem pat_back {I h t : List (List Nat)} {g : Bool} (p : PatI 1 4 3 2 I.reverse h t g) : (g = false ∧ PatI 1 4 2 3 I h.reverse [] false ∧ t = []) ∨ (g = true ∧ PatI 1 4 2 3 I t.reverse h.reverse true) := by
  obtain ⟨hz, ⟨rfl, e, rfl, h0, h1⟩ | ⟨rfl, e, h0, h1⟩⟩ := p
  · have e' : I = h.reverse := by rw [← e, List.reverse_reverse]
    exact .inl ⟨rfl, ⟨fun z m => hz z (by simpa using m), .inl ⟨rfl, e', rfl, by simpa using h0, by simpa using h1⟩⟩, rfl⟩
  · have e' : I = t.reverse ++ gp :: h.reverse := by
      have := congrArg List.reverse e
      rw [List.reverse_reverse] at this
      rw [this]
      simp
    exact .inr ⟨rfl, ⟨fun z m => hz z (by
      rcases List.mem_append.mp m with m | m
      · exact List.mem_append_right _ (List.mem_reverse.mp m)
      · exact List.mem_append_left _ (List.mem_reverse.mp m)), .inr ⟨rfl, e', by simpa using h1, by simpa using h0⟩⟩⟩
theorem host43 {I h t A : List (List Nat)} {g : Bool} (p : PatI 1 4 3 2 I.reverse h t g) (hl : I.length ≤ 10) (hA : Sh A) (hl2 : A.length ≤ 1000) : m__law_row_fits_3c3f [.lst (I.map .str), .lst (A.map .str)] = .ok (.bl (rowN h t g A.reverse)) := by
  rcases pat_back p with ⟨rfl, q, rfl⟩ | ⟨rfl, q⟩
  · rw [law_row43 q hA (by omega) hl2, row_plain]
  · rw [law_row43 q hA (by omega) hl2, row_back]
theorem default43 {sch : List Nat} (h : sch = kHttp ∨ sch = kHttps) : m__law_default_6094 [.str sch] = .ok (.int (dpt sch)) := by
  rcases h with rfl | rfl <;> rfl
theorem gate43 {w t sch : List Nat} {pd : D} {i : Int} (hw : Wd w) (ht : Dr t pd) (hsch : sch = kHttp ∨ sch = kHttps) {k : R (Fl Unit Empty)} :
    (do let t91 ← (DL.ask ((notInD (.str w) (.lst [.str [97, 110, 121], .str sch])).bind bOf)); seqF (if t91 = true then (pure (.rt (.bl false))) else (pure (.nx ()))) fun (q12 : Unit) => (do let t90 ← (DL.andM (DL.ask ((isD pd .non).bind bOf)) (do let y20 ← (Mo.lift (m__law_default_6094 [.str sch])); DL.ask ((neD (.int i) y20).bind bOf))); seqF (if t90 = true then (pure (.rt (.bl false))) else (pure (.nx ()))) fun (q21 : Unit) => (do let t89 ← (DL.andM (DL.ask ((isNotD pd .non).bind bOf)) (DL.notM (do let x29 ← (chainM leD leD (DL.ask (ixD pd (.int 0))) (pure (.int i)) (DL.ask (ixD pd (.int 1)))); DL.ask (bOf x29)))); seqF (if t89 = true then (pure (.rt (.bl false))) else (pure (.nx ()))) fun (q30 : Unit) => k)) : R (Fl Unit Empty)) = if fitB w sch i pd = true then k else .ok (.rt (.bl false)) := by
  have tx : Tx 5 w := by rcases hw with rfl | rfl | rfl <;> exact ⟨by decide, by decide⟩
  have ta : ∀ z ∈ ([[97, 110, 121], sch] : List (List Nat)), Tx 1000 z := by
    rcases hsch with rfl | rfl <;> exact tx_all (by decide)
  have hin : (notInD (.str w) (.lst [.str [97, 110, 121], .str sch])).bind bOf = some (!decide (w ∈ [[97, 110, 121], sch])) := notin_L tx ta
  rw [hin]
  unfold fitB
  cases hb : decide (w ∈ [[97, 110, 121], sch]) with
  | false => rfl
  | true =>
    simp only [Bool.not_true, askR, pure_bind, Bool.false_eq_true, if_false, sqp, Bool.true_and]
    rcases ht with ⟨rfl, rfl⟩ | ⟨u, lo, hi, rfl, rfl, h1, h2, h3, _⟩
    · have isn : isD .non .non = some (.bl true) := rfl
      have isnn : isNotD .non .non = some (.bl false) := rfl
      have ne : (neD (.int i) (.int (dpt sch))).bind bOf = some (!decide (i = dpt sch)) := rfl
      simp only [isn, isnn, Option.bind_some, bOf_bl, askR, DL.andM, pure_bind, if_true, default43 hsch, lift_pR, okpR, ne, dueB]
      by_cases c : i = dpt sch
      · simp only [decide_eq_true c, Bool.not_true, Bool.false_eq_true, if_false, if_true]
        rfl
      · simp only [decide_eq_false c, Bool.not_false, Bool.false_eq_true, if_false, if_true]
        rfl
    · have isn : isD (iPd lo hi) .non = some (.bl false) := rfl
      have isnn : isNotD (iPd lo hi) .non = some (.bl true) := rfl
      have x0 : ixD (iPd lo hi) (.int 0) = some (.int lo) := rfl
      have x1 : ixD (iPd lo hi) (.int 1) = some (.int hi) := rfl
      have e : dueB sch i (iPd lo hi) = (decide (lo ≤ i) && decide (i ≤ hi)) := rfl
      rw [e]
      simp only [isn, isnn, Option.bind_some, bOf_bl, askR, DL.andM, DL.notM, pure_bind, Bool.false_eq_true, if_false, if_true, sqp, x0, x1, chain_ii, okpR]
      by_cases c : (decide (lo ≤ i) && decide (i ≤ hi)) = true
      · simp only [c, Bool.not_true, Bool.false_eq_true, if_false, if_true]
        rfl
      · have c' : (decide (lo ≤ i) && decide (i ≤ hi)) = false := by simpa using c
        simp only [c', Bool.not_false, Bool.false_eq_true, if_false, if_true]
        rfl
def Labs (R : List (List Nat)) : Prop := ∀ z ∈ R, isLab 20 z = true
end FN
namespace FN
open DL PySem PySem.W
def c_EXCEPTION : D := (.str [101, 120, 99, 101, 112, 116, 105, 111, 110])
def c_MOST_LABELS_OF_ROW : D := (.int (3))
def c_PLAIN : D := (.str [112, 108, 97, 105, 110])
def c_WILD : D := (.str [111, 112, 101, 110])
def b_ends_with_d715 (a0 a1 : D) : R (Fl Unit Empty) := (do let v24 ← (andV (do let x7 ← (do let r3 ← (do let x1 ← (pure a0); let r2 ← pure []; pure (x1 :: r2)); DL.ask (lenD r3)); let y8 ← (do let r6 ← (do let x4 ← (pure a1); let r5 ← pure []; pure (x4 :: r5)); DL.ask (lenD r6)); DL.ask (geD x7 y8)) (do let x22 ← (do let x19 ← (pure a0); let l20 ← (do let x17 ← (do let x15 ← (do let r11 ← (do let x9 ← (pure a0); let r10 ← pure []; pure (x9 :: r10)); DL.ask (lenD r11)); let y16 ← (do let r14 ← (do let x12 ← (pure a1); let r13 ← pure []; pure (x12 :: r13)); DL.ask (lenD r14)); DL.ask (subD x15 y16)); let i18 ← DL.ask (intOf x17); pure (some i18)); let u21 ← (pure none); DL.ask (sliceD x19 l20 u21)); let y23 ← (pure a1); DL.ask (eqD x22 y23))); pure (.rt v24))
theorem e_ends_with_d715 (a0 a1 : D) : b_ends_with_d715 a0 a1 = (do let v24 ← (andV (do let x7 ← (DL.ask (lenD [a0])); let y8 ← (DL.ask (lenD [a1])); DL.ask (geD x7 y8)) (do let x15 ← (DL.ask (lenD [a0])); let y16 ← (DL.ask (lenD [a1])); let x17 ← (DL.ask (subD x15 y16)); let i18 ← DL.ask (intOf x17); let x22 ← (DL.ask (sliceD a0 (some i18) none)); DL.ask (eqD x22 a1))); pure (.rt v24)) := by
  unfold b_ends_with_d715; simp only [pure_bind, bind_assoc, mkL]
def m_ends_with_d715 : List D → R D := apR2 fun a0 a1 => (runR false (b_ends_with_d715 a0 a1))
def b_Pattern_shape_d275 (a0 : D) : R (Fl Unit Empty) := (do let v12 ← (do let r10 ← (do let x8 ← (do let x1 ← (pure a0); DL.ask (fldD ["HostPattern", "PathPattern"] "head" x1)); let r9 ← (do let x6 ← (do let x2 ← (pure a0); DL.ask (fldD ["HostPattern", "PathPattern"] "tail" x2)); let r7 ← (do let x4 ← (do let x3 ← (pure a0); DL.ask (fldD ["HostPattern", "PathPattern"] "gap" x3)); let r5 ← pure []; pure (x4 :: r5)); pure (x6 :: r7)); pure (x8 :: r9)); let r11 ← DL.ask (szL r10); pure (.tup r11)); pure (.rt v12))
def m_Pattern_shape_d275 : List D → R D := apR1 fun a0 => (runR false (b_Pattern_shape_d275 a0))
def b_parsed_row_b892 (a0 : D) : R (Fl Unit Empty) := (do let t76 ← (DL.notM (do let x2 ← (do let x1 ← (pure a0); DL.ask (isiD "str" x1)); DL.ask (truD x2))); seqF (if t76 = true then (do let v4 ← (pure .non); pure (.rt v4)) else (pure (.nx ()))) fun (q3 : Unit) => (do let v5 ← (do let r15 ← (do let x13 ← (pure c_PLAIN); let r14 ← (do let x11 ← (pure a0); let r12 ← (do let x9 ← (pure (.int 1)); let r10 ← (do let x7 ← (pure c_MOST_LABELS_OF_ROW); let r8 ← pure []; pure (x7 :: r8)); pure (x9 :: r10)); pure (x11 :: r12)); pure (x13 :: r14)); let r16 ← DL.ask (szL r15); pure (.tup r16)); let c6 ← DL.ask ((unN 4) v5); (do let t75 ← (do let x19 ← (do let x17 ← (pure a0); let _ ← DL.ask (strOf x17); let y18 ← (pure (.str [33])); DL.ask (strM (fun a b => .bl (PySem.Txt.startswith ⟨a.toArray⟩ ⟨b.toArray⟩)) x17 y18)); DL.ask (truD x19)); seqF (if t75 = true then (do let v27 ← (pure c_EXCEPTION); let v28 ← (do let x24 ← (pure a0); let l25 ← (do let x22 ← (pure (.int 1)); let i23 ← DL.ask (intOf x22); pure (some i23)); let u26 ← (pure none); DL.ask (sliceD x24 l25 u26)); let v29 ← (pure (.int 2)); (pure (.nx (v27, v28, v29, (c6.getD 3 .non))))) else (do let t45 ← (do let x32 ← (do let x30 ← (pure a0); let _ ← DL.ask (strOf x30); let y31 ← (pure (.str [42, 46])); DL.ask (strM (fun a b => .bl (PySem.Txt.startswith ⟨a.toArray⟩ ⟨b.toArray⟩)) x30 y31)); DL.ask (truD x32)); seqF (if t45 = true then (do let v42 ← (pure c_WILD); let v43 ← (do let x37 ← (pure a0); let l38 ← (do let x35 ← (pure (.int 2)); let i36 ← DL.ask (intOf x35); pure (some i36)); let u39 ← (pure none); DL.ask (sliceD x37 l38 u39)); let v44 ← (do let x40 ← (pure c_MOST_LABELS_OF_ROW); let y41 ← (pure (.int 1)); DL.ask (subD x40 y41)); (pure (.nx (v42, v43, v44)))) else (pure (.nx ((c6.getD 0 .non), (c6.getD 1 .non), (c6.getD 3 .non))))) fun (q33 : D × D × D) => (pure (.nx (q33.1, q33.2.1, (c6.getD 2 .non), q33.2.2))))) fun (q20 : D × D × D × D) => (do let v46 ← (do let r51 ← (do let x49 ← (mkL (do let x47 ← (pure q20.2.1); let _ ← DL.ask (strOf x47); let y48 ← (pure (.str [46])); DL.ask (splitD x47 y48))); let r50 ← pure []; pure (x49 :: r50)); DL.ask (tupleD r51)); (do let t74 ← (DL.orM (DL.notM (do let x55 ← (chainM leD leD (pure q20.2.2.1) (do let r54 ← (do let x52 ← (pure v46); let r53 ← pure []; pure (x52 :: r53)); DL.ask (lenD r54)) (pure q20.2.2.2)); DL.ask (bOf x55))) (do let x64 ← (mkL (do let r63 ← (do let r56 ← (pure v46); DL.ask (itD r56)); lcF (fun d => some d) (fun (c58 : D) => (DL.notM (do let x62 ← (do let r61 ← (do let x59 ← (pure c58); let r60 ← pure []; pure (x59 :: r60)); Mo.lift (m_is_label_344b r61)); DL.ask (truD x62)))) (fun (c58 : D) => (pure c58)) r63)); DL.ask (truD x64))); seqF (if t74 = true then (do let v66 ← (pure .non); pure (.rt v66)) else (pure (.nx ()))) fun (q65 : Unit) => (do let v73 ← (do let r71 ← (do let x69 ← (pure q20.1); let r70 ← (do let x67 ← (pure v46); let r68 ← pure []; pure (x67 :: r68)); pure (x69 :: r70)); let r72 ← DL.ask (szL r71); pure (.tup r72)); pure (.rt v73)))))))
theorem e_parsed_row_b892 (a0 : D) : b_parsed_row_b892 a0 = (do let t76 ← (DL.notM (do let x2 ← (DL.ask (isiD "str" a0)); DL.ask (truD x2))); seqF (if t76 = true then (pure (.rt .non)) else (pure (.nx ()))) fun (q3 : Unit) => (do let r16 ← DL.ask (szL [c_PLAIN, a0, (.int 1), c_MOST_LABELS_OF_ROW]); let c6 ← DL.ask ((unN 4) (.tup r16)); let _ ← DL.ask (strOf a0); let x19 ← (DL.ask (strM (fun a b => .bl (PySem.Txt.startswith ⟨a.toArray⟩ ⟨b.toArray⟩)) a0 (.str [33]))); let t75 ← (DL.ask (truD x19)); seqF (if t75 = true then (do let i23 ← DL.ask (intOf (.int 1)); let v28 ← (DL.ask (sliceD a0 (some i23) none)); (pure (.nx (c_EXCEPTION, v28, (.int 2), (c6.getD 3 .non))))) else (do let _ ← DL.ask (strOf a0); let x32 ← (DL.ask (strM (fun a b => .bl (PySem.Txt.startswith ⟨a.toArray⟩ ⟨b.toArray⟩)) a0 (.str [42, 46]))); let t45 ← (DL.ask (truD x32)); seqF (if t45 = true then (do let i36 ← DL.ask (intOf (.int 2)); let v43 ← (DL.ask (sliceD a0 (some i36) none)); let v44 ← (DL.ask (subD c_MOST_LABELS_OF_ROW (.int 1))); (pure (.nx (c_WILD, v43, v44)))) else (pure (.nx ((c6.getD 0 .non), (c6.getD 1 .non), (c6.getD 3 .non))))) fun (q33 : D × D × D) => (pure (.nx (q33.1, q33.2.1, (c6.getD 2 .non), q33.2.2))))) fun (q20 : D × D × D × D) => (do let _ ← DL.ask (strOf q20.2.1); let x49 ← (DL.ask (splitD q20.2.1 (.str [46]))); let v46 ← (DL.ask (tupleD [(.lst x49)])); let t74 ← (DL.orM (DL.notM (do let x55 ← (chainM leD leD (pure q20.2.2.1) (DL.ask (lenD [v46])) (pure q20.2.2.2)); DL.ask (bOf x55))) (do let r63 ← (DL.ask (itD v46)); let x64 ← (lcF (fun d => some d) (fun (c58 : D) => (DL.notM (do let x62 ← (Mo.lift (m_is_label_344b [c58])); DL.ask (truD x62)))) (fun (c58 : D) => (pure c58)) r63); DL.ask (truD (.lst x64)))); seqF (if t74 = true then (pure (.rt .non)) else (pure (.nx ()))) fun (q65 : Unit) => (do let r72 ← DL.ask (szL [q20.1, v46]); pure (.rt (.tup r72)))))) := by
  unfold b_parsed_row_b892; simp only [pure_bind, bind_assoc, mkL]
def m_parsed_row_b892 : List D → R D := apR1 fun a0 => (runR false (b_parsed_row_b892 a0))
def b_ending_size_5148 (a0 a1 : D) : R (Fl Unit Empty) := (do let v1 ← (do let r7 ← (do let x5 ← (pure (.int 1)); let r6 ← (do let x3 ← (pure (.int 0)); let r4 ← pure []; pure (x3 :: r4)); pure (x5 :: r6)); let r8 ← DL.ask (szL r7); pure (.tup r8)); let c2 ← DL.ask (un2 v1); (do let r73 ← (do let r9 ← (pure a0); DL.ask (itD r9)); seqF (forF un2 (fun (q10 : D × D) (c11 : D × D) => (do let t66 ← (DL.notM (do let x17 ← (do let r16 ← (do let x14 ← (pure a1); let r15 ← (do let x12 ← (pure c11.2); let r13 ← pure []; pure (x12 :: r13)); pure (x14 :: r15)); Mo.lift (m_ends_with_d715 r16)); DL.ask (truD x17))); seqF (if t66 = true then (pure (.ct (q10.1, q10.2))) else (pure (.nx ()))) fun (q18 : Unit) => (do let t65 ← (do let x19 ← (pure c11.1); let y20 ← (pure c_EXCEPTION); DL.ask ((eqD x19 y20).bind bOf)); seqF (if t65 = true then (do let v22 ← (do let r30 ← (do let x28 ← (pure q10.2); let r29 ← (do let x26 ← (do let r25 ← (do let x23 ← (pure c11.2); let r24 ← pure []; pure (x23 :: r24)); DL.ask (lenD r25)); let r27 ← pure []; pure (x26 :: r27)); pure (x28 :: r29)); DL.ask (maxD r30)); (pure (.nx (q10.1, v22)))) else (do let t64 ← (do let x31 ← (pure c11.1); let y32 ← (pure c_PLAIN); DL.ask ((eqD x31 y32).bind bOf)); seqF (if t64 = true then (do let v34 ← (do let r42 ← (do let x40 ← (pure q10.1); let r41 ← (do let x38 ← (do let r37 ← (do let x35 ← (pure c11.2); let r36 ← pure []; pure (x35 :: r36)); DL.ask (lenD r37)); let r39 ← pure []; pure (x38 :: r39)); pure (x40 :: r41)); DL.ask (maxD r42)); (pure (.nx v34))) else (do let t63 ← (do let x49 ← (do let r45 ← (do let x43 ← (pure a1); let r44 ← pure []; pure (x43 :: r44)); DL.ask (lenD r45)); let y50 ← (do let r48 ← (do let x46 ← (pure c11.2); let r47 ← pure []; pure (x46 :: r47)); DL.ask (lenD r48)); DL.ask ((gtD x49 y50).bind bOf)); seqF (if t63 = true then (do let v52 ← (do let r62 ← (do let x60 ← (pure q10.1); let r61 ← (do let x58 ← (do let x56 ← (do let r55 ← (do let x53 ← (pure c11.2); let r54 ← pure []; pure (x53 :: r54)); DL.ask (lenD r55)); let y57 ← (pure (.int 1)); DL.ask (addD x56 y57)); let r59 ← pure []; pure (x58 :: r59)); pure (x60 :: r61)); DL.ask (maxD r62)); (pure (.nx v52))) else (pure (.nx q10.1))) fun (q51 : D) => (pure (.nx q51)))) fun (q33 : D) => (pure (.nx (q33, q10.2))))) fun (q21 : D × D) => (pure (.nx (q21.1, q21.2)))))) r73 (c2.1, c2.2)) fun (q67 : D × D) => (do let v72 ← (iteM (do let x68 ← (pure q67.2); let y69 ← (pure (.int 0)); DL.ask ((gtD x68 y69).bind bOf)) (do let x70 ← (pure q67.2); let y71 ← (pure (.int 1)); DL.ask (subD x70 y71)) (pure q67.1)); pure (.rt v72))))
theorem e_ending_size_5148 (a0 a1 : D) : b_ending_size_5148 a0 a1 = (do let r8 ← DL.ask (szL [(.int 1), (.int 0)]); let c2 ← DL.ask (un2 (.tup r8)); let r73 ← (DL.ask (itD a0)); seqF (forF un2 (fun (q10 : D × D) (c11 : D × D) => (do let t66 ← (DL.notM (do let x17 ← (Mo.lift (m_ends_with_d715 [a1, c11.2])); DL.ask (truD x17))); seqF (if t66 = true then (pure (.ct (q10.1, q10.2))) else (pure (.nx ()))) fun (q18 : Unit) => (do let t65 ← (DL.ask ((eqD c11.1 c_EXCEPTION).bind bOf)); seqF (if t65 = true then (do let x26 ← (DL.ask (lenD [c11.2])); let v22 ← (DL.ask (maxD [q10.2, x26])); (pure (.nx (q10.1, v22)))) else (do let t64 ← (DL.ask ((eqD c11.1 c_PLAIN).bind bOf)); seqF (if t64 = true then (do let x38 ← (DL.ask (lenD [c11.2])); let v34 ← (DL.ask (maxD [q10.1, x38])); (pure (.nx v34))) else (do let x49 ← (DL.ask (lenD [a1])); let y50 ← (DL.ask (lenD [c11.2])); let t63 ← (DL.ask ((gtD x49 y50).bind bOf)); seqF (if t63 = true then (do let x56 ← (DL.ask (lenD [c11.2])); let x58 ← (DL.ask (addD x56 (.int 1))); let v52 ← (DL.ask (maxD [q10.1, x58])); (pure (.nx v52))) else (pure (.nx q10.1))) fun (q51 : D) => (pure (.nx q51)))) fun (q33 : D) => (pure (.nx (q33, q10.2))))) fun (q21 : D × D) => (pure (.nx (q21.1, q21.2)))))) r73 (c2.1, c2.2)) fun (q67 : D × D) => (do let v72 ← (iteM (DL.ask ((gtD q67.2 (.int 0)).bind bOf)) (DL.ask (subD q67.2 (.int 1))) (pure q67.1)); pure (.rt v72))) := by
  unfold b_ending_size_5148; simp only [pure_bind, bind_assoc, mkL]
def m_ending_size_5148 : List D → R D := apR2 fun a0 a1 => (runR false (b_ending_size_5148 a0 a1))
def b_door_fits_6b32 (a0 a1 a2 : D) : R (Fl Unit Empty) := (do let t30 ← (do let x8 ← (do let x1 ← (pure a0); DL.ask (fldD ["Page", "Rule"] "scheme" x1)); let y9 ← (do let r6 ← (do let x4 ← (pure (.str [97, 110, 121])); let r5 ← (do let x2 ← (pure a1); let r3 ← pure []; pure (x2 :: r3)); pure (x4 :: r5)); let r7 ← DL.ask (szL r6); pure (.tup r7)); DL.ask ((notInD x8 y9).bind bOf)); seqF (if t30 = true then (do let v11 ← (pure (.bl false)); pure (.rt v11)) else (pure (.nx ()))) fun (q10 : Unit) => (do let t29 ← (do let x13 ← (do let x12 ← (pure a0); DL.ask (fldD ["Rule"] "ports" x12)); let y14 ← (pure .non); DL.ask ((isD x13 y14).bind bOf)); seqF (if t29 = true then (do let v21 ← (do let x19 ← (pure a2); let y20 ← (do let r18 ← (do let x16 ← (pure a1); let r17 ← pure []; pure (x16 :: r17)); Mo.lift (m_default_port_11a4 r18)); DL.ask (eqD x19 y20)); pure (.rt v21)) else (pure (.nx ()))) fun (q15 : Unit) => (do let v28 ← (chainM leD leD (do let x23 ← (do let x22 ← (pure a0); DL.ask (fldD ["Rule"] "ports" x22)); let y24 ← (pure (.int 0)); DL.ask (ixD x23 y24)) (pure a2) (do let x26 ← (do let x25 ← (pure a0); DL.ask (fldD ["Rule"] "ports" x25)); let y27 ← (pure (.int 1)); DL.ask (ixD x26 y27))); pure (.rt v28))))
theorem e_door_fits_6b32 (a0 a1 a2 : D) : b_door_fits_6b32 a0 a1 a2 = (do let x8 ← (DL.ask (fldD ["Page", "Rule"] "scheme" a0)); let r7 ← DL.ask (szL [(.str [97, 110, 121]), a1]); let t30 ← (DL.ask ((notInD x8 (.tup r7)).bind bOf)); seqF (if t30 = true then (pure (.rt (.bl false))) else (pure (.nx ()))) fun (q10 : Unit) => (do let x13 ← (DL.ask (fldD ["Rule"] "ports" a0)); let t29 ← (DL.ask ((isD x13 .non).bind bOf)); seqF (if t29 = true then (do let y20 ← (Mo.lift (m_default_port_11a4 [a1])); let v21 ← (DL.ask (eqD a2 y20)); pure (.rt v21)) else (pure (.nx ()))) fun (q15 : Unit) => (do let v28 ← (chainM leD leD (do let x23 ← (DL.ask (fldD ["Rule"] "ports" a0)); DL.ask (ixD x23 (.int 0))) (pure a2) (do let x26 ← (DL.ask (fldD ["Rule"] "ports" a0)); DL.ask (ixD x26 (.int 1)))); pure (.rt v28)))) := by
  unfold b_door_fits_6b32; simp only [pure_bind, bind_assoc, mkL]
def m_door_fits_6b32 : List D → R D := apR3 fun a0 a1 a2 => (runR false (b_door_fits_6b32 a0 a1 a2))
def b_site_by_dd2e (a0 a1 : D) : R (Fl Unit Empty) := (do let v1 ← (do let r16 ← (do let x14 ← (do let r4 ← (do let x2 ← (pure a1); let r3 ← pure []; pure (x2 :: r3)); DL.ask (lenD r4)); let r15 ← (do let x12 ← (do let x10 ← (do let r9 ← (do let x7 ← (pure a0); let r8 ← (do let x5 ← (pure a1); let r6 ← pure []; pure (x5 :: r6)); pure (x7 :: r8)); Mo.lift (m_ending_size_5148 r9)); let y11 ← (pure (.int 1)); DL.ask (addD x10 y11)); let r13 ← pure []; pure (x12 :: r13)); pure (x14 :: r15)); DL.ask (minD r16)); (do let v27 ← (do let x24 ← (pure a1); let l25 ← (do let x22 ← (do let x20 ← (do let r19 ← (do let x17 ← (pure a1); let r18 ← pure []; pure (x17 :: r18)); DL.ask (lenD r19)); let y21 ← (pure v1); DL.ask (subD x20 y21)); let i23 ← DL.ask (intOf x22); pure (some i23)); let u26 ← (pure none); DL.ask (sliceD x24 l25 u26)); pure (.rt v27)))
theorem e_site_by_dd2e (a0 a1 : D) : b_site_by_dd2e a0 a1 = (do let x14 ← (DL.ask (lenD [a1])); let x10 ← (Mo.lift (m_ending_size_5148 [a0, a1])); let x12 ← (DL.ask (addD x10 (.int 1))); let v1 ← (DL.ask (minD [x14, x12])); let x20 ← (DL.ask (lenD [a1])); let x22 ← (DL.ask (subD x20 v1)); let i23 ← DL.ask (intOf x22); let v27 ← (DL.ask (sliceD a1 (some i23) none)); pure (.rt v27)) := by
  unfold b_site_by_dd2e; simp only [pure_bind, bind_assoc, mkL]
def m_site_by_dd2e : List D → R D := apR2 fun a0 a1 => (runR false (b_site_by_dd2e a0 a1))
def b_site_of_0513 (a0 a1 : D) : R (Fl Unit Empty) := (do let v13 ← (do let r12 ← (do let x10 ← (mkL (do let r7 ← (do let r1 ← (pure a0); DL.ask (itD r1)); lcF (fun d => some d) (fun (c3 : D) => pure true) (fun (c3 : D) => (do let r6 ← (do let x4 ← (pure c3); let r5 ← pure []; pure (x4 :: r5)); Mo.lift (m_parsed_row_b892 r6))) r7)); let r11 ← (do let x8 ← (pure a1); let r9 ← pure []; pure (x8 :: r9)); pure (x10 :: r11)); Mo.lift (m_site_by_dd2e r12)); pure (.rt v13))
theorem e_site_of_0513 (a0 a1 : D) : b_site_of_0513 a0 a1 = (do let r7 ← (DL.ask (itD a0)); let x10 ← (lcF (fun d => some d) (fun (c3 : D) => pure true) (fun (c3 : D) => (Mo.lift (m_parsed_row_b892 [c3]))) r7); let v13 ← (Mo.lift (m_site_by_dd2e [(.lst x10), a1])); pure (.rt v13)) := by
  unfold b_site_of_0513; simp only [pure_bind, bind_assoc, mkL]
def m_site_of_0513 : List D → R D := apR2 fun a0 a1 => (runR false (b_site_of_0513 a0 a1))
def b_host_fits_56fd (a0 a1 a2 : D) : R (Fl Unit Empty) := (do let t29 ← (do let x2 ← (do let x1 ← (pure a0); DL.ask (fldD ["Page", "Rule"] "host" x1)); let y3 ← (pure .non); DL.ask ((isD x2 y3).bind bOf)); seqF (if t29 = true then (do let v18 ← (do let x16 ← (do let r9 ← (do let x7 ← (pure a1); let r8 ← (do let x5 ← (pure a2); let r6 ← pure []; pure (x5 :: r6)); pure (x7 :: r8)); Mo.lift (m_site_of_0513 r9)); let y17 ← (do let r15 ← (do let x13 ← (pure a1); let r14 ← (do let x11 ← (do let x10 ← (pure a0); DL.ask (fldD ["Rule"] "near" x10)); let r12 ← pure []; pure (x11 :: r12)); pure (x13 :: r14)); Mo.lift (m_site_of_0513 r15)); DL.ask (eqD x16 y17)); pure (.rt v18)) else (pure (.nx ()))) fun (q4 : Unit) => (do let v28 ← (do let r27 ← (do let x25 ← (do let x20 ← (do let x19 ← (pure a0); DL.ask (fldD ["Page", "Rule"] "host" x19)); let _ ← DL.ask (insOk ["HostPattern", "PathPattern"] "shape" x20); let r21 ← pure []; Mo.lift (dispM [("HostPattern", m_Pattern_shape_d275), ("PathPattern", m_Pattern_shape_d275)] x20 r21)); let r26 ← (do let x23 ← (do let x22 ← (pure a2); DL.ask (revD x22)); let r24 ← pure []; pure (x23 :: r24)); pure (x25 :: r26)); Mo.lift (m_row_fits_a0db r27)); pure (.rt v28)))
theorem e_host_fits_56fd (a0 a1 a2 : D) : b_host_fits_56fd a0 a1 a2 = (do let x2 ← (DL.ask (fldD ["Page", "Rule"] "host" a0)); let t29 ← (DL.ask ((isD x2 .non).bind bOf)); seqF (if t29 = true then (do let x16 ← (Mo.lift (m_site_of_0513 [a1, a2])); let x11 ← (DL.ask (fldD ["Rule"] "near" a0)); let y17 ← (Mo.lift (m_site_of_0513 [a1, x11])); let v18 ← (DL.ask (eqD x16 y17)); pure (.rt v18)) else (pure (.nx ()))) fun (q4 : Unit) => (do let x20 ← (DL.ask (fldD ["Page", "Rule"] "host" a0)); let _ ← DL.ask (insOk ["HostPattern", "PathPattern"] "shape" x20); let x25 ← (Mo.lift (dispM [("HostPattern", m_Pattern_shape_d275), ("PathPattern", m_Pattern_shape_d275)] x20 [])); let x23 ← (DL.ask (revD a2)); let v28 ← (Mo.lift (m_row_fits_a0db [x25, x23])); pure (.rt v28))) := by
  unfold b_host_fits_56fd; simp only [pure_bind, bind_assoc, mkL]
def m_host_fits_56fd : List D → R D := apR3 fun a0 a1 a2 => (runR false (b_host_fits_56fd a0 a1 a2))
def b_rule_fits_7439 (a0 a1 a2 a3 : D) : R (Fl Unit Empty) := (do let t31 ← (DL.orM (DL.notM (do let x10 ← (do let r9 ← (do let x7 ← (pure a0); let r8 ← (do let x5 ← (do let x1 ← (pure a3); DL.ask (fldD ["Page", "Rule"] "scheme" x1)); let r6 ← (do let x3 ← (do let x2 ← (pure a3); DL.ask (fldD ["Page"] "port" x2)); let r4 ← pure []; pure (x3 :: r4)); pure (x5 :: r6)); pure (x7 :: r8)); Mo.lift (m_door_fits_6b32 r9)); DL.ask (truD x10))) (DL.notM (do let x20 ← (do let r19 ← (do let x17 ← (do let x12 ← (do let x11 ← (pure a0); DL.ask (fldD ["Page", "Rule"] "path" x11)); let _ ← DL.ask (insOk ["HostPattern", "PathPattern"] "shape" x12); let r13 ← pure []; Mo.lift (dispM [("HostPattern", m_Pattern_shape_d275), ("PathPattern", m_Pattern_shape_d275)] x12 r13)); let r18 ← (do let x15 ← (do let x14 ← (pure a3); DL.ask (fldD ["Page", "Rule"] "path" x14)); let r16 ← pure []; pure (x15 :: r16)); pure (x17 :: r18)); Mo.lift (m_row_fits_a0db r19)); DL.ask (truD x20)))); seqF (if t31 = true then (do let v22 ← (pure (.bl false)); pure (.rt v22)) else (pure (.nx ()))) fun (q21 : Unit) => (do let v30 ← (do let r29 ← (do let x27 ← (pure a0); let r28 ← (do let x25 ← (pure a1); let r26 ← (do let x23 ← (pure a2); let r24 ← pure []; pure (x23 :: r24)); pure (x25 :: r26)); pure (x27 :: r28)); Mo.lift (m_host_fits_56fd r29)); pure (.rt v30)))
theorem e_rule_fits_7439 (a0 a1 a2 a3 : D) : b_rule_fits_7439 a0 a1 a2 a3 = (do let t31 ← (DL.orM (DL.notM (do let x5 ← (DL.ask (fldD ["Page", "Rule"] "scheme" a3)); let x3 ← (DL.ask (fldD ["Page"] "port" a3)); let x10 ← (Mo.lift (m_door_fits_6b32 [a0, x5, x3])); DL.ask (truD x10))) (DL.notM (do let x12 ← (DL.ask (fldD ["Page", "Rule"] "path" a0)); let _ ← DL.ask (insOk ["HostPattern", "PathPattern"] "shape" x12); let x17 ← (Mo.lift (dispM [("HostPattern", m_Pattern_shape_d275), ("PathPattern", m_Pattern_shape_d275)] x12 [])); let x15 ← (DL.ask (fldD ["Page", "Rule"] "path" a3)); let x20 ← (Mo.lift (m_row_fits_a0db [x17, x15])); DL.ask (truD x20)))); seqF (if t31 = true then (pure (.rt (.bl false))) else (pure (.nx ()))) fun (q21 : Unit) => (do let v30 ← (Mo.lift (m_host_fits_56fd [a0, a1, a2])); pure (.rt v30))) := by
  unfold b_rule_fits_7439; simp only [pure_bind, bind_assoc, mkL]
def m_rule_fits_7439 : List D → R D := apR4 fun a0 a1 a2 a3 => (runR false (b_rule_fits_7439 a0 a1 a2 a3))
end FN
namespace FN
open DL PySem PySem.W
theorem for_fold {α β γ τ ι : Type} {u : D → Option γ} {xb : α → γ → R (Fl α α)} (f : ι → D) (P : ι → Prop) (enc : τ → α) (step : τ → ι → τ)
    (hs : ∀ s i, P i → ∃ c, u (f i) = some c ∧ (xb (enc s) c = .ok (.nx (enc (step s i))) ∨ xb (enc s) c = .ok (.ct (enc (step s i))))) :
    ∀ (is : List ι) (s : τ), (∀ i ∈ is, P i) → (forF u xb (is.map f) (enc s) : R (Fl α β)) = .ok (.nx (enc (is.foldl step s)))
  | [], s, _ => rfl
  | i :: is, s, h => by
    obtain ⟨c, hu, hx⟩ := hs s i (h i (.head _))
    have ih := for_fold (β := β) f P enc step hs is (step s i) fun j m => h j (.tail _ m)
    rw [List.map_cons, forF, hu, List.foldl_cons]
    rcases hx with hx | hx
    · show ((xb (enc s) c) >>= _) = _
      rw [hx]
      exact ih
    · show ((xb (enc s) c) >>= _) = _
      rw [hx]
      exact ih
theorem labs_tup {R : List (List Nat)} (h : Labs R) : nic 3 (.tup (R.map .str)) = true := by
  rw [nic_tup]
  exact nic_strs fun z m c k => (lab_tx (h z m)).2 c k
theorem eqT {A B : List (List Nat)} (hA : Labs A) (hB : Labs B) : eqD (.tup (A.map .str)) (.tup (B.map .str)) = some (.bl (decide (A = B))) := by
  rw [eq_nic (labs_tup hA) (labs_tup hB) (by omega) (by omega)]
  show some (D.bl (deqL (A.map .str) (B.map .str))) = _
  rw [deqL_strs]
theorem labs_drop {A : List (List Nat)} (n : Nat) (h : Labs A) : Labs (A.drop n) := fun z m => h z (List.mem_of_mem_drop m)
theorem labs_take {A : List (List Nat)} (n : Nat) (h : Labs A) : Labs (A.take n) := fun z m => h z (List.mem_of_mem_take m)
theorem labs_app {A B : List (List Nat)} (h : Labs A) (k : Labs B) : Labs (A ++ B) := fun z m => by
  rcases List.mem_append.mp m with m | m
  · exact h z m
  · exact k z m
theorem lenT {A : List (List Nat)} : lenD [.tup (A.map D.str)] = some (.int (A.length : Int)) := by
  show some (D.int ((A.map D.str).length : Int)) = _
  rw [List.length_map]
def endsB (h A : List (List Nat)) : Bool := decide (A.length ≤ h.length) && decide (h.drop (h.length - A.length) = A)
theorem ge_l {i j : Int} : geD (.int i) (.int j) = some (.bl (decide (j ≤ i))) := rfl
theorem gt_l {i j : Int} : gtD (.int i) (.int j) = some (.bl (decide (j < i))) := rfl
theorem cut_back {A : List (List Nat)} {n : Nat} (h : n ≤ A.length) : cutL (A.map D.str) (some ((A.length : Int) - (n : Int))) none = (A.drop (A.length - n)).map D.str := by
  rw [cut_lo (by omega), List.map_drop]
  congr 1
  omega
theorem ends_ok {h A : List (List Nat)} (hh : Labs h) (hA : Labs A) : m_ends_with_d715 [.tup (h.map .str), .tup (A.map .str)] = .ok (.bl (endsB h A)) := by
  unfold m_ends_with_d715 apR2
  simp only [e_ends_with_d715, andV, lenT, askR, pure_bind, ge_l, tru_bl, sub_ii, int_of, slice_t]
  by_cases c : A.length ≤ h.length
  · have c' : ((A.length : Int) ≤ (h.length : Int)) := by omega
    simp only [decide_eq_true c', if_true, cut_back c, eqT (labs_drop _ hh) hA, askR, pure_bind, endsB, decide_eq_true c, Bool.true_and]
    rfl
  · have c' : ¬ ((A.length : Int) ≤ (h.length : Int)) := by omega
    simp only [decide_eq_false c', Bool.false_eq_true, if_false, endsB, decide_eq_false c, Bool.false_and, pure_bind]
    rfl
theorem cut_neg {A : List (List Nat)} {n : Nat} (h : 1 ≤ n) : cutL (A.map D.str) (some (-(n : Int))) none = (A.drop (A.length - n)).map D.str := by
  unfold cutL
  have e1 : HT.sIx (A.map D.str).length (A.map D.str).length none = (A.map D.str).length := rfl
  have e2 : HT.sIx (A.map D.str).length 0 (some (-(n : Int))) = A.length - n := by
    show (if (-(n : Int)) < 0 then (-(n : Int) + ((A.map D.str).length : Int)).toNat else min (-(n : Int)).toNat (A.map D.str).length) = _
    rw [if_pos (by omega), List.length_map]
    omega
  rw [e1, e2, List.take_of_length_le (by rw [List.length_drop]; omega), List.map_drop]
theorem ends_neg {h A : List (List Nat)} : decide (h.drop (h.length - A.length) = A) = endsB h A := by
  unfold endsB
  by_cases c : A.length ≤ h.length
  · rw [decide_eq_true c, Bool.true_and]
  · rw [decide_eq_false c, Bool.false_and]
    exact decide_eq_false fun e => by
      have := congrArg List.length e
      rw [List.length_drop] at this
      omega
inductive Kd | pl | wi | ex
abbrev Row := Kd × List (List Nat)
def kdD : Kd → D
  | .pl => c_PLAIN
  | .wi => c_WILD
  | .ex => c_EXCEPTION
def rowT : Row → List Nat
  | (.pl, A) => joinN [46] A
  | (.wi, A) => 42 :: 46 :: joinN [46] A
  | (.ex, A) => 33 :: joinN [46] A
def RowOk (r : Row) : Prop := Labs r.2 ∧ 1 ≤ r.2.length ∧ r.2.length ≤ 3 ∧ (r.1 = .wi → r.2.length ≤ 2) ∧ (r.1 = .ex → 2 ≤ r.2.length)
def rowD (r : Row) : D := .tup [kdD r.1, .tup (r.2.map .str)]
theorem labs_join {A : List (List Nat)} (h : Labs A) (hl : A.length ≤ 30) : (joinN [46] A).length ≤ 1000 := by
  have : ∀ {I : List (List Nat)}, (∀ z ∈ I, z.length ≤ 20) → (joinN [46] I).length ≤ 21 * I.length := by
    intro I
    induction I with
    | nil => intro _; simp [joinN]
    | cons a I ih =>
      intro hz
      have h1 := hz a (.head _)
      have h2 := ih fun z m => hz z (.tail _ m)
      cases I with
      | nil => simp only [joinN, List.length_cons, List.length_nil]; omega
      | cons b I =>
        simp only [joinN, List.length_append, List.length_cons, List.length_nil] at h2 ⊢
        omega
  have := this fun z m => (isLab_iff.mp (h z m)).2.1
  omega
theorem split_labs {A : List (List Nat)} (h : Labs A) (h0 : 1 ≤ A.length) (hl : A.length ≤ 30) : splitD (.str (joinN [46] A)) (.str [46]) = some (A.map .str) :=
  split_ok (by omega) (by decide) h (fun e => by rw [e] at h0; simp at h0) (by have := labs_join h hl; omega)
theorem no_bad {A : List (List Nat)} (h : Labs A) : (lcF (fun d => some d) (fun (c58 : D) => (DL.notM (do let x62 ← (Mo.lift (m_is_label_344b [c58])); DL.ask (truD x62)))) (fun (c58 : D) => (pure c58)) (A.map .str) : R (List D)) = .ok [] := by
  have := lcR (u := fun d => some d) (xt := fun (c58 : D) => (DL.notM (do let x62 ← (Mo.lift (m_is_label_344b [c58])); DL.ask (truD x62)) : R Bool)) (xe := fun (c58 : D) => (pure c58)) id (fun _ => false) id (A.map .str) (fun d _ => rfl) (fun d m => by
    obtain ⟨z, hz, rfl⟩ := List.mem_map.mp m
    have e : m_is_label_344b [.str z] = .ok (.bl (labD (.str z))) := is_label_ok (T := "str") rfl
    show (DL.notM (do let x62 ← (Mo.lift (m_is_label_344b [.str z])); DL.ask (truD x62)) : R Bool) = _
    rw [lift_pR, e, labD_str, h z hz]
    rfl) (fun d _ q => by cases q)
  exact this.trans (by rw [List.filter_eq_nil_iff.mpr (by simp)]; rfl)
theorem head_lab {A : List (List Nat)} (h : Labs A) (h0 : 1 ≤ A.length) : ∃ c r, joinN [46] A = c :: r ∧ c ∈ CH := by
  cases A with
  | nil => simp at h0
  | cons a A =>
    obtain ⟨h1, _, h3⟩ := isLab_iff.mp (h a (.head _))
    cases a with
    | nil => simp at h1
    | cons c a =>
      cases A with
      | nil => exact ⟨c, a, rfl, h3 c (.head _)⟩
      | cons b A => exact ⟨c, a ++ [46] ++ joinN [46] (b :: A), by simp [joinN], h3 c (.head _)⟩
theorem parsed_ok {r : Row} (h : RowOk r) : m_parsed_row_b892 [.str (rowT r)] = .ok (rowD r) := by
  obtain ⟨k, A⟩ := r
  obtain ⟨hA, h1, h2, h3, h4⟩ := h
  dsimp only at hA h1 h2 h3 h4
  have sp := split_labs hA h1 (by omega)
  have sz4 : ∀ a b c d : D, szL [a, b, c, d] = some [a, b, c, d] := fun _ _ _ _ => sz_ok (by simp)
  have u4 : ∀ a b c d : D, unN 4 (.tup [a, b, c, d]) = some [a, b, c, d] := fun _ _ _ _ => rfl
  have isS : ∀ z, isiD "str" (.str z) = some (.bl true) := fun _ => rfl
  have nb := no_bad hA
  simp only [DL.notM] at nb
  obtain ⟨c, r, ej, hc⟩ := head_lab hA h1
  have c33 : c ≠ 33 := fun e => by rw [e] at hc; revert hc; decide
  have c42 : c ≠ 42 := fun e => by rw [e] at hc; revert hc; decide
  have stm : ∀ (a b : List Nat), strM (fun a b => .bl (PySem.Txt.startswith ⟨a.toArray⟩ ⟨b.toArray⟩)) (.str a) (.str b) = some (.bl (decide (b.length ≤ a.length) && decide (a.take b.length = b))) := fun a b => by rw [← starts_eq]; rfl
  have il : itD (.tup (A.map D.str)) = some (A.map .str) := rfl
  have el : truD (.lst []) = some false := rfl
  unfold m_parsed_row_b892 apR1
  simp only [e_parsed_row_b892, isS, askR, pure_bind, tru_bl, DL.notM, Bool.not_true, Bool.false_eq_true, if_false, sqp, sz4, u4, str_of, stm]
  cases k with
  | pl =>
    have s1 : (decide (([33] : List Nat).length ≤ (rowT (.pl, A)).length) && decide ((rowT (.pl, A)).take ([33] : List Nat).length = [33])) = false := by
      show (_ && decide ((joinN [46] A).take 1 = [33])) = false
      rw [ej]
      simp [c33]
    have s2 : (decide (([42, 46] : List Nat).length ≤ (rowT (.pl, A)).length) && decide ((rowT (.pl, A)).take ([42, 46] : List Nat).length = [42, 46])) = false := by
      show (_ && decide ((joinN [46] A).take 2 = [42, 46])) = false
      rw [ej]
      simp [c42]
    have g0 : List.getD [c_PLAIN, D.str (rowT (.pl, A)), .int 1, c_MOST_LABELS_OF_ROW] 0 D.non = c_PLAIN := rfl
    have g1 : List.getD [c_PLAIN, D.str (rowT (.pl, A)), .int 1, c_MOST_LABELS_OF_ROW] 1 D.non = D.str (joinN [46] A) := rfl
    have g2 : List.getD [c_PLAIN, D.str (rowT (.pl, A)), .int 1, c_MOST_LABELS_OF_ROW] 2 D.non = .int 1 := rfl
    have g3 : List.getD [c_PLAIN, D.str (rowT (.pl, A)), .int 1, c_MOST_LABELS_OF_ROW] 3 D.non = .int 3 := rfl
    have ch : (chainM leD leD (pure (.int 1)) (pure (.int (A.length : Int))) (pure (.int 3)) : R D) = .ok (.bl true) := by
      rw [chain_ii, decide_eq_true (by omega), decide_eq_true (by omega)]; rfl
    simp only [s1, s2, g0, g1, g2, g3, tru_bl, askR, pure_bind, Bool.false_eq_true, if_false, sqp, str_of, sp, tup_lst, lenT, ch, okpR, bOf_bl, DL.orM, Bool.not_true, il, nb, el, sz2]
    rfl
  | wi =>
    have s1 : (decide (([33] : List Nat).length ≤ (rowT (.wi, A)).length) && decide ((rowT (.wi, A)).take ([33] : List Nat).length = [33])) = false := by
      show (_ && decide ((42 :: 46 :: joinN [46] A).take 1 = [33])) = false
      simp
    have s2 : (decide (([42, 46] : List Nat).length ≤ (rowT (.wi, A)).length) && decide ((rowT (.wi, A)).take ([42, 46] : List Nat).length = [42, 46])) = true := by
      show (decide (2 ≤ (42 :: 46 :: joinN [46] A).length) && decide ((42 :: 46 :: joinN [46] A).take 2 = [42, 46])) = true
      simp
    have g2 : List.getD [c_PLAIN, D.str (rowT (.wi, A)), .int 1, c_MOST_LABELS_OF_ROW] 2 D.non = .int 1 := rfl
    have cu : cutL (rowT (.wi, A)) (some 2) none = joinN [46] A := by
      rw [cut_lo (by omega)]; rfl
    have sb : subD c_MOST_LABELS_OF_ROW (.int 1) = some (.int 2) := rfl
    have hh := h3 rfl
    have ch : (chainM leD leD (pure (.int 1)) (pure (.int (A.length : Int))) (pure (.int 2)) : R D) = .ok (.bl true) := by
      rw [chain_ii, decide_eq_true (by omega), decide_eq_true (by omega)]; rfl
    simp only [s1, s2, g2, int_of, slice_s, cu, sb, tru_bl, askR, pure_bind, Bool.false_eq_true, if_false, if_true, sqp, str_of, sp, tup_lst, lenT, ch, okpR, bOf_bl, DL.orM, Bool.not_true, il, nb, el, sz2]
    rfl
  | ex =>
    have s1 : (decide (([33] : List Nat).length ≤ (rowT (.ex, A)).length) && decide ((rowT (.ex, A)).take ([33] : List Nat).length = [33])) = true := by
      show (decide (1 ≤ (33 :: joinN [46] A).length) && decide ((33 :: joinN [46] A).take 1 = [33])) = true
      simp
    have g3 : List.getD [c_PLAIN, D.str (rowT (.ex, A)), .int 1, c_MOST_LABELS_OF_ROW] 3 D.non = .int 3 := rfl
    have cu : cutL (rowT (.ex, A)) (some 1) none = joinN [46] A := by
      rw [cut_lo (by omega)]; rfl
    have hh := h4 rfl
    have ch : (chainM leD leD (pure (.int 2)) (pure (.int (A.length : Int))) (pure (.int 3)) : R D) = .ok (.bl true) := by
      rw [chain_ii, decide_eq_true (by omega), decide_eq_true (by omega)]; rfl
    simp only [s1, g3, int_of, slice_s, cu, tru_bl, askR, pure_bind, Bool.false_eq_true, if_false, if_true, sqp, str_of, sp, tup_lst, lenT, ch, okpR, bOf_bl, DL.orM, Bool.not_true, il, nb, el, sz2]
    rfl
theorem un2_2 {a b : D} : un2 (.tup [a, b]) = some (a, b) := rfl
def stepE (h : List (List Nat)) (q : Nat × Nat) (r : Row) : Nat × Nat := if endsB h r.2 = true then (match r.1 with
  | .ex => (q.1, max q.2 r.2.length)
  | .pl => (max q.1 r.2.length, q.2)
  | .wi => if r.2.length < h.length then (max q.1 (r.2.length + 1), q.2) else q) else q
def foldE (rows : List Row) (h : List (List Nat)) : Nat × Nat := rows.foldl (stepE h) (1, 0)
def encE (q : Nat × Nat) : D × D := (.int (q.1 : Int), .int (q.2 : Int))
theorem max_ii {i j : Nat} : maxD [.int (i : Int), .int (j : Int)] = some (.int ((max i j : Nat) : Int)) := by
  show some (D.int (if (j : Int) > (i : Int) then (j : Int) else (i : Int))) = _
  by_cases c : (j : Int) > (i : Int)
  · rw [if_pos c, Nat.max_eq_right (by omega)]
  · rw [if_neg c, Nat.max_eq_left (by omega)]
theorem min_ii {i j : Nat} : minD [.int (i : Int), .int (j : Int)] = some (.int ((min i j : Nat) : Int)) := by
  show some (D.int (if (j : Int) < (i : Int) then (j : Int) else (i : Int))) = _
  by_cases c : (j : Int) < (i : Int)
  · rw [if_pos c, Nat.min_eq_right (by omega)]
  · rw [if_neg c, Nat.min_eq_left (by omega)]
def sizeE (q : Nat × Nat) : Nat := if 0 < q.2 then q.2 - 1 else q.1
theorem ending_ok {rows : List Row} {h : List (List Nat)} {pd : D} (hp : itD pd = some (rows.map rowD)) (hr : ∀ r ∈ rows, RowOk r) (hh : Labs h) :
    m_ending_size_5148 [pd, .tup (h.map .str)] = .ok (.int ((sizeE (foldE rows h) : Nat) : Int)) := by
  unfold m_ending_size_5148 apR2
  simp only [e_ending_size_5148, sz2, askR, pure_bind, un2_2, hp]
  rw [show ((D.int 1, D.int 0) : D × D) = encE (1, 0) from rfl, for_fold (β := Empty) rowD RowOk encE (stepE h) (fun q r hk => ⟨(kdD r.1, .tup (r.2.map .str)), rfl, ?_⟩) rows (1, 0) hr]
  · show runR false (do let v72 ← (iteM (DL.ask ((gtD (encE (foldE rows h)).2 (.int 0)).bind bOf)) (DL.ask (subD (encE (foldE rows h)).2 (.int 1))) (pure (encE (foldE rows h)).1)); pure (.rt v72)) = _
    generalize foldE rows h = q
    obtain ⟨l, e⟩ := q
    show runR false (do let v72 ← (iteM (DL.ask ((gtD (.int (e : Int)) (.int 0)).bind bOf)) (DL.ask (subD (.int (e : Int)) (.int 1))) (pure (.int (l : Int)))); pure (.rt v72)) = _
    by_cases c : 0 < e
    · have c' : (0 : Int) < (e : Int) := by omega
      have es : ((e : Int) - 1) = ((e - 1 : Nat) : Int) := by omega
      simp only [gt_l, decide_eq_true c', iteM, Option.bind_some, bOf_bl, askR, pure_bind, if_true, sub_ii, es, sizeE, if_pos c]
      rfl
    · have c' : ¬ (0 : Int) < (e : Int) := by omega
      simp only [gt_l, decide_eq_false c', iteM, Option.bind_some, bOf_bl, askR, pure_bind, Bool.false_eq_true, if_false, sizeE, if_neg c]
      rfl
  · obtain ⟨k, A⟩ := r
    obtain ⟨l, e⟩ := q
    have hA : Labs A := hk.1
    simp only [ends_ok hh hA, lift_pR, okpR, pure_bind, tru_bl, askR, DL.notM]
    show _ ∨ _
    cases hb : endsB h A with
    | false =>
      refine .inr ?_
      simp only [Bool.not_false, if_true, stepE, hb, Bool.false_eq_true, if_false]
      rfl
    | true =>
      refine .inl ?_
      simp only [Bool.not_true, Bool.false_eq_true, if_false, sqp, stepE, hb, if_true]
      cases k with
      | ex =>
        have e1 : (eqD (kdD .ex) c_EXCEPTION).bind bOf = some true := rfl
        simp only [e1, askR, pure_bind, if_true, lenT, encE, max_ii]
        rfl
      | pl =>
        have e1 : (eqD (kdD .pl) c_EXCEPTION).bind bOf = some false := rfl
        have e2 : (eqD (kdD .pl) c_PLAIN).bind bOf = some true := rfl
        simp only [e1, e2, askR, pure_bind, if_true, Bool.false_eq_true, if_false, lenT, encE, max_ii]
        rfl
      | wi =>
        have e1 : (eqD (kdD .wi) c_EXCEPTION).bind bOf = some false := rfl
        have e2 : (eqD (kdD .wi) c_PLAIN).bind bOf = some false := rfl
        simp only [e1, e2, askR, pure_bind, Bool.false_eq_true, if_false, lenT, encE, gt_l, Option.bind_some, bOf_bl]
        by_cases c : A.length < h.length
        · have c' : (A.length : Int) < (h.length : Int) := by omega
          have ea : ((A.length : Int) + 1) = ((A.length + 1 : Nat) : Int) := by omega
          simp only [decide_eq_true c', if_true, add_ii, ea, max_ii, askR, pure_bind, if_pos c]
          rfl
        · have c' : ¬ (A.length : Int) < (h.length : Int) := by omega
          simp only [decide_eq_false c', Bool.false_eq_true, if_false, if_neg c]
          rfl
def siteN (rows : List Row) (h : List (List Nat)) : List (List Nat) := h.drop (h.length - (sizeE (foldE rows h) + 1))
theorem site_by_ok {rows : List Row} {h : List (List Nat)} {pd : D} (hp : itD pd = some (rows.map rowD)) (hr : ∀ r ∈ rows, RowOk r) (hh : Labs h) : m_site_by_dd2e [pd, .tup (h.map .str)] = .ok (.tup ((siteN rows h).map .str)) := by
  have en := ending_ok hp hr hh
  have ea : ((sizeE (foldE rows h) : Nat) : Int) + 1 = ((sizeE (foldE rows h) + 1 : Nat) : Int) := by omega
  have cd := cut_back (A := h) (n := min h.length (sizeE (foldE rows h) + 1)) (by omega)
  have e2 : h.length - min h.length (sizeE (foldE rows h) + 1) = h.length - (sizeE (foldE rows h) + 1) := by omega
  rw [e2] at cd
  unfold m_site_by_dd2e apR2
  simp only [e_site_by_dd2e, lenT, askR, pure_bind, en, lift_pR, okpR, add_ii, ea, min_ii, sub_ii, int_of, slice_t, cd]
  rfl
theorem site_of_ok {rows : List Row} {h : List (List Nat)} {pd : D} (hp : itD pd = some (rows.map fun r => .str (rowT r))) (hr : ∀ r ∈ rows, RowOk r) (hh : Labs h) : m_site_of_0513 [pd, .tup (h.map .str)] = .ok (.tup ((siteN rows h).map .str)) := by
  have hw : (lcF (fun d => some d) (fun (c3 : D) => pure true) (fun (c3 : D) => (Mo.lift (m_parsed_row_b892 [c3]))) (rows.map fun r => .str (rowT r)) : R (List D)) = .ok (rows.map rowD) := by
    clear hp
    induction rows with
    | nil => rfl
    | cons r rows ih =>
      have e := parsed_ok (hr r (.head _))
      have ih' := ih fun x m => hr x (.tail _ m)
      rw [List.map_cons, lcF]
      show ((Mo.noex (Mo.lift (m_parsed_row_b892 [.str (rowT r)]) : R D)) >>= fun y => (lcF (fun d => some d) (fun (c3 : D) => pure true) (fun (c3 : D) => (Mo.lift (m_parsed_row_b892 [c3]))) (rows.map fun r => .str (rowT r)) : R (List D)) >>= fun r => pure (y :: r)) = _
      rw [lift_pR, e, ih']
      rfl
  unfold m_site_of_0513 apR2
  simp only [e_site_of_0513, hp, askR, pure_bind]
  rw [hw]
  simp only [okpR, pure_bind, site_by_ok (pd := .lst (rows.map rowD)) rfl hr hh, lift_pR]
  rfl
end FN
namespace FN
open DL PySem PySem.W
abbrev Hst := List (List Nat)
def hD (h : Hst) : D := .tup (h.map .str)
def grD (g : List Hst) : D := .tup (g.map hD)
def MemOk (m : Hst) : Prop := Labs m ∧ 1 ≤ m.length ∧ m.length ≤ 3
def GrOk (g : List Hst) : Prop := (∀ m ∈ g, MemOk m) ∧ 2 ≤ g.length ∧ g.length ≤ 4
abbrev Best := Option (Hst × Hst)
def bestLen : Best → Nat
  | none => 0
  | some q => q.1.length
def stepM (h g0 : Hst) (q : Best) (m : Hst) : Best := if endsB h m = true ∧ bestLen q < m.length then some (m, g0) else q
def stepG (h : Hst) (q : Best) (g : List Hst) : Best := g.foldl (stepM h (g.headD [])) q
def bestN (kin : List (List Hst)) (h : Hst) : Best := kin.foldl (stepG h) none
def movedN (kin : List (List Hst)) (h : Hst) : Hst := match bestN kin h with
  | none => h
  | some q => h.take (h.length - q.1.length) ++ q.2
def encL : Best → D × D
  | none => (.tup [], .tup [])
  | some q => (hD q.1, hD q.2)
def BestOk (h : Hst) (q : Best) : Prop := ∀ x, q = some x → x.1.length ≤ h.length ∧ MemOk x.2
theorem lenH {h : Hst} : lenD [hD h] = some (.int (h.length : Int)) := lenT
theorem grp_head {g : List Hst} (k : GrOk g) : ∃ g0 gs, g = g0 :: gs ∧ ixD (grD g) (.int 0) = some (hD g0) ∧ g.headD [] = g0 ∧ MemOk g0 := by
  cases g with
  | nil => have := k.2.1; simp at this
  | cons g0 gs => exact ⟨g0, gs, rfl, by
    show ((L2.ixN ((g0 :: gs).map hD).length 0).bind fun j => ((g0 :: gs).map hD)[j]?) = _
    rw [ixN_ok (by omega) (by simp)]
    rfl, rfl, k.1 g0 (.head _)⟩
theorem best_ok {kin : List (List Hst)} {h : Hst} (hk : ∀ g ∈ kin, GrOk g) : BestOk h (bestN kin h) := by
  have one : ∀ (g0 : Hst) (ms : List Hst) (q : Best), MemOk g0 → BestOk h q → BestOk h (ms.foldl (stepM h g0) q) := by
    intro g0 ms
    induction ms with
    | nil => intro q _ hq; exact hq
    | cons m ms ih =>
      intro q h0 hq
      refine ih _ h0 ?_
      unfold stepM
      by_cases c : endsB h m = true ∧ bestLen q < m.length
      · rw [if_pos c]
        intro x e
        cases e
        have := c.1
        unfold endsB at this
        simp only [Bool.and_eq_true, decide_eq_true_eq] at this
        exact ⟨this.1, h0⟩
      · rw [if_neg c]; exact hq
  have all : ∀ (ks : List (List Hst)) (q : Best), (∀ g ∈ ks, GrOk g) → BestOk h q → BestOk h (ks.foldl (stepG h) q) := by
    intro ks
    induction ks with
    | nil => intro q _ hq; exact hq
    | cons g ks ih =>
      intro q hg hq
      refine ih _ (fun x m => hg x (.tail _ m)) ?_
      obtain ⟨g0, gs, e, _, e2, h0⟩ := grp_head (hg g (.head _))
      unfold stepG
      rw [e2]
      exact one g0 g q h0 hq
  exact all kin none hk fun x e => by cases e
theorem cut_take {A : Hst} {n : Nat} (h : n ≤ A.length) : cutL (A.map D.str) none (some ((A.length : Int) - (n : Int))) = (A.take (A.length - n)).map D.str := by
  rw [show ((A.length : Int) - (n : Int)) = ((A.length - n : Nat) : Int) by omega, cut_toD, List.map_take]
theorem moved_facts {kin : List (List Hst)} {h : Hst} (hk : ∀ g ∈ kin, GrOk g) (hh : Labs h) (h1 : 1 ≤ h.length) : Labs (movedN kin h) ∧ (movedN kin h).length ≤ h.length + 3 ∧ 1 ≤ (movedN kin h).length := by
  have bo := best_ok (h := h) hk
  unfold movedN
  cases hb : bestN kin h with
  | none => exact ⟨hh, by simp, h1⟩
  | some x =>
    obtain ⟨b1, b2, b3, b4⟩ := bo x hb
    refine ⟨labs_app (labs_take _ hh) b2, ?_, ?_⟩
    · show (h.take (h.length - x.1.length) ++ x.2).length ≤ _
      rw [List.length_append, List.length_take]; omega
    · show 1 ≤ (h.take (h.length - x.1.length) ++ x.2).length
      rw [List.length_append, List.length_take]; omega
theorem row_tx {r : Row} (h : RowOk r) : Tx 1000 (rowT r) := by
  obtain ⟨k, A⟩ := r
  obtain ⟨hA, h1, h2, _, _⟩ := h
  dsimp only at hA h1 h2
  have jl : (joinN [46] A).length ≤ 100 := by
    have := (join_row2 (S := [46]) (row_of (by omega) hA) (by simp)).2
    have h3 : ∀ {I : List (List Nat)}, (∀ z ∈ I, z.length ≤ 20) → (joinN [46] I).length ≤ 21 * I.length := by
      intro I
      induction I with
      | nil => intro _; simp [joinN]
      | cons a I ih =>
        intro hz
        have h1 := hz a (.head _)
        have h2 := ih fun z m => hz z (.tail _ m)
        cases I with
        | nil => simp only [joinN, List.length_cons, List.length_nil]; omega
        | cons b I =>
          simp only [joinN, List.length_append, List.length_cons, List.length_nil] at h2 ⊢
          omega
    have := h3 fun z m => (isLab_iff.mp (hA z m)).2.1
    omega
  have jc : ∀ c ∈ joinN [46] A, c < 1114112 := join_tx (row_of (by omega) hA) (by omega)
  cases k with
  | pl => exact ⟨by show (joinN [46] A).length ≤ _; omega, jc⟩
  | wi => exact ⟨by show (42 :: 46 :: joinN [46] A).length ≤ _; simp only [List.length_cons]; omega, fun c m => by
      rcases List.mem_cons.mp (show c ∈ 42 :: 46 :: joinN [46] A from m) with rfl | m
      · omega
      · rcases List.mem_cons.mp m with rfl | m
        · omega
        · exact jc c m⟩
  | ex => exact ⟨by show (33 :: joinN [46] A).length ≤ _; simp only [List.length_cons]; omega, fun c m => by
      rcases List.mem_cons.mp (show c ∈ 33 :: joinN [46] A from m) with rfl | m
      · omega
      · exact jc c m⟩
def rowsD (rows : List Row) : List D := rows.map fun r => .str (rowT r)
end FN
namespace FN
open DL PySem PySem.W
theorem door40 {s w nm t pj sch : List Nat} {pd near host path : D} {i : Int} (hw : Wd w) (ht : Dr t pd) (hsch : sch = kHttp ∨ sch = kHttps) : m_door_fits_6b32 [.ins "Rule" RNs (ruF s w nm t pj pd near host path), .str sch, .int i] = .ok (.bl (fitB w sch i pd)) := by
  have f1 : fldD ["Page", "Rule"] "scheme" (.ins "Rule" RNs (ruF s w nm t pj pd near host path)) = some (.str w) := rfl
  have f2 : fldD ["Rule"] "ports" (.ins "Rule" RNs (ruF s w nm t pj pd near host path)) = some pd := rfl
  have hin := (in_any hw hsch).1
  unfold m_door_fits_6b32 apR3
  simp only [e_door_fits_6b32, f1, f2, askR, pure_bind, sz2, hin]
  unfold fitB
  cases hb : decide (w ∈ [[97, 110, 121], sch]) with
  | false => rfl
  | true =>
    simp only [Bool.not_true, Bool.false_eq_true, if_false, Bool.true_and]
    rcases ht with ⟨rfl, rfl⟩ | ⟨u, lo, hi, rfl, rfl, h1, h2, h3, _⟩
    · have isn : isD .non .non = some (.bl true) := rfl
      simp only [isn, Option.bind_some, bOf_bl, askR, pure_bind, if_true, def_port2 hsch, lift_pR, okpR, eq_i]
      rfl
    · have isn : isD (iPd lo hi) .non = some (.bl false) := rfl
      have x0 : ixD (iPd lo hi) (.int 0) = some (.int lo) := rfl
      have x1 : ixD (iPd lo hi) (.int 1) = some (.int hi) := rfl
      simp only [isn, Option.bind_some, bOf_bl, askR, pure_bind, Bool.false_eq_true, if_false, sqp, x0, x1, chain_ii, okpR]
      rfl
theorem labs_sh {A : Hst} (h : Labs A) : Sh A := fun z m => by have := (lab_tx (h z m)).1; omega
theorem path40 {J path : D} {x : List Nat} (k : PjD J x path) {B : Hst} (hB : Labs B) (hl : B.length ≤ 1000) : ∃ b, insOk ["HostPattern", "PathPattern"] "shape" path = some () ∧ (∃ sh, dispM [("HostPattern", m_Pattern_shape_d275), ("PathPattern", m_Pattern_shape_d275)] path [] = .ok sh ∧ m_row_fits_a0db [sh, hD B] = .ok (.bl b)) ∧ m__law_row_fits_3c3f [J, .lst (B.map .str)] = .ok (.bl b) := by
  cases k with
  | @mk J h t g p hl2 =>
    obtain ⟨a1, a2, a3, a4⟩ := pat_len p hl2
    exact ⟨rowN h t g B, rfl, ⟨_, rfl, row_fits43 a3 a4 (labs_sh hB) (by omega) (by omega) hl⟩, law_row43 p (labs_sh hB) (by omega) hl⟩
theorem near_fits {s w nm t pj : List Nat} {pd path : D} {N A : Hst} {rows : List Row} {td : D} (ht : itD td = some (rows.map fun r => .str (rowT r))) (hr : ∀ r ∈ rows, RowOk r) (hN : Labs N) (hA : Labs A) : m_host_fits_56fd [.ins "Rule" RNs (ruF s w nm t pj pd (hD N) .non path), td, hD A] = .ok (.bl (decide (siteN rows A = siteN rows N))) := by
  have g5 : fldD ["Page", "Rule"] "host" (.ins "Rule" RNs (ruF s w nm t pj pd (hD N) .non path)) = some .non := rfl
  have g6 : fldD ["Rule"] "near" (.ins "Rule" RNs (ruF s w nm t pj pd (hD N) .non path)) = some (hD N) := rfl
  have isn : isD .non .non = some (.bl true) := rfl
  have s1 : m_site_of_0513 [td, hD A] = .ok (.tup ((siteN rows A).map .str)) := site_of_ok ht hr hA
  have s2 : m_site_of_0513 [td, hD N] = .ok (.tup ((siteN rows N).map .str)) := site_of_ok ht hr hN
  have eq := eqT (A := siteN rows A) (B := siteN rows N) (labs_drop _ hA) (labs_drop _ hN)
  unfold m_host_fits_56fd apR3
  simp only [e_host_fits_56fd, g5, g6, askR, pure_bind, isn, Option.bind_some, bOf_bl, if_true, s1, s2, lift_pR, okpR, eq]
  rfl
theorem pat_fits {s w nm t pj : List Nat} {pd path td : D} {I h t2 : List (List Nat)} {g : Bool} (p : PatI 1 4 3 2 I.reverse h t2 g) (hl : I.length ≤ 10) {A : Hst} (hA : Labs A) (lA : A.length ≤ 1000) : m_host_fits_56fd [.ins "Rule" RNs (ruF s w nm t pj pd .non (.ins "HostPattern" PNs (ptF (joinN [46] I) c_HOST h t2 g)) path), td, hD A] = .ok (.bl (rowN h t2 g A.reverse)) := by
  have g5 : fldD ["Page", "Rule"] "host" (.ins "Rule" RNs (ruF s w nm t pj pd .non (.ins "HostPattern" PNs (ptF (joinN [46] I) c_HOST h t2 g)) path)) = some (.ins "HostPattern" PNs (ptF (joinN [46] I) c_HOST h t2 g)) := rfl
  obtain ⟨a1, a2, a3, a4⟩ := pat_len p (by rw [List.length_reverse]; exact hl)
  have isn : isD (.ins "HostPattern" PNs (ptF (joinN [46] I) c_HOST h t2 g)) .non = some (.bl false) := rfl
  have o2 : insOk ["HostPattern", "PathPattern"] "shape" (.ins "HostPattern" PNs (ptF (joinN [46] I) c_HOST h t2 g)) = some () := rfl
  have d2 : dispM [("HostPattern", m_Pattern_shape_d275), ("PathPattern", m_Pattern_shape_d275)] (.ins "HostPattern" PNs (ptF (joinN [46] I) c_HOST h t2 g)) [] = .ok (.tup [.tup (h.map .str), .tup (t2.map .str), .bl g]) := rfl
  have shA := labs_sh hA
  have rf := row_fits43 (g := g) a3 a4 (R := A.reverse) (fun z m => shA z (List.mem_reverse.mp m)) (by omega) (by omega) (by rw [List.length_reverse]; exact lA)
  have rv : revD (hD A) = some (.tup (A.reverse.map .str)) := by
    show some (D.tup (A.map D.str).reverse) = _
    rw [List.map_reverse]
  unfold m_host_fits_56fd apR3
  simp only [e_host_fits_56fd, g5, askR, pure_bind, isn, Option.bind_some, bOf_bl, Bool.false_eq_true, if_false, sqp, o2, d2, lift_pR, okpR, rv, rf]
  rfl
theorem rule_fits_ok {s w nm t pj sch : List Nat} {pd near host path td : D} {A A0 B : Hst} {i : Int} {b c : Bool} (hw : Wd w) (ht : Dr t pd) (hg : Pg sch A0 i B) (o1 : insOk ["HostPattern", "PathPattern"] "shape" path = some ()) {sh : D} (d1 : dispM [("HostPattern", m_Pattern_shape_d275), ("PathPattern", m_Pattern_shape_d275)] path [] = .ok sh) (f1 : m_row_fits_a0db [sh, hD B] = .ok (.bl b)) (h1 : m_host_fits_56fd [.ins "Rule" RNs (ruF s w nm t pj pd near host path), td, hD A] = .ok (.bl c)) :
    m_rule_fits_7439 [.ins "Rule" RNs (ruF s w nm t pj pd near host path), td, hD A, pgD sch A0 i B] = .ok (.bl (fitB w sch i pd && (b && c))) := by
  have g1 : fldD ["Page", "Rule"] "scheme" (pgD sch A0 i B) = some (.str sch) := rfl
  have g2 : fldD ["Page"] "port" (pgD sch A0 i B) = some (.int i) := rfl
  have g3 : fldD ["Page", "Rule"] "path" (pgD sch A0 i B) = some (hD B) := rfl
  have g4 : fldD ["Page", "Rule"] "path" (.ins "Rule" RNs (ruF s w nm t pj pd near host path)) = some path := rfl
  have door := door40 (s := s) (nm := nm) (pj := pj) (near := near) (host := host) (path := path) (i := i) hw ht hg.sw
  unfold m_rule_fits_7439 apR4
  simp only [e_rule_fits_7439, g1, g2, g3, g4, askR, pure_bind, door, lift_pR, okpR, tru_bl, DL.notM, DL.orM, o1, d1, f1, h1]
  cases fitB w sch i pd <;> cases b <;> rfl
end FN
namespace DL
open PySem PySem.Spec PyProof.Rows L2 StX
end DL
namespace FN
open DL
end FN
namespace DL
end DL
namespace FN
open DL
end FN
namespace FN
open DL PySem PySem.W
theorem ix_hd {x : D} {xs : List D} : ixD (.tup (x :: xs)) (.int 0) = some x := by
  show ((L2.ixN (x :: xs).length 0).bind fun j => (x :: xs)[j]?) = _
  rw [ixN_ok (by omega) (by simp)]
  rfl
theorem lstrip_ok {z : List Nat} (h : z.length ≤ 1000000) : lstripD (.str z) (.str [33]) = some (.str (z.drop (z.takeWhile fun c => c == 33).length)) := by
  have e : (Txt.lstripChars ⟨z.toArray⟩ ⟨([33] : List Nat).toArray⟩).cps.toList = z.drop (z.takeWhile fun c => c == 33).length := by
    unfold Txt.lstripChars
    rw [PyProof.Rows.stripBy_eq, StrLaws.strSub_toList]
    have e1 : ((⟨([33] : List Nat).toArray⟩ : Str).cps.contains) = fun c => c == 33 := by
      funext c
      show ([33] : List Nat).toArray.contains c = _
      simp
      by_cases q : c = 33 <;> simp [q]
    rw [e1]
    show (z.drop (z.takeWhile fun c => c == 33).length).take (z.length - (z.takeWhile fun c => c == 33).length) = _
    rw [List.take_of_length_le (by rw [List.length_drop]; exact Nat.le_refl _)]
  show (if (Txt.lstripChars ⟨z.toArray⟩ ⟨([33] : List Nat).toArray⟩).cps.toList.length ≤ sizeLine then some (D.str (Txt.lstripChars ⟨z.toArray⟩ ⟨([33] : List Nat).toArray⟩).cps.toList) else none) = _
  rw [e, if_pos (by rw [List.length_drop, sizeLine_eq]; omega)]
def labT (r : Row) : List (List Nat) := match r.1 with
  | .wi => [42] :: r.2
  | _ => r.2
theorem law_split {r : Row} (h : RowOk r) : ∃ t, lstripD (.str (rowT r)) (.str [33]) = some (.str t) ∧ splitD (.str t) (.str [46]) = some ((labT r).map .str) := by
  obtain ⟨k, A⟩ := r
  have tx := row_tx h
  obtain ⟨hA, h1, h2, h3, h4⟩ := h
  dsimp only at hA h1 h2 h3 h4
  have ne : A ≠ [] := fun e => by rw [e] at h1; simp at h1
  obtain ⟨c, r, ej, hc⟩ := head_lab hA h1
  have c33 : (c == 33) = false := by
    have : c ≠ 33 := fun e => by rw [e] at hc; revert hc; decide
    simpa using this
  have ls := lstrip_ok (z := rowT (k, A)) (by have := tx.1; omega)
  cases k with
  | pl =>
    have e : rowT (.pl, A) = c :: r := ej
    refine ⟨joinN [46] A, ?_, split_labs hA h1 (by omega)⟩
    rw [ls, e, List.takeWhile_cons, c33, ← ej]
    rfl
  | wi =>
    refine ⟨rowT (.wi, A), ?_, ?_⟩
    · rw [ls]
      show some (D.str ((42 :: 46 :: joinN [46] A).drop ((42 :: 46 :: joinN [46] A).takeWhile fun c => c == 33).length)) = _
      rw [List.takeWhile_cons]
      rfl
    · have e : rowT (.wi, A) = joinN [46] ([42] :: A) := by
        cases A with
        | nil => exact absurd rfl ne
        | cons a A => rfl
      have hl := tx.1
      rw [e] at hl ⊢
      show (if 46 < 256 ∧ (joinN [46] ([42] :: A)).length ≤ 1000000 then some ((TL.spl [46] 0 [] (joinN [46] ([42] :: A))).map D.str) else none) = _
      rw [if_pos ⟨by omega, by omega⟩, joinN_eq, TL.spl_join (by simp) fun p m => by
        rcases List.mem_cons.mp m with rfl | m
        · decide
        · exact ch_free (by decide) (hA p m)]
      rfl
  | ex =>
    refine ⟨joinN [46] A, ?_, split_labs hA h1 (by omega)⟩
    rw [ls]
    show some (D.str ((33 :: joinN [46] A).drop ((33 :: joinN [46] A).takeWhile fun c => c == 33).length)) = _
    rw [ej, List.takeWhile_cons, List.takeWhile_cons, c33]
    rfl
end FN
namespace FN
open DL PySem PySem.W
end FN
namespace DL
open PySem L2
end DL
namespace DL
open PySem PySem.Spec PyProof.Rows L2 PySem.SeqAt PySem.MeetsSeq PySem.MeetsSeq2 PySem.MeetsSeq3 PySem.SeqRoads2
section
variable {prog : Program} {w : World} {A : Around} {R : Result → Shared → Prop}
inductive Eqs (prog : Program) (w : World) (A : Around) (J : Shared → Prop) : List (Value × Value) → List Bool → Prop where
  | nil : Eqs prog w A J [] []
  | cons {y x : Value} {r : Bool} {l : List (Value × Value)} {rs : List Bool} (h : ∀ (t : Shared) (E : Value → Shared → Prop) (Q : Bool → Shared → Prop), J t → (∀ t', J t' → Q r t') → wpAny (model prog w) A.in1 (eqBool y x) Q E t)
    (tl : Eqs prog w A J l rs) : Eqs prog w A J ((y, x) :: l) (r :: rs)
theorem Eqs.get {J : Shared → Prop} : ∀ {l : List (Value × Value)} {rs : List Bool} {i : Nat} {y x : Value}, Eqs prog w A J l rs → l[i]? = some (y, x) →
    ∃ r, rs[i]? = some r ∧ ∀ (t : Shared) (E : Value → Shared → Prop) (Q : Bool → Shared → Prop), J t → (∀ t', J t' → Q r t') → wpAny (model prog w) A.in1 (eqBool y x) Q E t
  | _, _, _, _, _, .nil, e => by simp at e
  | _, _, 0, _, _, .cons h _, e => by
    simp at e
    obtain ⟨rfl, rfl⟩ := e
    exact ⟨_, rfl, h⟩
  | _, _, i + 1, _, _, .cons _ tl, e => by
    obtain ⟨r, h1, h2⟩ := tl.get (i := i) (by simpa using e)
    exact ⟨r, by simpa using h1, h2⟩
end
def kdD : D → Nat
  | .non => 0
  | .bl _ => 1
  | .int _ => 2
  | .str _ => 3
  | _ => 4
end DL
namespace DL
open PySem PySem.Spec PyProof.Rows L2
end DL
namespace DL
open PySem PySem.Spec PyProof.Rows L2 StX
section
variable {K : PySem.W.Frag} {mg : Str → Option Value}
def KwRun {α : Type} (D : Addr) : List (Str × Value) → Sem α → Sem α → Prop
  | [], t, r => t = r
  | q :: l, t, r => ∃ (β γ : Type) (k1 : Option Value → Sem β) (k2 : β → Sem γ) (k3 : γ → Sem α) (a : β), t = ((nsGet D q.1 >>= k1) >>= k2) >>= k3 ∧ k1 (some q.2) = pure a ∧ KwRun D l (k2 a >>= k3) r
theorem KwRun.run {α : Type} {M : Model} {A : Around} {D : Addr} {Q : α → Shared → Prop} {E : Value → Shared → Prop} {s : Shared} (X : K.In s.heap) : ∀ {l : List (Str × Value)} {t r : Sem α}, (∀ q ∈ l, PySem.W.nsIn K D q.1 = some (some q.2)) → KwRun D l t r → wpAny M A r Q E s → wpAny M A t Q E s
  | [], _, _, _, e, h => by rw [show _ = _ from e]; exact h
  | q :: l, t, r, hl, e, h => by
    obtain ⟨β, γ, k1, k2, k3, a, rfl, e2, e3⟩ := e
    have flat : ((nsGet D q.1 >>= k1) >>= k2) >>= k3 = nsGet D q.1 >>= fun o => k1 o >>= fun b => k2 b >>= k3 := by simp only [bind_assoc]
    rw [flat]
    refine wpAny_bind ((PySem.W.looks_nsIn X (hl q (.head _))).at ?_)
    rw [e2, pure_bind]
    exact KwRun.run X (fun q hq => hl q (.tail _ hq)) e3 h
end
end DL
namespace DL
open PySem PySem.Spec PyProof.Rows L2
section
variable {K : PySem.W.Frag}
theorem xc_of {C : Addr} {b : PySem.OwnX.XB} (h : xcB K C b = true) : ∃ (b : PySem.OwnX.XB) (nm q : Str) (N : Addr) (bs bm : List Value) (sn : List Str) (sub : List Value) (ab : Bool) (col : Option Bool) (dd : Option Addr) (k0 k1 k2 k3 k5 : Option Value),
    K.lookup C = some (excClassObj nm q C N bs bm true sn sub ab col dd k0 k1 k2 k3 k5 b.nw) ∧ PySem.OwnX.overB b bm = true := by
  unfold xcB at h
  split at h
  · rename_i dd cd sl ho
    split at h
    · rename_i C' bm k0 k1 k2 k3 n k5 hm hs
      simp only [Bool.and_eq_true, Bool.not_eq_true', beq_iff_eq] at h
      obtain ⟨⟨rfl, rfl⟩, hd, hh, hb⟩ := h
      obtain ⟨a1, a2, a3, a4, a5, a6, a7, a8, a9, a10, a11⟩ := cd
      simp only at hm hd hh
      subst hm hd hh
      have es : sl = #[k0, k1, k2, k3, some (.builtin b.nw), k5] := by
        have := congrArg List.toArray hs
        simpa using this
      subst es
      exact ⟨b, _, _, _, _, bm, _, _, _, _, dd, k0, k1, k2, k3, k5, ho, hb⟩
    · cases h
  · cases h
theorem tupVB_is {mg : Str → Option Value} {a : Addr} {ds : List D} {vs : List V} (h : tupVB K a vs = true) (hs : IsL K mg (fun _ => none) ds vs) (hz : ds.length ≤ 1000) : Is K mg (fun _ => none) (.tup ds) (.ref a) := by
  unfold tupVB at h
  split at h
  · rename_i dd its n sl ho
    exact is_tupK (its := its.toList) (by rw [ho, Array.toArray_toList]) hs (He.relAll_ok h) hz
  · cases h
end
theorem walk_gE {l : PySem.W.OpenLaw} {n k : Nat} {q : Program} {loose : List Str} {XP : (Str → Option Value) → Heap → Prop} {YP : World → Heap → Prop} {d : DefRec} {x : Str} {g : List D → R D}
    (hn : l.most = some n) (hn2 : n ≤ sizeLine) (hdf : d.params.defaults = []) (hr : Room k callerA)
    (F : ∀ (w : World) (mg : Str → Option Value) (fa : Addr) (h : Heap), YP w h → h.Ns mainGlobals mg → mg d.name = some (.ref fa) →
      ∃ (K : PySem.W.Frag) (fd : FuncData), K.In h ∧ (∀ (s : Shared) (u : Value), BindsTo s fd ⟨[u], []⟩ [(x, u)]) ∧ ∀ base : Heap, K.In base → base.Ns mainGlobals mg → FnG l.prog w K mg base k fa fd [x] (spR K mg false 1 g))
    (hg : ∀ ns : List Int, ns.length ≤ n → g [.scr ns] = .ok (.bl true)) :
    PySem.W.WalkO q loose XP YP l.row.toRowW d [] (fun f vs => PySem.call f vs) := by
  refine Att.attach_call hn hdf fun w s0 s1 mg mb fa o pm cd doc a vs ns G Y ho hd hcd hmg hobj hints hlen hgn => ?_
  obtain ⟨K, fd, KX, hb, hF⟩ := F w mg fa _ Y G.T.g hmg
  exact law_callG KX G.T.g G.T.b G.T.builtins G.T.nolimit hgn hobj hints (Nat.le_trans hlen hn2) hr hF hb (hg ns hlen)
end DL
namespace DL
open PySem PySem.Spec PyProof.Rows L2
structure FL (K : PySem.W.Frag) (as : List Addr) (vs : List FnV) : Prop where
  v : as.map (fnV K) = vs
  c : as.all (fcB K) = true
section
variable {K : PySem.W.Frag} {h : Heap} {mg : Str → Option Value}
theorem ng_ok (X : K.In h) (G : h.Ns mainGlobals mg) {x : Str} (c : ngB K x = true) : mg x = some (.ref (gA K x)) := PySem.W.mg_of X G (of_decide_eq_true c)
theorem nn_ok (X : K.In h) (G : h.Ns mainGlobals mg) {x : Str} (c : nnB K x = true) : mg x = none := PySem.W.mg_none_of X G (of_decide_eq_true c)
theorem all_of {α : Type} {p : α → Bool} {l : List α} (h : l.all p = true) {a : α} (m : a ∈ l) : p a = true := List.all_eq_true.mp h a m
theorem fc_ok {a : Addr} {x qual : Str} {pa : Arguments} {bo : FuncBody} {sc : Scope} {g b : Addr} {cl : List Str} (e : fnV K a = some (x, qual, pa, bo, sc, g, cl, b)) (c : fcB K a = true) : codB K a qual = true ∧ PySem.W.keepIn K (.ref a) = true := by
  unfold fnV at e
  unfold fcB at c
  unfold codB
  cases q : K.lookup a with
  | none => rw [q] at c; cases c
  | some o =>
    obtain ⟨oc, od, dt, osl⟩ := o
    rw [q] at c e
    cases dt with
    | func fd =>
      have e2 : (some (fd.name, fd.qualname, fd.params, fd.body, fd.scope, fd.globals, fd.closure.map (·.1), fd.builtins) : FnV) = some (x, qual, pa, bo, sc, g, cl, b) := e
      simp only [Option.some.injEq, Prod.mk.injEq] at e2
      have c2 := He.ba c
      rw [e2.2.1] at c2
      exact c2
    | _ => cases c
theorem FL.hd {a : Addr} {as : List Addr} {v : FnV} {vs : List FnV} (F : FL K (a :: as) (v :: vs)) : (fnV K a = v ∧ fcB K a = true) ∧ FL K as vs := by
  obtain ⟨v, c⟩ := F
  rw [List.map_cons] at v
  rw [List.all_cons] at c
  obtain ⟨c1, c2⟩ := He.ba c
  exact ⟨⟨(List.cons.inj v).1, c1⟩, (List.cons.inj v).2, c2⟩
theorem FL.fn {a : Addr} {as : List Addr} {x q : Str} {st : Stmt} {vs : List FnV} (F : FL K (a :: as) (fnT x q st [] :: vs)) : ∃ f, Fun K x q st a f ∧ FL K as vs := by
  obtain ⟨⟨v, c⟩, r⟩ := F.hd
  obtain ⟨cc, k⟩ := fc_ok v c
  obtain ⟨oc, od, kV, dc, pm, an, cd, ct, sl, l, q⟩ := fun_of (pa := defArgs st) (bo := defBody st) (sc := defScope st) v cc
  exact ⟨_, fun_mk l q k, r⟩
theorem FL.fs {a : Addr} {as : List Addr} {x q : Str} {st : Stmt} {vs : List FnV} (F : FL K (a :: as) (fnT x q st [] :: vs)) : ∃ (kV dc pm : Value) (an : Option Addr) (cd ct : Value), Fun K x q st a (PySem.W.fnOf x q (defArgs st) (defBody st) (defScope st) .none kV dc pm an cd ct) ∧ FL K as vs := by
  obtain ⟨⟨v, c⟩, r⟩ := F.hd
  obtain ⟨cc, k⟩ := fc_ok v c
  obtain ⟨oc, od, kV, dc, pm, an, cd, ct, sl, l, q⟩ := fun_of (pa := defArgs st) (bo := defBody st) (sc := defScope st) v cc
  exact ⟨_, _, _, _, _, _, fun_mk l q k, r⟩
theorem cl_ok (X : K.In h) (G : h.Ns mainGlobals mg) {c : Str} (e : clB K c = true) : ClsN K mg c (gA K c) := by
  unfold clB at e
  obtain ⟨e1, e⟩ := He.ba e
  obtain ⟨e2, e⟩ := He.ba e
  obtain ⟨e3, e⟩ := He.ba e
  obtain ⟨e4, e⟩ := He.ba e
  obtain ⟨e5, e⟩ := He.ba e
  obtain ⟨e6, e⟩ := He.ba e
  obtain ⟨e7, e⟩ := He.ba e
  obtain ⟨e8, e9⟩ := He.ba e
  exact ⟨ng_ok X G e1, ⟨e2, e3, e4, of_decide_eq_true e5⟩, of_decide_eq_true e6, of_decide_eq_true e7, of_decide_eq_true e8, of_decide_eq_true e9⟩
theorem na_ok {c : Str} {fs : List Str} (e : naB K c fs = true) : ∀ f ∈ fs, NoAttr K (gA K c) f := fun f hf => of_decide_eq_true (p := PySem.W.findIn K (.ref (gA K c)) f = some none) (all_of e hf)
theorem mt_ok {c m : Str} {a : Addr} (e : mtB K c m a = true) : PySem.W.findIn K (.ref (gA K c)) m = some (some (.ref a)) ∧ PySem.W.isFn K (.ref a) = true := ⟨of_decide_eq_true (He.ba e).1, (He.ba e).2⟩
theorem mk_ok {c : Str} (e : mkB K c = true) : Mk K (gA K c) (mA K c "__init__") := ⟨(He.ba (He.ba e).2).1, (mt_ok (He.ba e).1).1, (mt_ok (He.ba e).1).2, (He.ba (He.ba e).2).2⟩
theorem eqC_ok (X : K.In h) (G : h.Ns mainGlobals mg) {c : Str} {a : Addr} {cs all : List Str} (hc : all.all (clB K) = true) (hs : ∀ d ∈ cs, d ∈ all) (e : eqB K c a cs = true) : PySem.W.findIn K (.ref (gA K c)) "__eq__" = some (some (.ref a)) ∧ PySem.W.isFn K (.ref a) = true ∧ (∀ T ∈ baseTys, PySem.W.notFirst K (gA K c) (.type T) = true) ∧
    (∀ c' ∈ cs, ∀ C', mg c' = some (.ref C') → PySem.W.notFirst K (gA K c) (.ref C') = true) ∧ PySem.W.findIn K (.ref (gA K c)) "__ne__" = some (some (.builtin "object.__ne__")) := by
  obtain ⟨e1, e⟩ := He.ba e
  obtain ⟨e2, e⟩ := He.ba e
  obtain ⟨e3, e4⟩ := He.ba e
  refine ⟨(mt_ok e1).1, (mt_ok e1).2, fun T hT => all_of e2 hT, fun d hd C' hC => ?_, of_decide_eq_true e4⟩
  have := (cl_ok X G (all_of hc (hs d hd))).mg
  rw [hC] at this
  cases this
  exact all_of e3 hd
theorem isC_ok (X : K.In h) (G : h.Ns mainGlobals mg) {c : Str} {all : List Str} {L : List (Str × Bool)} {B : List (String × Bool)} (hc : all.all (clB K) = true) (hs : ∀ q ∈ L, q.1 ∈ all) (e : isB K c L B = true) : IsT K mg (.ref (gA K c)) L B := by
  obtain ⟨e1, e⟩ := He.ba e
  obtain ⟨e2, e⟩ := He.ba e
  obtain ⟨e3, e⟩ := He.ba e
  obtain ⟨e4, e5⟩ := He.ba e
  exact ⟨fun q hq => ⟨_, cl_ok X G (all_of hc (hs q hq)), kit_subO e1 (of_decide_eq_true e2) (of_decide_eq_true e3) (of_decide_eq_true (all_of e4 hq))⟩, fun q hq => kit_subO e1 (of_decide_eq_true e2) (of_decide_eq_true e3) (of_decide_eq_true (all_of e5 hq))⟩
theorem FL.own (X : K.In h) (G : h.Ns mainGlobals mg) {x f q : Str} {b : PySem.OwnX.XB} {p1 p2 q1 q2 q3 q4 : Pos} {as : List Addr} {vs : List FnV} (F : FL K (mA K x "__init__" :: as) (some ("__init__", q, PySem.OwnX.iA f p1 p2, .stmts (PySem.OwnX.iB f q1 q2 q3 q4), PySem.OwnX.iS f, mainGlobals, [], builtinsNs) :: vs)) (e : xB K x f b = true)
    (fs : (f == ("self" : Str)) = false) (fb : (f == ("__debug__" : Str)) = false) (bd : ∀ (doc pm : Value) (an : Option Addr) (cdv ct u v : Value) (p1 p2 q1 q2 q3 q4 : Pos), bindArgs (PySem.W.fnOf "__init__" q (PySem.OwnX.iA f p1 p2) (PySem.OwnX.iB f q1 q2 q3 q4) (PySem.OwnX.iS f) .none .none doc pm an cdv ct) ⟨[u, v], []⟩ = pure [(("self" : Str), u), (f, v)]) :
    PySem.OwnX.OwnTxt K mg x f q (gA K x) (mA K x "__init__") ∧ FL K as vs := by
  obtain ⟨⟨v, c⟩, r⟩ := F.hd
  obtain ⟨cc, k⟩ := fc_ok v c
  unfold xB at e
  obtain ⟨e1, e⟩ := He.ba e
  obtain ⟨e2, e⟩ := He.ba e
  obtain ⟨e3, e⟩ := He.ba e
  obtain ⟨e4, e⟩ := He.ba e
  obtain ⟨e5, e⟩ := He.ba e
  obtain ⟨e6, e⟩ := He.ba e
  obtain ⟨e7, e⟩ := He.ba e
  obtain ⟨e8, e⟩ := He.ba e
  obtain ⟨e9, e⟩ := He.ba e
  obtain ⟨e10, e⟩ := He.ba e
  obtain ⟨e11, e⟩ := He.ba e
  obtain ⟨e12, e⟩ := He.ba e
  obtain ⟨e13, e⟩ := He.ba e
  obtain ⟨e14, e15⟩ := He.ba e
  obtain ⟨oc, od, dc, pm, an, cd, ct, sl, l, q⟩ := funN_of v cc e15
  exact ⟨{ fs := fs, fb := fb, bind := bd, gC := ng_ok X G e1, cls := xc_of e2, sa := of_decide_eq_true e3, ga := of_decide_eq_true e4, gg := of_decide_eq_true e5, noN := of_decide_eq_true e6, iC := of_decide_eq_true e7, tC := of_decide_eq_true e8, kC := e9, exC := of_decide_eq_true e10, tyC := of_decide_eq_true e11, hdC := e12, te := exm_self (of_decide_eq_true e10) e13 (of_decide_eq_true e11) (of_decide_eq_true e14), fn := ⟨oc, od, dc, pm, an, cd, ct, sl, _, _, _, _, _, _, l, q⟩ }, r⟩
theorem gs_ok (X : K.In h) (G : h.Ns mainGlobals mg) {c s : Str} {l : List Nat} (e : gsB K c s = true) (hs : s = ⟨l.toArray⟩) (hl : l.length ≤ 1000) : GlobIs K mg c (.str l) := by
  obtain ⟨t, e⟩ := strB_ok e
  exact globS (PySem.W.mg_of X G e) hs hl
theorem gi_ok (X : K.In h) (G : h.Ns mainGlobals mg) {c : Str} {i : Int} (e : giB K c i = true) : GlobIs K mg c (.int i) := by
  obtain ⟨t, e⟩ := intB_ok e
  exact globI (PySem.W.mg_of X G e)
theorem gt_ok (X : K.In h) (G : h.Ns mainGlobals mg) {c : Str} {ds : List D} {vs : List V} (e : gtB K c vs = true) (hs : IsL K mg (fun _ => none) ds vs) (hz : ds.length ≤ 1000) : GlobIs K mg c (.tup ds) := ⟨.ref (gA K c), .ref (gA K c), ng_ok X G (He.ba e).1, rfl, tupVB_is (He.ba e).2 hs hz⟩
theorem FL.sup {P : Program} (X : K.In h) (G : h.Ns mainGlobals mg) {a fb : Addr} {c x q : Str} {st : Stmt} {as : List Addr} {vs : List FnV} {xb qb : Str} {stb : Stmt} {fdb : FuncData} (F : FL K (a :: as) (fnT x q st ["__class__"] :: vs)) (B : Fun K xb qb stb fb fdb) (su : supB K a (gA K c) P.main.file = true) (sb : suB K c fb = true)
    (zs : nnB K "super" = true) (top : (P.main.scope.names.lookup ("super" : Str)).isSome = false) (tp : decide (PySem.W.nsIn K cStatics "thirdparty.any" = some none) = true) :
    (∃ f, SupFun P K mg x q st a fb (gA K c) f ∧ ∀ ps : List Str, (∀ (cc cda : Addr) (kV doc pm : Value) (an : Option Addr) (ct : Value) (us : List Value), us.length = ps.length → bindArgs (PySem.W.fnX x q (defArgs st) (defBody st) (defScope st) [("__class__", cc)] .none kV doc pm an (.ref cda) ct) ⟨us, []⟩ = pure (ps.zip us)) → Binds K f ps []) ∧ FL K as vs := by
  obtain ⟨⟨v, c⟩, r⟩ := F.hd
  obtain ⟨cc, k⟩ := fc_ok v c
  obtain ⟨oc, od, kV, dc, pm, an, cda, ct, sl, cc, ccl, cdd, vs, ccs, file, tf, cl, cld, csl, l, cq, lc, hv, hf, hcc⟩ := funX_of (st := st) v cc su
  obtain ⟨s1, s⟩ := He.ba sb
  obtain ⟨s2, s⟩ := He.ba s
  obtain ⟨s3, s4⟩ := He.ba s
  obtain ⟨ob, od2, kV2, dc2, pm2, an2, cd2, ct2, sl2, e2, lb, _⟩ := B.ex
  exact ⟨⟨_, supFun_mk l cq lc hv hf hcc s1 (of_decide_eq_true s2) (nn_ok X G zs) top (of_decide_eq_true s4) (of_decide_eq_true s3) lb (of_decide_eq_true tp), fun ps h => Binds.all fun us hl => h _ _ _ _ _ _ _ us hl⟩, r⟩
end
end DL
namespace DL
open PySem L2
end DL
namespace FN
open DL PySem PySem.W
end FN
namespace FN
open DL PySem PySem.W
end FN
namespace DL
open PySem PySem.Spec PyProof.Rows L2
end DL
namespace DL
open PySem PySem.Spec PyProof.Rows L2
def rCount (K : PySem.W.Frag) : V → List V → Hp → VK → Prop := fun x xs H Q => ∃ (a : Addr) (ys : List V) (y : V), x = V.ref a ∧ xs = [y] ∧ SqL K H a ys ∧ flatV y = true ∧ ys.all flatV = true ∧ Q (.int ((ys.countP fun z => eqV z y : Nat) : Int)) H
theorem count_rel {y : V} : ∀ {ys : List V} {us : List Value}, Vals ys us → ys.all flatV = true → us.countP (eqU y) = ys.countP fun z => eqV z y
  | _, _, .nil, _ => rfl
  | _, _, .cons r t, f => by
    rw [List.all_cons, Bool.and_eq_true] at f
    rw [List.countP_cons, List.countP_cons, count_rel t f.2, eqU_of r f.1]
section
variable {X : Cx}
section
variable {X : Cx}
/-- a list, as it lies -/
theorem list_lies {pins : List (Addr × Obj)} {s : Shared} {σ : L2.St} {H : Hp} {a : Addr} {ys : List V} (I : L2.Inv X pins σ H s) (seq : SqL X.K H a ys) :
    ∃ (its : List Value) (n : Nat) (dd : Option Addr) (sl : Array (Option Value)), Vals ys its ∧ s.heap.get? a = some { cls := .type "list", dict := dd, data := .seq its.toArray n, slots := sl } := by
  obtain ⟨its, vals, ⟨⟨c, dd, dt, sl⟩, n, lies, ec, -, ed⟩, -⟩ := I.list seq
  have ec' : c = .type "list" := ec
  have ed' : dt = .seq its.toArray n := ed
  exact ⟨its, n, dd, sl, vals, ec' ▸ ed' ▸ lies⟩
theorem mt_count : MtR X "list.count" (rCount X.K) := fun pins s σ H x xs v us Q I rx rxs ⟨a, ys, y, ex, exs, seq, fy, fys, q⟩ => by
  subst ex exs
  cases rx
  obtain ⟨u, rfl, ry⟩ := vals1 rxs
  obtain ⟨its, n, dd, sl, vals, lies⟩ := list_lies I seq
  refine call_meets PySem.F.slot_list_count ⟨_, lies, rfl⟩ PySem.F.entry_list_count (PySem.F.args_list_count_2 _ _) (SeqAt.list_countAt a its.toArray n dd sl u (eqU y)) ⟨lies, fun z hz => mem_eqAt ry fy vals fys z (by simpa using hz), ?_⟩
  have count : its.toArray.toList.countP (eqU y) = ys.countP fun z => eqV z y := count_rel vals fys
  rw [count]
  exact ⟨.int ((ys.countP fun z => eqV z y : Nat) : Int), H, I.tok _, ⟨_, rfl⟩, q⟩
end
end
end DL
namespace DL
open PySem PySem.Spec PyProof.Rows L2
end DL
namespace DL
open PySem PySem.Spec PyProof.Rows L2
section
variable {prog : Program} {w : World} {A : Around} {E : Value → Shared → Prop} {s : Shared}
section
variable {prog : Program} {w : World} {A : Around} {E : Value → Shared → Prop} {s : Shared}
/-- what «tuple» makes of a text -/
def TupOfText (Q : Value → Shared → Prop) (x : Str) (s : Shared) : Prop :=
  ∀ (s' : Shared) (acc : Array Value), (∀ b o, s.heap.get? b = some o → s'.heap.get? b = some o) → s'.gens = s.gens → s'.drawn = s.drawn → s'.os = s.os → ItemsOf (SignAt x) acc x.cps.size → Q (.ref s'.heap.objs.size) { s' with heap := s'.heap.push { cls := .type "tuple", data := .seq acc } }
theorem tuple_new_text {Q : Value → Shared → Prop} {x : Str} {t : Tok} (hh : A.handled = none) (hn : x.cps.size ≤ sizeLine) (got : TupOfText Q x s) :
    codeAny (model prog w) A (.call (.builtin "tuple.__new__") ⟨[.type "tuple", .str x t], []⟩) (wants Q E) s := by
  refine codeAny_of_tree (wpAny_bind (m := checkBuiltinCall "tuple.__new__" _) (wpAny_of_eq (F.newCall_tuple_1 (.str x t)) (wpAny_pure ⟨plainId_quiet F.plain_tuple_new _, codeAny_builtin F.entry_tuple_new ?_⟩)))
  rw [Around.under_plainId F.plain_tuple_new _]
  have lookups := And.intro sub_tuple_self (And.intro init_tuple_lookup madeHere_tuple)
  obtain ⟨sub, ini, made⟩ := lookups
  have text : s.TypeIs (.str x t) "str" := typeIs_str s x t
  wp_walk using wpAny_typeOf text, wpAny_collect_str (A := A.in1) (hn := hn) (show A.in1.handled = none from hh) x t
  intro s' acc k1 k2 k3 k4 items
  have size : acc.toList.toArray.size ≤ sizeLine := by rw [Array.toArray_toList, items.1]; exact hn
  refine wpAny_bind (m := Builtin.Tuple.tupleExact _) (wpAny_newObj_type (wpAny_pure ?_) size)
  rw [Array.toArray_toList]
  exact got s' acc k1 k2 k3 k4 items
/-- tuple(x), x a text: its signs -/
theorem call_tuple_str {Q : Value → Shared → Prop} (hh : A.handled = none) (x : Str) (t : Tok) (hn : x.cps.size ≤ sizeLine) (hQ : TupOfText Q x s) : wpAny (model prog w) A (call (.type "tuple") [.str x t]) Q E s :=
  callType_codes (Q₁ := fun v s1 => s1.TypeIs v "tuple" ∧ Q v s1) F.called_tuple (F.typeCall_tuple_1 _) F.entry_object_init (tuple_new_text (A := A.in1) hh hn fun s' acc k1 k2 k3 k4 items => ⟨⟨_, Heap.get?_push_size _ rfl, rfl⟩, hQ s' acc k1 k2 k3 k4 items⟩)
    fun v s1 ⟨is, q⟩ => ⟨is, F.args_object_init_2 v _, object_init_meets F.called_tuple.init.lookup F.called_tuple.made (by decide) prog w A.in1 _ s1 ⟨is, rfl, q⟩⟩
end
section
variable {X : Cx}
theorem call_tuple_chrs (hc : X.calm = true) : CallR X (.type "tuple") (fun xs H Q => ∃ z : List Nat, xs = [.str ⟨z.toArray⟩] ∧ z.length ≤ sizeLine ∧ ∀ q, H q = none → Q (.ref q) (upd H q (.tup (z.map fun c => .str ⟨#[c]⟩)))) := by
  intro pins s σ H xs us Q I r h
  obtain ⟨z, rfl, hz, q⟩ := h
  obtain ⟨u, rfl, rx⟩ := vals1 r
  obtain ⟨t, rfl⟩ := rx
  have hz' : (⟨z.toArray⟩ : Str).cps.size ≤ sizeLine := by
    show z.toArray.size ≤ sizeLine
    simpa using hz
  refine call_tuple_str (I.ok.hd hc) _ t hz' fun ⟨h', g', d', tk, o'⟩ acc hk eg ed eo hacc => ?_
  obtain rfl : g' = s.gens := eg
  obtain rfl : d' = s.drawn := ed
  obtain rfl : o' = s.os := eo
  have el : acc.toList.length = z.length := by
    have := hacc.1
    simpa using this
  have rv : Vals (z.map fun c => V.str ⟨#[c]⟩) acc.toList := by
    refine vals_of_at (by rw [List.length_map, el]) fun j x w h1 h2 => ?_
    obtain ⟨c, u, hc', ew⟩ := hacc.2 j w (by rw [← Array.getElem?_toList]; exact h2)
    subst ew
    have hc2 : z[j]? = some c := by
      have : z.toArray[j]? = some c := hc'
      rwa [List.getElem?_toArray] at this
    rw [List.getElem?_map, hc2] at h1
    cases h1
    exact ⟨u, rfl⟩
  have I1 : L2.Inv X pins σ H { s with heap := h', toks := tk } := I.kept (t' := tk) hk
  have I2 : L2.Inv X pins σ (upd H h'.objs.size (.tup (z.map fun c => V.str ⟨#[c]⟩))) { s with heap := h'.push { cls := .type "tuple", data := .seq acc }, toks := tk } :=
    I1.laid (t' := tk) (fun b o e => Heap.get?_push_of_some _ e) (Nat.le_refl _) (show ObjOk X.prog X.w _ _ _ (.tup (z.map fun c => V.str ⟨#[c]⟩)) from ⟨by simpa using hz, acc.toList, rv, by rw [Array.toArray_toList]; exact IsTup.new _ _⟩)
  exact ⟨.ref h'.objs.size, _, I2, rfl, q _ (I1.hok.fresh (Nat.le_refl _))⟩
end
end
section
variable {X : Cx}
def tupleXD : List D → Option D
  | [.str z] => some (.tup (chrs z))
  | ds => tupleD ds
theorem oc_tupleX (hc : X.calm = true) : CallR X (.type "tuple") (rDs X.K X.mg tupleXD) := by
  intro pins s σ H xs us Q I r h
  obtain ⟨Hf, ds, d, sb, l, e, q⟩ := h
  unfold tupleXD at e
  split at e
  · cases e
    obtain ⟨v, r1, rfl, ⟨rfl, hz⟩, rfl⟩ := l
    refine call_tuple_chrs hc pins s σ H _ us Q I r ⟨_, rfl, hz, fun p hp => q _ _ _ (.new sb hp) ?_⟩
    exact ⟨by unfold chrs; rw [List.length_map]; exact hz, p, _, rfl, .inl (.inl upd_same), isL_chrs _⟩
  · exact oc_tuple pins s σ H _ us Q I r ⟨Hf, _, d, sb, l, e, q⟩
end
end DL
namespace DL
open PySem PySem.Spec PyProof.Rows L2
end DL
namespace DL
open PySem PySem.Spec PyProof.Rows L2
end DL
namespace DL
open PySem PySem.W
structure STO {α : Type} (lt : α → α → Bool) : Prop where
  irr : ∀ a, lt a a = false
  trans : ∀ {a b c}, lt a b = true → lt b c = true → lt a c = true
  tri : ∀ a b, lt a b = true ∨ a = b ∨ lt b a = true
section
variable {α : Type} {lt : α → α → Bool} (O : STO lt)
include O
theorem STO.asym {a b : α} (h : lt a b = true) : lt b a = false := by
  cases q : lt b a with
  | false => rfl
  | true =>
    have := O.trans h q
    rw [O.irr] at this; cases this
theorem STO.le_iff {a b : α} : (!lt b a) = true ↔ lt a b = true ∨ a = b := by
  rw [Bool.not_eq_true']
  constructor
  · intro h
    rcases O.tri a b with q | q | q
    · exact .inl q
    · exact .inr q
    · rw [h] at q; cases q
  · rintro (h | rfl)
    · exact O.asym h
    · exact O.irr a
theorem STO.le_trans {a b c : α} (h1 : (!lt b a) = true) (h2 : (!lt c b) = true) : (!lt c a) = true := by
  rw [O.le_iff] at *
  rcases h1 with h1 | rfl
  · rcases h2 with h2 | rfl
    · exact .inl (O.trans h1 h2)
    · exact .inl h1
  · exact h2
end
end DL
namespace DL
open PySem PySem.Spec PyProof.Rows L2
end DL
namespace DL
open PySem PySem.Spec PyProof.Rows L2
end DL
namespace DL
open PySem PySem.Spec PyProof.Rows L2 HotX
end DL
namespace L2
open PySem PySem.Spec PyProof.Rows
end L2
namespace DL
open PySem PySem.Spec PyProof.Rows L2 HotX
end DL
namespace DL
open PySem PySem.Spec PyProof.Rows L2
end DL
namespace FN
open DL PySem PySem.W
variable {I : List (List Nat)} {l0 l1 mh mt : Nat} {x : D} {fs : List D}
theorem bols_map {α : Type} (f : α → Bool) : ∀ (L : List α), bolsOf (L.map fun a => D.bl (f a)) = some (L.map f)
  | [] => rfl
  | a :: L => by
    rw [List.map_cons]
    show (bolsOf (L.map fun a => D.bl (f a))).map (f a :: ·) = _
    rw [bols_map f L]; rfl
theorem all_map {α : Type} (f : α → Bool) (L : List α) : allD [.lst (L.map fun a => D.bl (f a))] = some (.bl (L.all f)) := by
  show (bolsOf (L.map fun a => D.bl (f a))).map (fun bs => D.bl (bs.all id)) = _
  rw [bols_map]
  show some (D.bl ((L.map f).all id)) = _
  rw [List.all_map]; rfl
def good (I : List (List Nat)) (l0 l1 mh mt : Nat) : Bool := decide (I.count gp ≤ 1) && (I.all (fun z => decide (z = gp) || isIt z) && (if gp ∈ I then decide (I.idxOf gp ≤ mh) && decide (I.length - I.idxOf gp - 1 ≤ mt) else decide (l0 ≤ I.length) && decide (I.length ≤ l1)))
theorem gapIx_len : ∀ (I : List (List Nat)) (k : Nat), (gapIx I k).length = I.count gp
  | [], _ => rfl
  | z :: r, k => by
    show (if z = gp then D.int (k : Int) :: gapIx r (k + 1) else gapIx r (k + 1)).length = _
    rw [List.count_cons]
    by_cases c : z = gp
    · rw [if_pos c, List.length_cons, gapIx_len r (k + 1)]; simp [c]
    · rw [if_neg c, gapIx_len r (k + 1)]; simp [c]
def badZ : D → Bool
  | .str z => !(decide (z = gp) || isIt z)
  | _ => false
theorem bad_any (I : List (List Nat)) : (lcF (fun d => some d) (fun (c19 : D) => (DL.andM (DL.ask ((neD c19 c_GAP).bind bOf)) (DL.notM (do let x25 ← (Mo.lift (m_is_label_text_206f [c19])); DL.ask (truD x25))))) (fun (c19 : D) => (pure c19)) (I.map D.str) : R (List D)) = .ok ((I.filter fun z => !(decide (z = gp) || isIt z)).map D.str) := by
  refine (lcR (u := fun d => some d) (xe := fun c19 : D => (pure c19 : R D)) (c := fun d => d) (p := badZ) (f := fun d => d) (I.map D.str) (fun _ _ => rfl) (fun d m => ?_) (fun _ _ _ => rfl)).trans ?_
  · obtain ⟨z, hz, rfl⟩ := List.mem_map.mp m
    have e1 : (neD (.str z) c_GAP).bind bOf = some (!decide (z = gp)) := by
      show (neD (.str z) (.str [42, 42])).bind bOf = _
      rw [ne_ss]
      rfl
    simp only [DL.andM, e1, askR, pure_bind, DL.notM, item_ok, lift_pR, okpR, tru_bl]
    show _ = pure (!(decide (z = gp) || isIt z))
    generalize decide (z = gp) = b
    cases b <;> rfl
  · rw [List.filter_map, List.map_id']
    rfl
theorem shape_bad1 (h : ¬ I.count gp ≤ 1) : m_shape_of_items_2081 [.lst (I.map .str), limD l0 l1 mh mt] = .ok .non := by
  have e1 : enumOf [.lst (I.map D.str)] = some (enumK I 0) := congrArg some (enumL_strs I)
  have e2 : unN 4 (limD l0 l1 mh mt) = some [.int (l0 : Int), .int (l1 : Int), .int (mh : Int), .int (mt : Int)] := rfl
  have eg := gaps_ok I
  have ll : lenD [.lst (gapIx I 0)] = some (.int (I.count gp : Int)) := by
    show some (D.int ((gapIx I 0).length : Int)) = _
    rw [gapIx_len]
  have g0 : (gtD (.int (I.count gp : Int)) (.int 1)).bind bOf = some true := by
    show some (decide _) = _
    rw [decide_eq_true (by omega)]
  unfold m_shape_of_items_2081 apR2
  simp only [e_shape_of_items_2081, e2, e1, askR, pure_bind, eg, okpR, ll, g0, DL.orM, if_true]
  rfl
theorem shape_bad2 (h : I.count gp ≤ 1) (hb : I.all (fun z => decide (z = gp) || isIt z) = false) : m_shape_of_items_2081 [.lst (I.map .str), limD l0 l1 mh mt] = .ok .non := by
  have e1 : enumOf [.lst (I.map D.str)] = some (enumK I 0) := congrArg some (enumL_strs I)
  have e2 : unN 4 (limD l0 l1 mh mt) = some [.int (l0 : Int), .int (l1 : Int), .int (mh : Int), .int (mt : Int)] := rfl
  have eg := gaps_ok I
  have ll : lenD [.lst (gapIx I 0)] = some (.int (I.count gp : Int)) := by
    show some (D.int ((gapIx I 0).length : Int)) = _
    rw [gapIx_len]
  have g0 : (gtD (.int (I.count gp : Int)) (.int 1)).bind bOf = some false := by
    show some (decide _) = _
    rw [decide_eq_false (by omega)]
  have t1 : truD (.lst ((I.filter fun z => !(decide (z = gp) || isIt z)).map D.str)) = some true := by
    show some (!((I.filter fun z => !(decide (z = gp) || isIt z)).map D.str).isEmpty) = _
    obtain ⟨z, m, hz⟩ := List.all_eq_false.mp hb
    have : z ∈ I.filter fun z => !(decide (z = gp) || isIt z) := List.mem_filter.mpr ⟨m, by simpa using hz⟩
    cases q : I.filter fun z => !(decide (z = gp) || isIt z) with
    | nil => rw [q] at this; cases this
    | cons a b => rfl
  have eb := bad_any I
  unfold m_shape_of_items_2081 apR2
  simp only [e_shape_of_items_2081, e2, e1, askR, pure_bind, eg, okpR, ll, g0, DL.orM, Bool.false_eq_true, if_false, it_lst, eb, t1]
  rfl
theorem shape_bad3 (h : ∀ z ∈ I, isIt z = true) (h0 : ¬ (l0 ≤ I.length ∧ I.length ≤ l1)) : m_shape_of_items_2081 [.lst (I.map .str), limD l0 l1 mh mt] = .ok .non := by
  have ng : gp ∉ I := fun m => it_gap (h _ m) rfl
  have e1 : enumOf [.lst (I.map D.str)] = some (enumK I 0) := congrArg some (enumL_strs I)
  have e2 : unN 4 (limD l0 l1 mh mt) = some [.int (l0 : Int), .int (l1 : Int), .int (mh : Int), .int (mt : Int)] := rfl
  have eg := gaps_ok I
  rw [gap_none ng] at eg
  have eb := bad_ok I fun z m => .inr (h z m)
  have l0' : lenD [.lst ([] : List D)] = some (.int 0) := rfl
  have g0 : (gtD (.int 0) (.int 1)).bind bOf = some false := rfl
  have hl : lenD [.lst (I.map D.str)] = some (.int (I.length : Int)) := by
    show some (D.int ((I.map D.str).length : Int)) = _
    rw [List.length_map]
  have t0 : truD (.lst ([] : List D)) = some false := rfl
  have ch : (chainM leD leD (pure (.int (l0 : Int))) (pure (.int (I.length : Int))) (pure (.int (l1 : Int))) : R D) = .ok (.bl false) := by
    unfold chainM
    simp only [le_l, askR, pure_bind, Option.bind_some, bOf_bl]
    by_cases c : l0 ≤ I.length
    · rw [decide_eq_true (show (l0 : Int) ≤ (I.length : Int) by omega), decide_eq_false (show ¬ (I.length : Int) ≤ (l1 : Int) by omega)]; rfl
    · rw [decide_eq_false (show ¬ (l0 : Int) ≤ (I.length : Int) by omega)]; rfl
  unfold m_shape_of_items_2081 apR2
  simp only [e_shape_of_items_2081, e2, e1, askR, pure_bind, eg, okpR, l0', g0, DL.orM, Bool.false_eq_true, if_false, it_lst, eb, t0]
  simp only [askR, pure_bind, okpR, t0, Bool.false_eq_true, if_false, DL.notM, Bool.not_false, sqp, if_true, iteM, List.getD_cons_zero, List.getD_cons_succ, hl, ch, bOf_bl]
  rfl
theorem shape_bad4 {A B : List (List Nat)} (hA : ∀ z ∈ A, isIt z = true) (hB : ∀ z ∈ B, isIt z = true) (h0 : ¬ (A.length ≤ mh ∧ B.length ≤ mt)) : m_shape_of_items_2081 [.lst ((A ++ gp :: B).map .str), limD l0 l1 mh mt] = .ok .non := by
  have na : gp ∉ A := fun m => it_gap (hA _ m) rfl
  have nb : gp ∉ B := fun m => it_gap (hB _ m) rfl
  have e1 : enumOf [.lst ((A ++ gp :: B).map D.str)] = some (enumK (A ++ gp :: B) 0) := congrArg some (enumL_strs _)
  have e2 : unN 4 (limD l0 l1 mh mt) = some [.int (l0 : Int), .int (l1 : Int), .int (mh : Int), .int (mt : Int)] := rfl
  have eg := gaps_ok (A ++ gp :: B)
  rw [gap_one na nb, Nat.zero_add] at eg
  have eb := bad_ok (A ++ gp :: B) fun z m => by
    rcases List.mem_append.mp m with m | m
    · exact .inr (hA z m)
    · rcases List.mem_cons.mp m with m | m
      · exact .inl m
      · exact .inr (hB z m)
  have l1' : lenD [.lst [D.int (A.length : Int)]] = some (.int 1) := rfl
  have g0 : (gtD (.int 1) (.int 1)).bind bOf = some false := rfl
  have t0 : truD (.lst ([] : List D)) = some false := rfl
  have t1 : truD (.lst [D.int (A.length : Int)]) = some true := rfl
  have x0 : ixD (.lst [D.int (A.length : Int)]) (.int 0) = some (.int (A.length : Int)) := rfl
  have i0 : ∀ i : Int, intOf (.int i) = some i := fun _ => rfl
  have c1 : cutL ((A ++ gp :: B).map D.str) none (some (A.length : Int)) = A.map D.str := by
    rw [show (A ++ gp :: B).map D.str = A.map D.str ++ (gp :: B).map D.str by simp]
    have : cutL (A.map D.str ++ (gp :: B).map D.str) none (some (A.length : Int)) = (A.map D.str ++ (gp :: B).map D.str).take A.length := cut_toD
    rw [this, List.take_left' (by simp)]
  have c2 : cutL ((A ++ gp :: B).map D.str) (some ((A.length : Int) + 1)) none = B.map D.str := by
    have : cutL ((A ++ gp :: B).map D.str) (some ((A.length : Int) + 1)) none = ((A ++ gp :: B).map D.str).drop (A.length + 1) := cut_fromD
    rw [this, show (A ++ gp :: B).map D.str = (A.map D.str ++ [D.str gp]) ++ B.map D.str by simp, List.drop_left' (by simp)]
  have ll : ∀ xs : List D, lenD [.tup xs] = some (.int (xs.length : Int)) := fun _ => rfl
  have q1 : (leD (.int ((A.map D.str).length : Int)) (.int (mh : Int))).bind bOf = some (decide (A.length ≤ mh)) := by
    rw [le_l]
    show some (decide _) = _
    rw [Option.some.injEq, Bool.eq_iff_iff, decide_eq_true_eq, decide_eq_true_eq, List.length_map]; omega
  have q2 : (leD (.int ((B.map D.str).length : Int)) (.int (mt : Int))).bind bOf = some (decide (B.length ≤ mt)) := by
    rw [le_l]
    show some (decide _) = _
    rw [Option.some.injEq, Bool.eq_iff_iff, decide_eq_true_eq, decide_eq_true_eq, List.length_map]; omega
  unfold m_shape_of_items_2081 apR2
  simp only [e_shape_of_items_2081, e2, e1, askR, pure_bind, eg, okpR, l1', g0, DL.orM, Bool.false_eq_true, if_false, it_lst, eb, t0]
  simp only [askR, pure_bind, okpR, Bool.false_eq_true, if_false, t0, t1, DL.notM, Bool.not_true, sqp, x0, i0, add_ii, slice_l, c1, c2, tup_lst, ll, List.getD_cons_zero, List.getD_cons_succ, DL.andM, q1, q2, iteM]
  by_cases c : A.length ≤ mh
  · rw [decide_eq_true c, decide_eq_false (fun q => h0 ⟨c, q⟩)]; rfl
  · rw [decide_eq_false c]; rfl
theorem idx_first : ∀ {A B : List (List Nat)}, gp ∉ A → (A ++ gp :: B).idxOf gp = A.length
  | [], B, _ => by simp
  | a :: A, B, h => by
    have ha : a ≠ gp := fun e => h (by rw [e]; exact .head _)
    have hb : (a == gp) = false := beq_false_of_ne ha
    rw [List.cons_append, List.idxOf_cons, hb, cond_false, idx_first fun m => h (.tail _ m), List.length_cons]
theorem shape_any : (good I l0 l1 mh mt = true → ∃ (h t : List (List Nat)) (g : Bool), m_shape_of_items_2081 [.lst (I.map .str), limD l0 l1 mh mt] = .ok (.tup [.tup (h.map .str), .tup (t.map .str), .bl g])) ∧ (good I l0 l1 mh mt = false → m_shape_of_items_2081 [.lst (I.map .str), limD l0 l1 mh mt] = .ok .non) := by
  unfold good
  by_cases c1 : I.count gp ≤ 1
  · cases c2 : I.all (fun z => decide (z = gp) || isIt z) with
    | false => exact ⟨fun e => by simp at e, fun _ => shape_bad2 c1 c2⟩
    | true =>
      have hz : ∀ z ∈ I, z = gp ∨ isIt z = true := fun z m => by simpa using List.all_eq_true.mp c2 z m
      rw [decide_eq_true c1, Bool.true_and, Bool.true_and]
      by_cases c3 : gp ∈ I
      · obtain ⟨A, B, rfl, na⟩ := List.eq_append_cons_of_mem c3
        have nb : gp ∉ B := fun m => by
          rw [List.count_append, List.count_cons_self] at c1
          have := List.count_pos_iff.mpr m
          omega
        have hA : ∀ z ∈ A, isIt z = true := fun z m => (hz z (List.mem_append_left _ m)).resolve_left fun e => na (e ▸ m)
        have hB : ∀ z ∈ B, isIt z = true := fun z m => (hz z (List.mem_append_right _ (.tail _ m))).resolve_left fun e => nb (e ▸ m)
        rw [if_pos c3, idx_first na]
        have e : (A ++ gp :: B).length - A.length - 1 = B.length := by rw [List.length_append, List.length_cons]; omega
        rw [e]
        refine ⟨fun q => ?_, fun q => shape_bad4 hA hB fun k => ?_⟩
        · rw [Bool.and_eq_true, decide_eq_true_eq, decide_eq_true_eq] at q
          exact ⟨A, B, true, shape_gap hA hB q.1 q.2⟩
        · rw [decide_eq_true k.1, decide_eq_true k.2] at q; cases q
      · have hI : ∀ z ∈ I, isIt z = true := fun z m => (hz z m).resolve_left fun e => c3 (e ▸ m)
        rw [if_neg c3]
        refine ⟨fun q => ?_, fun q => shape_bad3 hI fun k => ?_⟩
        · rw [Bool.and_eq_true, decide_eq_true_eq, decide_eq_true_eq] at q
          exact ⟨I, [], false, shape_plain hI q.1 q.2⟩
        · rw [decide_eq_true k.1, decide_eq_true k.2] at q; cases q
  · exact ⟨fun e => by simp [c1] at e, fun _ => shape_bad1 c1⟩
def goodH (T : List Nat) : Bool := good (TL.spl [46] 0 [] T).reverse 1 4 3 2
def itemsP (T : List Nat) : List (List Nat) := if T = [47] then [] else TL.spl [47] 0 [] (T.drop 1)
def goodP (T : List Nat) : Bool := decide (T.take 1 = [47]) && good (itemsP T) 0 3 2 2
theorem pat_none {x lv : D} : m_Pattern_init_4a0d [x, lv, .non] = raiseX "BadPattern" "pattern" x := rfl
theorem host_shape_any {T : List Nat} (hT : T.length ≤ 1000000) : (goodH T = true → ∃ (h t : List (List Nat)) (g : Bool), m_host_shape_b82b [.str T] = .ok (.tup [.tup (h.map .str), .tup (t.map .str), .bl g])) ∧ (goodH T = false → m_host_shape_b82b [.str T] = .ok .non) := by
  have is1 : isiD "str" (.str T) = some (.bl true) := rfl
  have sp := split_any (s := 46) (z := T) (by omega) hT
  have rv : revD (.lst ((TL.spl [46] 0 [] T).map D.str)) = some (.lst ((TL.spl [46] 0 [] T).reverse.map D.str)) := by
    rw [List.map_reverse]; rfl
  have e : m_host_shape_b82b [.str T] = m_shape_of_items_2081 [.lst ((TL.spl [46] 0 [] T).reverse.map D.str), limD 1 4 3 2] := by
    have q : ∀ r : R D, (runR false (do let v ← (Mo.lift r : R D); pure (Fl.rt v) : R (Fl Unit Empty))) = r := by
      intro r
      cases r <;> rfl
    unfold m_host_shape_b82b apR1
    simp only [e_host_shape_b82b, is1, askR, pure_bind, tru_bl, DL.notM, Bool.not_true, Bool.false_eq_true, if_false, sqp, str_of, sp, rv]
    exact q _
  rw [e]
  exact shape_any
theorem runR_lift (r : R D) : (runR false (do let v ← (Mo.lift r : R D); pure (Fl.rt v) : R (Fl Unit Empty))) = r := by
  cases r <;> rfl
theorem host_init_any {T : List Nat} (hT : T.length ≤ 1000000) : (goodH T = true → ∃ fs, m_HostPattern_init_23dd [.str T] = .ok (.str T :: fs)) ∧ (goodH T = false → m_HostPattern_init_23dd [.str T] = raiseX "BadPattern" "pattern" (.str T)) := by
  obtain ⟨h1, h2⟩ := host_shape_any hT
  refine ⟨fun q => ?_, fun q => ?_⟩
  · obtain ⟨h, t, g, e⟩ := h1 q
    refine ⟨[c_HOST, .tup (h.map .str), .tup (t.map .str), .bl g], ?_⟩
    unfold m_HostPattern_init_23dd apI1
    simp only [e, pure_bind, lift_pR, okpR]
    exact pat_init
  · unfold m_HostPattern_init_23dd apI1
    simp only [h2 q, pure_bind, lift_pR, okpR]
    exact pat_none
theorem path_shape_any {T : List Nat} (hT : T.length ≤ 1000000) : (goodP T = true → ∃ (h t : List (List Nat)) (g : Bool), m_path_shape_25b3 [.str T] = .ok (.tup [.tup (h.map .str), .tup (t.map .str), .bl g])) ∧ (goodP T = false → m_path_shape_25b3 [.str T] = .ok .non) := by
  have is1 : isiD "str" (.str T) = some (.bl true) := rfl
  have st : strM (fun a b => .bl (PySem.Txt.startswith ⟨a.toArray⟩ ⟨b.toArray⟩)) (.str T) (.str [47]) = some (.bl (decide (T.take 1 = [47]))) := by
    refine (congrArg (fun b => some (D.bl b)) (starts_eq T [47])).trans ?_
    have : (decide ([47].length ≤ T.length) && decide (T.take [47].length = [47])) = decide (T.take 1 = [47]) := by
      cases T with
      | nil => rfl
      | cons a T => simp
    rw [this]
  have s0 : szL [] = some [] := sz_ok (by simp)
  cases c : decide (T.take 1 = [47]) with
  | false =>
    have g0 : goodP T = false := by unfold goodP; rw [c]; rfl
    refine ⟨fun q => absurd (g0.symm.trans q) (by simp), fun _ => ?_⟩
    unfold m_path_shape_25b3 apR1
    simp only [e_path_shape_25b3, is1, askR, pure_bind, tru_bl, DL.notM, DL.orM, Bool.not_true, Bool.false_eq_true, if_false, str_of, st, c, Bool.not_false, if_true]
    rfl
  | true =>
    have sp := split_any (s := 47) (z := T.drop 1) (by omega) (by rw [List.length_drop]; omega)
    have i1 : intOf (.int 1) = some 1 := rfl
    have cd : sliceD (.str T) (some 1) none = some (.str (T.drop 1)) := by
      show some (D.str (cutL T (some 1) none)) = _
      rw [cut_lo (by omega)]; rfl
    have it : (iteM (m := R) (DL.ask ((neD (.str T) (.str [47])).bind bOf)) (mkL (do let i11 ← DL.ask (intOf (.int 1)); let x15 ← (DL.ask (sliceD (.str T) (some i11) none)); let _ ← DL.ask (strOf x15); DL.ask (splitD x15 (.str [47])))) (mkL (DL.ask (szL [])))) = pure (.lst ((itemsP T).map D.str)) := by
      unfold iteM itemsP
      simp only [ne_ss, Option.bind_some, bOf_bl, askR, pure_bind, i1, cd, str_of, sp, s0, mkL]
      by_cases d : T = [47]
      · rw [decide_eq_true d, if_pos d]; rfl
      · rw [decide_eq_false d, if_neg d]; rfl
    have e : m_path_shape_25b3 [.str T] = m_shape_of_items_2081 [.lst ((itemsP T).map D.str), limD 0 3 2 2] := by
      unfold m_path_shape_25b3 apR1
      simp only [e_path_shape_25b3, is1, askR, pure_bind, tru_bl, DL.notM, DL.orM, Bool.not_true, Bool.false_eq_true, if_false, sqp, str_of, st, c]
      rw [it]
      simp only [pure_bind]
      exact runR_lift _
    have g0 : goodP T = good (itemsP T) 0 3 2 2 := by unfold goodP; rw [c]; rfl
    rw [e, g0]
    exact shape_any
theorem path_init_any {T : List Nat} (hT : T.length ≤ 1000000) : (goodP T = true → ∃ fs, m_PathPattern_init_28de [.str T] = .ok (.str T :: fs)) ∧ (goodP T = false → m_PathPattern_init_28de [.str T] = raiseX "BadPattern" "pattern" (.str T)) := by
  obtain ⟨h1, h2⟩ := path_shape_any hT
  refine ⟨fun q => ?_, fun q => ?_⟩
  · obtain ⟨h, t, g, e⟩ := h1 q
    refine ⟨[c_PATH, .tup (h.map .str), .tup (t.map .str), .bl g], ?_⟩
    unfold m_PathPattern_init_28de apI1
    simp only [e, pure_bind, lift_pR, okpR]
    exact pat_init
  · unfold m_PathPattern_init_28de apI1
    simp only [h2 q, pure_bind, lift_pR, okpR]
    exact pat_none
end FN
namespace DL
open PySem PySem.Spec PyProof.Rows L2
end DL
namespace DL
open PySem PySem.Spec PyProof.Rows L2
end DL
namespace DL
open PySem PySem.Spec PyProof.Rows L2
end DL
namespace DL
open PySem PySem.Spec PyProof.Rows L2
end DL
namespace DL
open PySem PySem.Spec PyProof.Rows L2
end DL
namespace DL
open PySem PySem.Spec PyProof.Rows L2
section
variable {X : Cx} {j k : Nat} {L : List (Str × Str)} {M : List (Str × (List D → R D))}
theorem env_in {A : Around} {n : Nat} {pins : List (Addr × Obj)} {σ : L2.St} {H : Hp} {s : Shared} (sbx : L2.Sub X n A) (I : L2.Inv X pins σ H s) : Env0 X.prog X.w X.K X.mg X.base A X.stack s H := by
  have e := I.env0
  exact ⟨by rw [sbx.fr]; exact e.frames, e.mod, e.bs, e.bsz, e.funs, e.frf, e.hok, e.bare⟩
end
end DL
namespace DL
open PySem PySem.Spec PyProof.Rows L2
end DL
namespace DL
open PySem PySem.Spec PyProof.Rows L2
end DL
namespace DL
open PySem PySem.Spec PyProof.Rows L2
end DL
namespace DL
open PySem PySem.Spec PyProof.Rows L2
section
variable {K : PySem.W.Frag} {mg : Str → Option Value}
theorem spR_frz {n : Nat} {g : List D → R D} {vs : List V} {H : Hp} {Q : VK} {E : XK} (h : spR K mg false n g vs H Q E) : spR K mg true n g vs H Q E := by
  obtain ⟨hv, Hf, ds, sb, l, q⟩ := h
  refine ⟨hv, Hf, ds, sb, l, ?_⟩
  cases z : g ds with
  | ok d =>
    rw [z] at q
    rintro v Hf' H' e ⟨p, vs2, ds2, rfl, rfl, hp, hf, h0, l2, hz⟩
    have sb2 : Sub Hf' (upd Hf' p (.lst vs2)) := fun a o q => by
      have ne : a ≠ p := fun z => by rw [z, hf] at q; cases q
      rw [upd_ne ne]; exact q
    refine q (.ref p) (upd Hf' p (.lst vs2)) H' ⟨e.sub.trans sb2, fun a o q => ?_, e.keep, e.dom, fun a o q => ?_⟩ ⟨hz, p, vs2, rfl, upd_same, l2.mono sb2⟩
    · by_cases c : a = p
      · subst c; rw [upd_same] at q; cases q; exact hp
      · rw [upd_ne c] at q; exact e.top a o q
    · by_cases c : a = p
      · subst c; exact .inr h0
      · rw [upd_ne c] at q; exact e.fresh a o q
  | ex e => rw [z] at q; exact q
  | stuck => rw [z] at q; exact q
theorem FnP.frz {P : Program} {w : World} {base : Heap} {k n : Nat} {f : Addr} {ks : List Str} {g : List D → R D} (F : FnP P w K mg base k f ks (spR K mg true n g)) : FnP P w K mg base k f ks (spR K mg false n g) := F.imp fun _ _ _ _ h => spR_frz h
end
end DL
namespace DL
open PySem PySem.Spec PyProof.Rows L2
end DL
namespace DL
open PySem PySem.Spec PyProof.Rows L2
end DL
namespace DL
open PySem PySem.Spec PyProof.Rows L2
end DL
namespace DL
open PySem PySem.Spec PyProof.Rows L2
end DL
namespace DL
open PySem PySem.Spec PyProof.Rows L2
end DL
namespace DL
open PySem PySem.Spec PyProof.Rows L2
end DL
namespace GQ
open PySem PySem.SeqAt
open AutoSeq1 (wpAny_loadPart')
open MeetsSeq MeetsSeq2 MeetsSeq3 SeqRoads2
section
variable {prog : Program} {w : World} {A : Around} {R : Result → Shared → Prop}
def ListF (prog : Program) (w : World) (A : Around) (E : Value → Shared → Prop) (l : Addr) (x : Value) (N : Nat) (I : Nat → Shared → Prop) : Prop :=
  ∀ i s, I i s → ∃ (items : Array Value) (n : Nat), s.heap.get? l = some { cls := .type "list", data := .seq items n } ∧ items.size = N ∧
    ∀ (h1 : i < items.size), wpAny (model prog w) A.in1 (eqBool items[i] x) (fun r s' => r = false ∧ I (i + 1) s') E s
section
variable {prog : Program} {w : World} {A : Around} {R : Result → Shared → Prop}
theorem contains_loopG (l : Addr) (x : Value) (N : Nat) (I : Nat → Shared → Prop) (hl : ListF prog w A (fun e s' => R (.error e) s') l x N I)
    (fin : ∀ s, I N s → R (.ok (.ret (.bool false))) s) : ∀ k i : Nat, N - i = k → i ≤ N → ∀ s, I i s →
      wpAny (model prog w) A.in1 (Builtin.«list.__contains__.loop» ⟨[.ref l, x, rawInt i], []⟩) (FinOf prog w A R) (fun e s' => R (.error e) s') s
  | 0, i, few, le, s, h => by
    obtain ⟨items, n, lies, size, -⟩ := hl i s h
    obtain rfl : i = N := by omega
    have none_ : items[((i : Nat) : Int).toNat]? = none := Array.getElem?_eq_none (by rw [size]; exact Nat.le_refl _)
    have ends := fin s h
    cases s
    wp_walk using wpAny_loadPart' lies
    rw [none_]
    wp_walk
    exact ends
  | k + 1, i, few, le, s, h => by
    obtain ⟨items, n, lies, size, turn⟩ := hl i s h
    have here : i < items.size := by omega
    have some_ : items[((i : Nat) : Int).toNat]? = some items[i] := Array.getElem?_eq_getElem here
    have asked := turn here
    cases s
    wp_walk using wpAny_loadPart' lies
    rw [some_]
    refine wpAny_bind (wpAny_mono asked (fun r s2 got => ?_) fun _ _ e => e)
    obtain ⟨rfl, h2⟩ := got
    have rest := contains_loopG l x N I hl fin k (i + 1) (by omega) (by omega) s2 h2
    cases s2
    wp_walk
    refine ⟨plainId_quiet plain_contains_loop _, codeAny_builtin entry_contains_loop ?_⟩
    rw [Around.under_plainId plain_contains_loop _]
    exact rest
end
section
variable {prog : Program} {w : World} {A : Around} {R : Result → Shared → Prop}
theorem list_containsG (l : Addr) (x : Value) (N : Nat) (I : Nat → Shared → Prop) (hl : ListF prog w A (fun e s' => R (.error e) s') l x N I)
    (fin : ∀ s, I N s → R (.ok (.ret (.bool false))) s) {s : Shared} (h : I 0 s) : wpAny (model prog w) A.in1 (Builtin.«list.__contains__» ⟨[.ref l, x], []⟩) (FinOf prog w A R) (fun e s' => R (.error e) s') s := by
  have loop := contains_loopG (A := A) (R := R) l x N I hl fin N 0 rfl (Nat.zero_le _) s h
  obtain ⟨items, n, lies, -⟩ := hl 0 s h
  cases s
  wp_walk using wpAny_loadPart' lies
  refine ⟨plainId_quiet plain_contains_loop _, codeAny_builtin entry_contains_loop ?_⟩
  rw [Around.under_plainId plain_contains_loop _]
  exact loop
end
end
section
variable {prog : Program} {w : World} {A : Around} {E : Value → Shared → Prop} {s : Shared}
theorem in_listG {l : Addr} {x : Value} {N : Nat} {Q : Value → Shared → Prop} (I : Nat → Shared → Prop) (hl : ListF prog w A E l x N I)
    (fin : ∀ s, I N s → Q (.bool false) s) (h : I 0 s) : wpAny (model prog w) A (compareOp .In x (.ref l)) Q E s := by
  obtain ⟨items, n, hl1, _, _⟩ := hl _ _ h
  show wpAny _ _ (do return .bool (← contains (.ref l) x)) Q E s
  refine wpAny_bind (wpAny_contains_slot ⟨_, hl1, rfl⟩ F.slot_list_contains (call_here F.slot_list_contains ⟨_, hl1, rfl⟩ F.entry_list_contains (F.args_list_contains_2 _ _) ?_))
  exact list_containsG (R := wants (fun v s' => wpAny _ A (truthy v) (fun b s'' => wpAny _ A (pure (Value.bool b)) Q E s'') E s') E) l x N I hl (fun s' q => wpAny_truthy_bool (wpAny_pure (fin s' q))) h
end
end GQ
namespace DL
open PySem PySem.Spec PyProof.Rows PySem.SeqAt
open AutoSeq1 (wpAny_loadPart')
section
theorem int_declines_bool (b : Bool) (l C dx : Addr) :
    Meets (Builtin.«int.__eq__» ⟨[.bool b, .ref l], []⟩) (fun _ R s => s.heap.get? l = some (PySem.W.instObj C dx) ∧ R (.ok (.ret .notImplemented)) s) :=
  .of_wp fun _ _ _ _ s ⟨lies, q⟩ => by cases s; wp_walk using wpAny_loadPart' lies, wpAny_load lies; exact ⟨_, rfl, q⟩
end
section
theorem int_declines_int (b : Int) (u : Tok) (l C dx : Addr) :
    Meets (Builtin.«int.__eq__» ⟨[.int b u, .ref l], []⟩) (fun _ R s => s.heap.get? l = some (PySem.W.instObj C dx) ∧ R (.ok (.ret .notImplemented)) s) :=
  .of_wp fun _ _ _ _ s ⟨lies, q⟩ => by cases s; wp_walk using wpAny_loadPart' lies, wpAny_load lies; exact ⟨_, rfl, q⟩
end
section
variable {prog : Program} {w : World} {A : Around} {E : Value → Shared → Prop} {s : Shared} {K : PySem.W.Frag} {x C dx f : Addr} {od : Option Obj}
theorem flat_declines {u : Value} {T : String} (hu : (u = .none ∧ T = "NoneType") ∨ (∃ b, u = .bool b ∧ T = "bool") ∨ (∃ i t, u = .int i t ∧ T = "int")) (I : s.heap.get? x = some (PySem.W.instObj C dx)) {Q : Option Value → Shared → Prop} (h : Q none s) :
    wpAny (model prog w) A (tryCompare u "__eq__" (.ref x)) Q E s := by
  rcases hu with ⟨rfl, rfl⟩ | ⟨b, rfl, rfl⟩ | ⟨i, t, rfl, rfl⟩
  · exact wpAny_tryCompare_declines (show s.TypeIs .none "NoneType" from rfl) F.slot_NoneType_eq_refl (call_gives F.slot_NoneType_eq_refl rfl F.entry_NoneType_eq (F.args_NoneType_eq_2 _ _) (NoneType___eq___none_ref_0 x) ⟨rfl, h⟩)
  · exact wpAny_tryCompare_declines (show s.TypeIs (.bool b) "bool" from rfl) F.slot_bool_eq_refl (call_meets F.slot_bool_eq_refl rfl F.entry_int_eq (F.args_int_eq_2 _ _) (int_declines_bool b x C dx) ⟨I, rfl, h⟩)
  · exact wpAny_tryCompare_declines (typeIs_int s i t) F.slot_int_eq_refl (call_meets F.slot_int_eq_refl (typeIs_int s i t) F.entry_int_eq (F.args_int_eq_2 _ _) (int_declines_int i t x C dx) ⟨I, rfl, h⟩)
def FlatT (u : Value) (T : String) : Prop := (u = .none ∧ T = "NoneType") ∨ (∃ b, u = .bool b ∧ T = "bool") ∨ (∃ i t, u = .int i t ∧ T = "int")
theorem flat_ty {u : Value} {T : String} (hu : FlatT u T) : s.TypeIs u T := by
  rcases hu with ⟨rfl, rfl⟩ | ⟨b, rfl, rfl⟩ | ⟨i, t, rfl, rfl⟩
  · rfl
  · rfl
  · exact typeIs_int s i t
theorem rc_flat {u : Value} {T : String} {Q : Value → Shared → Prop} (hu : FlatT u T) (hc : A.units < cLine) (X : K.In s.heap) (I : PySem.W.InstAt s.heap x (PySem.W.instObj C dx) C od) (hn : PySem.W.subIn K (.ref C) (.type T) = some false)
    (hs : PySem.W.findIn K (.ref C) "__eq__" = some (some (.ref f))) (hf : PySem.W.isFn K (.ref f) = true) (h : wpAny (model prog w) A (call (.ref f) [.ref x, u]) (fun v s' => v = .bool false ∧ Q (.bool false) s') E s) :
    wpAny (model prog w) A (richCompare .Eq u (.ref x)) Q E s := by
  have two : wpAny (model prog w) A (tryCompare (.ref x) "__eq__" u) (fun r s' => r = some (.bool false) ∧ Q (.bool false) s') E s := by
    unfold tryCompare
    refine wpAny_bind (PySem.W.ifBound_K X I hs hf (wpAny_mono h (fun v s' hv => ?_) fun _ _ e => e))
    obtain ⟨rfl, q⟩ := hv
    exact wpAny_pure ⟨rfl, q⟩
  have ot : oneThing? .Eq u (.ref x) = none := by
    rcases hu with ⟨rfl, rfl⟩ | ⟨b, rfl, rfl⟩ | ⟨i, t, rfl, rfl⟩ <;> rfl
  have ht := flat_ty (s := s) hu
  simp only [richCompare, cmpInfo_Eq, ot]
  refine wpAny_holding (wpAny_bind (wpAny_cRoomFor hc ?_))
  refine wpAny_bind (wpAny_typeOf ht ?_)
  refine wpAny_bind (I.type.here ?_)
  split
  · refine wpAny_bind ((PySem.W.looks_subIn X hn).here ?_)
    simp only [Bool.false_eq_true, if_false, Bool.not_false, if_true]
    refine wpAny_bind (m := tryCompare u _ (.ref x)) (flat_declines hu I.at_ ?_)
    refine wpAny_bind (m := tryCompare (.ref x) _ u) (wpAny_mono two (fun r s1 z => ?_) fun _ _ e => e)
    obtain ⟨z1, z2⟩ := z
    subst z1
    exact wpAny_pure z2
  · rename_i q
    exact absurd (by simp) q
section
variable {prog : Program} {w : World} {A : Around} {E : Value → Shared → Prop} {s : Shared} {K : PySem.W.Frag} {x C dx f : Addr} {od : Option Obj}
theorem eq_flat {u : Value} {T : String} {Q : Bool → Shared → Prop} (hu : FlatT u T) (hc : A.units < cLine) (X : K.In s.heap) (I : PySem.W.InstAt s.heap x (PySem.W.instObj C dx) C od) (hn : PySem.W.subIn K (.ref C) (.type T) = some false)
    (hs : PySem.W.findIn K (.ref C) "__eq__" = some (some (.ref f))) (hf : PySem.W.isFn K (.ref f) = true) (h : wpAny (model prog w) A (call (.ref f) [.ref x, u]) (fun v s' => v = .bool false ∧ Q false s') E s) :
    wpAny (model prog w) A (eqBool u (.ref x)) Q E s := by
  have rc : wpAny (model prog w) A (richCompare .Eq u (.ref x)) (fun v s' => v = .bool false ∧ Q false s') E s := rc_flat hu hc X I hn hs hf (wpAny_mono h (fun v s' z => ⟨z.1, rfl, z.2⟩) fun _ _ e => e)
  rcases hu with ⟨rfl, rfl⟩ | ⟨b, rfl, rfl⟩ | ⟨i, t, rfl, rfl⟩
  all_goals
    unfold eqBool
    refine wpAny_holding ?_
    refine wpAny_ite_split (fun same => ?_) (fun _ => ?_)
    · cases eq_of_beq same
    refine wpAny_bind (wpAny_mono rc (fun v s' z => ?_) fun _ _ e => e)
    obtain ⟨rfl, q⟩ := z
    exact wpAny_truthy_bool q
end
end
def flatB : D → Option String
  | .non => some "NoneType"
  | .bl _ => some "bool"
  | .int _ => some "int"
  | _ => none
def inW (L : List (Str × (List D → R D))) (a b : D) : Option D := match a, b with
  | .ins c ns vs, .lst ds => (L.lookup c).bind fun g => if ds.all (fun d => (flatB d).isSome && (match toO (g [.ins c ns vs, d]) with | some (.bl false) => true | _ => false)) = true then some (.bl false) else none
  | a, b => inD a b
def EqRf (K : PySem.W.Frag) (mg : Str → Option Value) (c : Str) : Prop := ∀ C, mg c = some (.ref C) → ∀ T ∈ ["NoneType", "bool", "int"], PySem.W.subIn K (.ref C) (.type T) = some false
section
open L2
variable {X : Cx} {k : Nat} {L : List (Str × (List D → R D))}
theorem er_rf {K : PySem.W.Frag} {mg : Str → Option Value} {c : Str} {C : Addr} (cn : ClsN K mg c C) (h : PySem.W.subIn K (.ref C) (.type "NoneType") = some false ∧ PySem.W.subIn K (.ref C) (.type "bool") = some false ∧ PySem.W.subIn K (.ref C) (.type "int") = some false) : EqRf K mg c := fun C' e T hT => by
  rw [cn.mg] at e
  cases e
  simp only [List.mem_cons, List.not_mem_nil, or_false] at hT
  rcases hT with rfl | rfl | rfl
  · exact h.1
  · exact h.2.1
  · exact h.2.2
theorem er_ok {K : PySem.W.Frag} {C : Addr} (h : (decide (PySem.W.subIn K (.ref C) (.type "NoneType") = some false) && decide (PySem.W.subIn K (.ref C) (.type "bool") = some false) && decide (PySem.W.subIn K (.ref C) (.type "int") = some false)) = true) : PySem.W.subIn K (.ref C) (.type "NoneType") = some false ∧ PySem.W.subIn K (.ref C) (.type "bool") = some false ∧ PySem.W.subIn K (.ref C) (.type "int") = some false := by
  simp only [Bool.and_eq_true, decide_eq_true_eq] at h
  exact ⟨h.1.1, h.1.2, h.2⟩
theorem flat_is {H : Hp} {d : D} {v : V} {u : Value} {T : String} (e : flatB d = some T) (i : Is X.K X.mg H d v) (r : RelV v u) : FlatT u T ∧ T ∈ ["NoneType", "bool", "int"] := by
  cases d with
  | non => cases e; cases i; cases r; exact ⟨.inl ⟨rfl, rfl⟩, by simp⟩
  | bl b => cases e; cases i; cases r; exact ⟨.inr (.inl ⟨_, rfl, rfl⟩), by simp⟩
  | int j => cases e; cases i; obtain ⟨t, rfl⟩ := r; exact ⟨.inr (.inr ⟨_, _, rfl, rfl⟩), by simp⟩
  | _ => cases e
theorem od_inW {Ls : List Str} (hL : ∀ q ∈ L, EqC X.prog X.w X.K X.mg X.base k Ls q.1 q.2 ∧ EqRf X.K X.mg q.1) (hg : X.A.guards = some []) (hr : Room (k + 1) X.A) (hb : OpR X (compareOp .In) (rD2 X.K X.mg inD)) : OpR X (compareOp .In) (rD2 X.K X.mg (inW L)) := by
  intro pins s σ H x y v u Q I rx ry h
  obtain ⟨Hf, dx, dy, d, sb, ix, iy, e, q⟩ := h
  have other : inD dx dy = some d → wpAny (model X.prog X.w) X.A (compareOp .In v u) (EP X pins σ Q) X.xe s := fun e => hb pins s σ H x y v u Q I rx ry ⟨Hf, dx, dy, d, sb, ix, iy, e, q⟩
  cases dx with
  | ins c ns ws =>
    cases dy with
    | lst ds =>
      have e' : ((L.lookup c).bind fun g => if ds.all (fun d => (flatB d).isSome && (match toO (g [.ins c ns ws, d]) with | some (.bl false) => true | _ => false)) = true then some (D.bl false) else none) = some d := e
      cases hlk : L.lookup c with
      | none => rw [hlk] at e'; cases e'
      | some g =>
        rw [hlk] at e'
        by_cases hall : ds.all (fun d => (flatB d).isSome && (match toO (g [.ins c ns ws, d]) with | some (.bl false) => true | _ => false)) = true
        · have e2 : (if ds.all (fun d => (flatB d).isSome && (match toO (g [.ins c ns ws, d]) with | some (.bl false) => true | _ => false)) = true then some (D.bl false) else none) = some d := e'
          rw [if_pos hall] at e2
          cases e2
          obtain ⟨⟨C, f, cn, hs, hf, F, _⟩, hrf⟩ := hL _ (lookup_mem hlk)
          have ix' := ix
          obtain ⟨a, C', dx', us, ea, mC, hH, hl, l⟩ := ix
          rw [cn.mg] at mC
          cases mC
          subst ea
          cases (show v = Value.ref a from rx)
          obtain ⟨hz, p, vs, ep, hp, lv⟩ := iy
          subst ep
          cases (show u = Value.ref p from ry)
          have hsub := hrf C cn.mg
          refine GQ.in_listG (N := vs.length) (fun _ s' => ∃ Hf' H', Ste [] Hf H Hf' H' ∧ L2.Inv X pins σ H' s') (fun i s' z => ?_) (fun s' z => ?_) ⟨Hf, H, .refl sb, I⟩
          · obtain ⟨Hf1, H1, st, I1⟩ := id z
            obtain ⟨z1, its, k1, r, eo⟩ := I1.hok p _ (st.keep _ _ (sb _ _ hp) (by simp))
            refine ⟨its.toArray, k1, eo, by rw [List.size_toArray, ← r.length], fun h1 => ?_⟩
            have g1 : its[i]? = some its.toArray[i] := by
              have h1' : i < its.length := by simpa using h1
              rw [List.getElem?_eq_getElem h1'] <;> simp
            have k1' : i < vs.length := by rw [r.length]; simpa using h1
            obtain ⟨ui, hu, ru⟩ := r.get (List.getElem?_eq_getElem k1')
            rw [g1] at hu
            have hui := Option.some.inj hu
            rw [hui]
            have kd : i < ds.length := by rw [lv.len]; exact k1'
            obtain ⟨wi, hwi, iw⟩ := lv.get (List.getElem?_eq_getElem kd)
            rw [List.getElem?_eq_getElem k1'] at hwi
            cases Option.some.inj hwi
            have hd := List.all_eq_true.mp hall ds[i] (List.getElem_mem kd)
            rw [Bool.and_eq_true] at hd
            obtain ⟨hd1, hd2⟩ := hd
            obtain ⟨T, hT⟩ := Option.isSome_iff_exists.mp hd1
            obtain ⟨ft, hTm⟩ := flat_is hT iw ru
            have eg : toO (g [.ins c ns ws, ds[i]]) = some (.bl false) := by
              cases zz : toO (g [.ins c ns ws, ds[i]]) with
              | none => rw [zz] at hd2; cases hd2
              | some d => rw [zz] at hd2; cases d with
                | bl b => cases b with
                  | false => rfl
                  | true => cases hd2
                | _ => cases hd2
            obtain ⟨mA, O, _⟩ := ins_get I1.hok (st.keep _ _ (sb _ _ hH) (by simp))
            obtain ⟨od, J, _⟩ := O.look
            have sbx : L2.Sub X k X.A.in1 := ⟨hr.in1, rfl⟩
            refine eq_flat ft hr.in1.units0 I1.kIn J (hsub T hTm) hs hf ?_
            refine wpAny_mono (dun_run (A := X.A.in1) (us := [.ref a, ui]) (Q := fun v H' => v = .bl false ∧ ∃ Hf', Ste [] Hf1 H1 Hf' H') F hg hr.in1 (env_in sbx I1) I1 st.top (.cons (ix'.mono st.sub) (.cons (iw.mono st.sub) .nil)) rfl (.cons rfl (.cons ru .nil)) eg fun u Hf' H' st i => ⟨i, Hf', st⟩) (fun w s2 z => ?_) fun _ _ z => z
            obtain ⟨z', H2, I2, rz, ez, Hf2, st2⟩ := z
            subst ez
            cases rz
            exact ⟨rfl, rfl, Hf2, H2, st.trans st2, I2⟩
          · obtain ⟨Hf1, H1, st, I1⟩ := z
            exact ⟨.bl false, H1, I1, rfl, q _ Hf1 H1 st (is_bl _)⟩
        · have e2 : (if ds.all (fun d => (flatB d).isSome && (match toO (g [.ins c ns ws, d]) with | some (.bl false) => true | _ => false)) = true then some (D.bl false) else none) = some d := e'
          rw [if_neg hall] at e2
          cases e2
    | _ => exact other e
  | _ => exact other e
end
end DL
namespace DL
open PySem PySem.Spec PyProof.Rows L2
end DL
namespace FN
open DL PySem PySem.W
end FN
namespace FN
open DL
def k__law_moved_e405_0 (a1 : D) (c18 : D) (q17 : D × D) (c15 : D) : R (Fl (D × D) (D × D)) := (do let t43 ← (DL.andM (do let x28 ← (do let x25 ← (pure a1); let l26 ← (do let x23 ← (do let x22 ← (do let r21 ← (do let x19 ← (pure c18); let r20 ← pure []; pure (x19 :: r20)); DL.ask (lenD r21)); DL.ask (negD x22)); let i24 ← DL.ask (intOf x23); pure (some i24)); let u27 ← (pure none); DL.ask (sliceD x25 l26 u27)); let y29 ← (pure c18); DL.ask ((eqD x28 y29).bind bOf)) (do let x36 ← (do let r32 ← (do let x30 ← (pure c18); let r31 ← pure []; pure (x30 :: r31)); DL.ask (lenD r32)); let y37 ← (do let r35 ← (do let x33 ← (pure q17.1); let r34 ← pure []; pure (x33 :: r34)); DL.ask (lenD r35)); DL.ask ((gtD x36 y37).bind bOf))); seqF (if t43 = true then (do let v39 ← (pure c18); let v40 ← (do let x41 ← (pure c15); let y42 ← (pure (.int 0)); DL.ask (ixD x41 y42)); (pure (.nx (v39, v40)))) else (pure (.nx (q17.1, q17.2)))) fun (q38 : D × D) => (pure (.nx (q38.1, q38.2))))
def k__law_moved_e405_1 (a1 : D) (q46 : D × D) : R (Fl (Unit) (Empty)) := (do let v62 ← (do let x60 ← (do let x57 ← (pure a1); let l58 ← (pure none); let u59 ← (do let x55 ← (do let x53 ← (do let r49 ← (do let x47 ← (pure a1); let r48 ← pure []; pure (x47 :: r48)); DL.ask (lenD r49)); let y54 ← (do let r52 ← (do let x50 ← (pure q46.1); let r51 ← pure []; pure (x50 :: r51)); DL.ask (lenD r52)); DL.ask (subD x53 y54)); let i56 ← DL.ask (intOf x55); pure (some i56)); DL.ask (sliceD x57 l58 u59)); let y61 ← (pure q46.2); DL.ask (addD x60 y61)); pure (.rt v62))
def k__law_moved_e405_2 (a0 : D) (a1 : D) (c2 : D × D) : R (Fl (Unit) (Empty)) := (do let r63 ← (do let r13 ← (pure a0); DL.ask (itD r13)); seqF (forF (fun d => some d) (fun (q14 : D × D) (c15 : D) => (do let r45 ← (do let r16 ← (pure c15); DL.ask (itD r16)); seqF (forF (fun d => some d) (fun (q17 : D × D) (c18 : D) => (k__law_moved_e405_0 a1 c18 q17 c15)) r45 (q14.1, q14.2)) fun (q44 : D × D) => (pure (.nx (q44.1, q44.2))))) r63 (c2.1, c2.2)) fun (q46 : D × D) => (k__law_moved_e405_1 a1 q46))
def k__law_moved_e405_3 (a0 : D) (a1 : D) : R (Fl (Unit) (Empty)) := (do let v1 ← (do let r11 ← (do let x9 ← (do let r3 ← pure []; let r4 ← DL.ask (szL r3); pure (.tup r4)); let r10 ← (do let x7 ← (do let r5 ← pure []; let r6 ← DL.ask (szL r5); pure (.tup r6)); let r8 ← pure []; pure (x7 :: r8)); pure (x9 :: r10)); let r12 ← DL.ask (szL r11); pure (.tup r12)); let c2 ← DL.ask (un2 v1); (k__law_moved_e405_2 a0 a1 c2))
def b__law_moved_e405 (a0 a1 : D) : R (Fl Unit Empty) := (k__law_moved_e405_3 a0 a1)
theorem e__law_moved_e405 (a0 a1 : D) : b__law_moved_e405 a0 a1 = (do let r4 ← DL.ask (szL []); let r6 ← DL.ask (szL []); let r12 ← DL.ask (szL [(.tup r4), (.tup r6)]); let c2 ← DL.ask (un2 (.tup r12)); let r63 ← (DL.ask (itD a0)); seqF (forF (fun d => some d) (fun (q14 : D × D) (c15 : D) => (do let r45 ← (DL.ask (itD c15)); seqF (forF (fun d => some d) (fun (q17 : D × D) (c18 : D) => (do let t43 ← (DL.andM (do let x22 ← (DL.ask (lenD [c18])); let x23 ← (DL.ask (negD x22)); let i24 ← DL.ask (intOf x23); let x28 ← (DL.ask (sliceD a1 (some i24) none)); DL.ask ((eqD x28 c18).bind bOf)) (do let x36 ← (DL.ask (lenD [c18])); let y37 ← (DL.ask (lenD [q17.1])); DL.ask ((gtD x36 y37).bind bOf))); seqF (if t43 = true then (do let v40 ← (DL.ask (ixD c15 (.int 0))); (pure (.nx (c18, v40)))) else (pure (.nx (q17.1, q17.2)))) fun (q38 : D × D) => (pure (.nx (q38.1, q38.2))))) r45 (q14.1, q14.2)) fun (q44 : D × D) => (pure (.nx (q44.1, q44.2))))) r63 (c2.1, c2.2)) fun (q46 : D × D) => (do let x53 ← (DL.ask (lenD [a1])); let y54 ← (DL.ask (lenD [q46.1])); let x55 ← (DL.ask (subD x53 y54)); let i56 ← DL.ask (intOf x55); let x60 ← (DL.ask (sliceD a1 none (some i56))); let v62 ← (DL.ask (addD x60 q46.2)); pure (.rt v62))) := by
  unfold b__law_moved_e405; simp only [k__law_moved_e405_0, k__law_moved_e405_1, k__law_moved_e405_2, k__law_moved_e405_3, pure_bind, bind_assoc, mkL]
def m__law_moved_e405 : List D → R D := apR2 fun a0 a1 => (runR false (b__law_moved_e405 a0 a1))
def k__law_site_8604_0 (a1 : D) (v12 : D) (q10 : D × D) : R (Fl (D × D) (D × D)) := (do let v25 ← (iteM (do let x35 ← (do let x32 ← (pure a1); let l33 ← (do let x30 ← (do let x29 ← (do let r28 ← (do let x26 ← (pure v12); let r27 ← pure []; pure (x26 :: r27)); DL.ask (lenD r28)); DL.ask (negD x29)); let i31 ← DL.ask (intOf x30); pure (some i31)); let u34 ← (pure none); DL.ask (sliceD x32 l33 u34)); let y36 ← (pure v12); DL.ask ((eqD x35 y36).bind bOf)) (do let r44 ← (do let x42 ← (pure q10.1); let r43 ← (do let x40 ← (do let r39 ← (do let x37 ← (pure v12); let r38 ← pure []; pure (x37 :: r38)); DL.ask (lenD r39)); let r41 ← pure []; pure (x40 :: r41)); pure (x42 :: r43)); DL.ask (maxD r44)) (pure q10.1)); (pure (.nx (v25, q10.2))))
def k__law_site_8604_1 (a1 : D) (v12 : D) (q10 : D × D) : R (Fl (D) (D × D)) := (do let v50 ← (iteM (DL.andM (do let x57 ← (do let r53 ← (do let x51 ← (pure a1); let r52 ← pure []; pure (x51 :: r52)); DL.ask (lenD r53)); let y58 ← (do let r56 ← (do let x54 ← (pure v12); let r55 ← pure []; pure (x54 :: r55)); DL.ask (lenD r56)); DL.ask ((geD x57 y58).bind bOf)) (do let x75 ← (do let x67 ← (pure a1); let l68 ← (do let x65 ← (do let x63 ← (do let x62 ← (do let r61 ← (do let x59 ← (pure v12); let r60 ← pure []; pure (x59 :: r60)); DL.ask (lenD r61)); DL.ask (negD x62)); let y64 ← (pure (.int 1)); DL.ask (addD x63 y64)); let i66 ← DL.ask (intOf x65); pure (some i66)); let u69 ← (pure none); DL.ask (sliceD x67 l68 u69)); let y76 ← (do let x72 ← (pure v12); let l73 ← (do let x70 ← (pure (.int 1)); let i71 ← DL.ask (intOf x70); pure (some i71)); let u74 ← (pure none); DL.ask (sliceD x72 l73 u74)); DL.ask ((eqD x75 y76).bind bOf))) (do let r84 ← (do let x82 ← (pure q10.2); let r83 ← (do let x80 ← (do let r79 ← (do let x77 ← (pure v12); let r78 ← pure []; pure (x77 :: r78)); DL.ask (lenD r79)); let r81 ← pure []; pure (x80 :: r81)); pure (x82 :: r83)); DL.ask (maxD r84)) (pure q10.2)); (pure (.nx v50)))
def k__law_site_8604_2 (a1 : D) (v12 : D) (q10 : D × D) : R (Fl (D) (D × D)) := (do let t106 ← (do let x94 ← (do let x91 ← (pure a1); let l92 ← (do let x89 ← (do let x88 ← (do let r87 ← (do let x85 ← (pure v12); let r86 ← pure []; pure (x85 :: r86)); DL.ask (lenD r87)); DL.ask (negD x88)); let i90 ← DL.ask (intOf x89); pure (some i90)); let u93 ← (pure none); DL.ask (sliceD x91 l92 u93)); let y95 ← (pure v12); DL.ask ((eqD x94 y95).bind bOf)); seqF (if t106 = true then (do let v97 ← (do let r105 ← (do let x103 ← (pure q10.2); let r104 ← (do let x101 ← (do let r100 ← (do let x98 ← (pure v12); let r99 ← pure []; pure (x98 :: r99)); DL.ask (lenD r100)); let r102 ← pure []; pure (x101 :: r102)); pure (x103 :: r104)); DL.ask (maxD r105)); (pure (.nx v97))) else (pure (.nx q10.2))) fun (q96 : D) => (pure (.nx q96)))
def k__law_site_8604_3 (c11 : D) (a1 : D) (v12 : D) (q10 : D × D) : R (Fl (D × D) (D × D)) := (do let t108 ← (do let x22 ← (do let x20 ← (pure c11); let y21 ← (pure (.int 0)); DL.ask (ixD x20 y21)); let y23 ← (pure (.str [33])); DL.ask ((eqD x22 y23).bind bOf)); seqF (if t108 = true then (k__law_site_8604_0 a1 v12 q10) else (do let t107 ← (do let x47 ← (do let x45 ← (pure v12); let y46 ← (pure (.int 0)); DL.ask (ixD x45 y46)); let y48 ← (pure (.str [42])); DL.ask ((eqD x47 y48).bind bOf)); seqF (if t107 = true then (k__law_site_8604_1 a1 v12 q10) else (k__law_site_8604_2 a1 v12 q10)) fun (q49 : D) => (pure (.nx (q10.1, q49))))) fun (q24 : D × D) => (pure (.nx (q24.1, q24.2))))
def k__law_site_8604_4 (c11 : D) (a1 : D) (q10 : D × D) : R (Fl (D × D) (D × D)) := (do let v12 ← (do let r19 ← (do let x17 ← (mkL (do let x15 ← (do let x13 ← (pure c11); let _ ← DL.ask (strOf x13); let y14 ← (pure (.str [33])); DL.ask (lstripD x13 y14)); let _ ← DL.ask (strOf x15); let y16 ← (pure (.str [46])); DL.ask (splitD x15 y16))); let r18 ← pure []; pure (x17 :: r18)); DL.ask (tupleD r19)); (k__law_site_8604_3 c11 a1 v12 q10))
def k__law_site_8604_5 (a1 : D) (q109 : D × D) : R (Fl (Unit) (Empty)) := (do let v120 ← (do let x117 ← (pure a1); let l118 ← (do let x115 ← (do let x114 ← (iteM (do let x110 ← (pure q109.1); let y111 ← (pure (.int 0)); DL.ask ((gtD x110 y111).bind bOf)) (pure q109.1) (do let x112 ← (pure q109.2); let y113 ← (pure (.int 1)); DL.ask (addD x112 y113))); DL.ask (negD x114)); let i116 ← DL.ask (intOf x115); pure (some i116)); let u119 ← (pure none); DL.ask (sliceD x117 l118 u119)); pure (.rt v120))
def k__law_site_8604_6 (a0 : D) (a1 : D) : R (Fl (Unit) (Empty)) := (do let v1 ← (do let r7 ← (do let x5 ← (pure (.int 0)); let r6 ← (do let x3 ← (pure (.int 1)); let r4 ← pure []; pure (x3 :: r4)); pure (x5 :: r6)); let r8 ← DL.ask (szL r7); pure (.tup r8)); let c2 ← DL.ask (un2 v1); (do let r121 ← (do let r9 ← (pure a0); DL.ask (itD r9)); seqF (forF (fun d => some d) (fun (q10 : D × D) (c11 : D) => (k__law_site_8604_4 c11 a1 q10)) r121 (c2.1, c2.2)) fun (q109 : D × D) => (k__law_site_8604_5 a1 q109)))
def b__law_site_8604 (a0 a1 : D) : R (Fl Unit Empty) := (k__law_site_8604_6 a0 a1)
theorem e__law_site_8604 (a0 a1 : D) : b__law_site_8604 a0 a1 = (do let r8 ← DL.ask (szL [(.int 0), (.int 1)]); let c2 ← DL.ask (un2 (.tup r8)); let r121 ← (DL.ask (itD a0)); seqF (forF (fun d => some d) (fun (q10 : D × D) (c11 : D) => (do let _ ← DL.ask (strOf c11); let x15 ← (DL.ask (lstripD c11 (.str [33]))); let _ ← DL.ask (strOf x15); let x17 ← (DL.ask (splitD x15 (.str [46]))); let v12 ← (DL.ask (tupleD [(.lst x17)])); let x22 ← (DL.ask (ixD c11 (.int 0))); let t108 ← (DL.ask ((eqD x22 (.str [33])).bind bOf)); seqF (if t108 = true then (do let v25 ← (iteM (do let x29 ← (DL.ask (lenD [v12])); let x30 ← (DL.ask (negD x29)); let i31 ← DL.ask (intOf x30); let x35 ← (DL.ask (sliceD a1 (some i31) none)); DL.ask ((eqD x35 v12).bind bOf)) (do let x40 ← (DL.ask (lenD [v12])); DL.ask (maxD [q10.1, x40])) (pure q10.1)); (pure (.nx (v25, q10.2)))) else (do let x47 ← (DL.ask (ixD v12 (.int 0))); let t107 ← (DL.ask ((eqD x47 (.str [42])).bind bOf)); seqF (if t107 = true then (do let v50 ← (iteM (DL.andM (do let x57 ← (DL.ask (lenD [a1])); let y58 ← (DL.ask (lenD [v12])); DL.ask ((geD x57 y58).bind bOf)) (do let x62 ← (DL.ask (lenD [v12])); let x63 ← (DL.ask (negD x62)); let x65 ← (DL.ask (addD x63 (.int 1))); let i66 ← DL.ask (intOf x65); let x75 ← (DL.ask (sliceD a1 (some i66) none)); let i71 ← DL.ask (intOf (.int 1)); let y76 ← (DL.ask (sliceD v12 (some i71) none)); DL.ask ((eqD x75 y76).bind bOf))) (do let x80 ← (DL.ask (lenD [v12])); DL.ask (maxD [q10.2, x80])) (pure q10.2)); (pure (.nx v50))) else (do let x88 ← (DL.ask (lenD [v12])); let x89 ← (DL.ask (negD x88)); let i90 ← DL.ask (intOf x89); let x94 ← (DL.ask (sliceD a1 (some i90) none)); let t106 ← (DL.ask ((eqD x94 v12).bind bOf)); seqF (if t106 = true then (do let x101 ← (DL.ask (lenD [v12])); let v97 ← (DL.ask (maxD [q10.2, x101])); (pure (.nx v97))) else (pure (.nx q10.2))) fun (q96 : D) => (pure (.nx q96)))) fun (q49 : D) => (pure (.nx (q10.1, q49))))) fun (q24 : D × D) => (pure (.nx (q24.1, q24.2))))) r121 (c2.1, c2.2)) fun (q109 : D × D) => (do let x114 ← (iteM (DL.ask ((gtD q109.1 (.int 0)).bind bOf)) (pure q109.1) (DL.ask (addD q109.2 (.int 1)))); let x115 ← (DL.ask (negD x114)); let i116 ← DL.ask (intOf x115); let v120 ← (DL.ask (sliceD a1 (some i116) none)); pure (.rt v120))) := by
  unfold b__law_site_8604; simp only [k__law_site_8604_0, k__law_site_8604_1, k__law_site_8604_2, k__law_site_8604_3, k__law_site_8604_4, k__law_site_8604_5, k__law_site_8604_6, pure_bind, bind_assoc, mkL]
def m__law_site_8604 : List D → R D := apR2 fun a0 a1 => (runR false (b__law_site_8604 a0 a1))
def k__law_matches_aa11_0 (c4 : List D) (c2 : List D) (a2 : D) (v32 : D) : R (Fl (Unit) (Empty)) := (do let v66 ← (andV (do let r51 ← (do let x49 ← (pure (c4.getD 4 .non)); let r50 ← (do let x47 ← (mkL (do let r45 ← (do let x43 ← (pure (c2.getD 3 .non)); let r44 ← pure []; pure (x43 :: r44)); let r46 ← DL.ask (listD r45); DL.ask (szL r46))); let r48 ← pure []; pure (x47 :: r48)); pure (x49 :: r50)); Mo.lift (m__law_row_fits_3c3f r51)) (do let x64 ← (do let r56 ← (do let x54 ← (pure a2); let r55 ← (do let x52 ← (pure v32); let r53 ← pure []; pure (x52 :: r53)); pure (x54 :: r55)); Mo.lift (m__law_site_8604 r56)); let y65 ← (do let r63 ← (do let x61 ← (pure a2); let r62 ← (do let x59 ← (do let x57 ← (pure (c4.getD 2 .non)); let y58 ← (pure (.int 1)); DL.ask (ixD x57 y58)); let r60 ← pure []; pure (x59 :: r60)); pure (x61 :: r62)); Mo.lift (m__law_site_8604 r63)); DL.ask (eqD x64 y65))); pure (.rt v66))
def k__law_matches_aa11_1 (c4 : List D) (c2 : List D) (v32 : D) : R (Fl (Unit) (Empty)) := (do let v87 ← (andV (do let r75 ← (do let x73 ← (pure (c4.getD 4 .non)); let r74 ← (do let x71 ← (mkL (do let r69 ← (do let x67 ← (pure (c2.getD 3 .non)); let r68 ← pure []; pure (x67 :: r68)); let r70 ← DL.ask (listD r69); DL.ask (szL r70))); let r72 ← pure []; pure (x71 :: r72)); pure (x73 :: r74)); Mo.lift (m__law_row_fits_3c3f r75)) (do let r86 ← (do let x84 ← (do let x76 ← (pure (c4.getD 2 .non)); let y77 ← (pure (.int 1)); DL.ask (ixD x76 y77)); let r85 ← (do let x82 ← (mkL (do let r80 ← (do let x78 ← (pure v32); let r79 ← pure []; pure (x78 :: r79)); let r81 ← DL.ask (listD r80); DL.ask (szL r81))); let r83 ← pure []; pure (x82 :: r83)); pure (x84 :: r85)); Mo.lift (m__law_row_fits_3c3f r86))); pure (.rt v87))
def k__law_matches_aa11_2 (a3 : D) (c2 : List D) (c4 : List D) (a2 : D) : R (Fl (Unit) (Empty)) := (do let v32 ← (do let r37 ← (do let x35 ← (pure a3); let r36 ← (do let x33 ← (pure (c2.getD 1 .non)); let r34 ← pure []; pure (x33 :: r34)); pure (x35 :: r36)); Mo.lift (m__law_moved_e405 r37)); (do let t88 ← (do let x40 ← (do let x38 ← (pure (c4.getD 2 .non)); let y39 ← (pure (.int 0)); DL.ask (ixD x38 y39)); let y41 ← (pure (.str [126])); DL.ask ((eqD x40 y41).bind bOf)); seqF (if t88 = true then (k__law_matches_aa11_0 c4 c2 a2 v32) else (pure (.nx ()))) fun (q42 : Unit) => (k__law_matches_aa11_1 c4 c2 v32)))
def k__law_matches_aa11_3 (c4 : List D) (c2 : List D) (a3 : D) (a2 : D) : R (Fl (Unit) (Empty)) := (do let t89 ← (DL.andM (do let x23 ← (pure (c4.getD 3 .non)); let y24 ← (pure .non); DL.ask ((isNotD x23 y24).bind bOf)) (DL.notM (do let x29 ← (chainM leD leD (do let x25 ← (pure (c4.getD 3 .non)); let y26 ← (pure (.int 0)); DL.ask (ixD x25 y26)) (pure (c2.getD 2 .non)) (do let x27 ← (pure (c4.getD 3 .non)); let y28 ← (pure (.int 1)); DL.ask (ixD x27 y28))); DL.ask (bOf x29)))); seqF (if t89 = true then (do let v31 ← (pure (.bl false)); pure (.rt v31)) else (pure (.nx ()))) fun (q30 : Unit) => (k__law_matches_aa11_2 a3 c2 c4 a2))
def k__law_matches_aa11_4 (c4 : List D) (c2 : List D) (a3 : D) (a2 : D) : R (Fl (Unit) (Empty)) := (do let t90 ← (DL.andM (do let x14 ← (pure (c4.getD 3 .non)); let y15 ← (pure .non); DL.ask ((isD x14 y15).bind bOf)) (do let x19 ← (pure (c2.getD 2 .non)); let y20 ← (do let r18 ← (do let x16 ← (pure (c2.getD 0 .non)); let r17 ← pure []; pure (x16 :: r17)); Mo.lift (m__law_default_6094 r18)); DL.ask ((neD x19 y20).bind bOf))); seqF (if t90 = true then (do let v22 ← (pure (.bl false)); pure (.rt v22)) else (pure (.nx ()))) fun (q21 : Unit) => (k__law_matches_aa11_3 c4 c2 a3 a2))
def k__law_matches_aa11_5 (c4 : List D) (c2 : List D) (a3 : D) (a2 : D) : R (Fl (Unit) (Empty)) := (do let t91 ← (do let x10 ← (pure (c4.getD 1 .non)); let y11 ← (mkL (do let r9 ← (do let x7 ← (pure (.str [97, 110, 121])); let r8 ← (do let x5 ← (pure (c2.getD 0 .non)); let r6 ← pure []; pure (x5 :: r6)); pure (x7 :: r8)); DL.ask (szL r9))); DL.ask ((notInD x10 y11).bind bOf)); seqF (if t91 = true then (do let v13 ← (pure (.bl false)); pure (.rt v13)) else (pure (.nx ()))) fun (q12 : Unit) => (k__law_matches_aa11_4 c4 c2 a3 a2))
def b__law_matches_aa11 (a0 a1 a2 a3 : D) : R (Fl Unit Empty) := (do let v1 ← (pure a1); let c2 ← DL.ask ((unN 4) v1); (do let v3 ← (pure a0); let c4 ← DL.ask ((unN 5) v3); (k__law_matches_aa11_5 c4 c2 a3 a2)))
theorem e__law_matches_aa11 (a0 a1 a2 a3 : D) : b__law_matches_aa11 a0 a1 a2 a3 = (do let c2 ← DL.ask ((unN 4) a1); let c4 ← DL.ask ((unN 5) a0); let y11 ← (DL.ask (szL [(.str [97, 110, 121]), (c2.getD 0 .non)])); let t91 ← (DL.ask ((notInD (c4.getD 1 .non) (.lst y11)).bind bOf)); seqF (if t91 = true then (pure (.rt (.bl false))) else (pure (.nx ()))) fun (q12 : Unit) => (do let t90 ← (DL.andM (DL.ask ((isD (c4.getD 3 .non) .non).bind bOf)) (do let y20 ← (Mo.lift (m__law_default_6094 [(c2.getD 0 .non)])); DL.ask ((neD (c2.getD 2 .non) y20).bind bOf))); seqF (if t90 = true then (pure (.rt (.bl false))) else (pure (.nx ()))) fun (q21 : Unit) => (do let t89 ← (DL.andM (DL.ask ((isNotD (c4.getD 3 .non) .non).bind bOf)) (DL.notM (do let x29 ← (chainM leD leD (DL.ask (ixD (c4.getD 3 .non) (.int 0))) (pure (c2.getD 2 .non)) (DL.ask (ixD (c4.getD 3 .non) (.int 1)))); DL.ask (bOf x29)))); seqF (if t89 = true then (pure (.rt (.bl false))) else (pure (.nx ()))) fun (q30 : Unit) => (do let v32 ← (Mo.lift (m__law_moved_e405 [a3, (c2.getD 1 .non)])); let x40 ← (DL.ask (ixD (c4.getD 2 .non) (.int 0))); let t88 ← (DL.ask ((eqD x40 (.str [126])).bind bOf)); seqF (if t88 = true then (do let v66 ← (andV (do let r46 ← DL.ask (listD [(c2.getD 3 .non)]); let x47 ← (DL.ask (szL r46)); Mo.lift (m__law_row_fits_3c3f [(c4.getD 4 .non), (.lst x47)])) (do let x64 ← (Mo.lift (m__law_site_8604 [a2, v32])); let x59 ← (DL.ask (ixD (c4.getD 2 .non) (.int 1))); let y65 ← (Mo.lift (m__law_site_8604 [a2, x59])); DL.ask (eqD x64 y65))); pure (.rt v66)) else (pure (.nx ()))) fun (q42 : Unit) => (do let v87 ← (andV (do let r70 ← DL.ask (listD [(c2.getD 3 .non)]); let x71 ← (DL.ask (szL r70)); Mo.lift (m__law_row_fits_3c3f [(c4.getD 4 .non), (.lst x71)])) (do let x84 ← (DL.ask (ixD (c4.getD 2 .non) (.int 1))); let r81 ← DL.ask (listD [v32]); let x82 ← (DL.ask (szL r81)); Mo.lift (m__law_row_fits_3c3f [x84, (.lst x82)]))); pure (.rt v87)))))) := by
  unfold b__law_matches_aa11; simp only [k__law_matches_aa11_0, k__law_matches_aa11_1, k__law_matches_aa11_2, k__law_matches_aa11_3, k__law_matches_aa11_4, k__law_matches_aa11_5, pure_bind, bind_assoc, mkL]
def m__law_matches_aa11 : List D → R D := apR4 fun a0 a1 a2 a3 => (runR false (b__law_matches_aa11 a0 a1 a2 a3))
end FN
namespace FN
open DL PySem PySem.W
def encS (q : Nat × Nat) : D × D := (.int (q.2 : Int), .int (q.1 : Int))
theorem law_site_ok {rows : List Row} {h : Hst} (hr : ∀ r ∈ rows, RowOk r) (hh : Labs h) : m__law_site_8604 [.lst (rowsD rows), hD h] = .ok (hD (siteN rows h)) := by
  have it : itD (.lst (rowsD rows)) = some (rows.map fun r => .str (rowT r)) := rfl
  unfold m__law_site_8604 apR2
  simp only [e__law_site_8604, sz2, askR, pure_bind, un2_2, it]
  rw [show ((D.int 0, D.int 1) : D × D) = encS (1, 0) from rfl, for_fold (β := Empty) (fun r => .str (rowT r)) RowOk encS (stepE h) (fun q r hk => ⟨.str (rowT r), rfl, .inl ?_⟩) rows (1, 0) hr]
  · show runR false (do let x114 ← (iteM (DL.ask ((gtD (encS (foldE rows h)).1 (.int 0)).bind bOf)) (pure (encS (foldE rows h)).1) (DL.ask (addD (encS (foldE rows h)).2 (.int 1)))); let x115 ← (DL.ask (negD x114)); let i116 ← DL.ask (intOf x115); let v120 ← (DL.ask (sliceD (hD h) (some i116) none)); pure (.rt v120)) = _
    unfold siteN
    generalize foldE rows h = q
    obtain ⟨l, e⟩ := q
    show runR false (do let x114 ← (iteM (DL.ask ((gtD (.int (e : Int)) (.int 0)).bind bOf)) (pure (.int (e : Int))) (DL.ask (addD (.int (l : Int)) (.int 1)))); let x115 ← (DL.ask (negD x114)); let i116 ← DL.ask (intOf x115); let v120 ← (DL.ask (sliceD (.tup (h.map .str)) (some i116) none)); pure (.rt v120)) = _
    by_cases c : 0 < e
    · have c' : (0 : Int) < (e : Int) := by omega
      have es : h.length - (sizeE (l, e) + 1) = h.length - e := by
        unfold sizeE
        rw [if_pos c]
        show h.length - (e - 1 + 1) = _
        omega
      simp only [gt_l, decide_eq_true c', iteM, Option.bind_some, bOf_bl, askR, pure_bind, if_true, neg_i, int_of, slice_t, cut_neg (A := h) (n := e) c, es]
      rfl
    · have c' : ¬ (0 : Int) < (e : Int) := by omega
      have es : sizeE (l, e) = l := if_neg c
      have ea : ((l : Int) + 1) = ((l + 1 : Nat) : Int) := by omega
      simp only [gt_l, decide_eq_false c', iteM, Option.bind_some, bOf_bl, askR, pure_bind, Bool.false_eq_true, if_false, add_ii, ea, neg_i, int_of, slice_t, cut_neg (A := h) (n := l + 1) (by omega), es]
      rfl
  · obtain ⟨t, l1, l2⟩ := law_split hk
    obtain ⟨k, A⟩ := r
    obtain ⟨l, e⟩ := q
    obtain ⟨hA, h1, h2, h3, h4⟩ := hk
    dsimp only at hA h1 h2 h3 h4
    have cn : cutL (h.map D.str) (some (-(A.length : Int))) none = (h.drop (h.length - A.length)).map D.str := cut_neg h1
    have eq : eqD (.tup ((h.drop (h.length - A.length)).map D.str)) (.tup (A.map .str)) = some (.bl (endsB h A)) := by rw [eqT (labs_drop _ hh) hA, ends_neg]
    have slh : ∀ lo hi, sliceD (hD h) lo hi = some (.tup (cutL (h.map D.str) lo hi)) := fun _ _ => rfl
    obtain ⟨c, r, ej, hc⟩ := head_lab hA h1
    have c33 : c ≠ 33 := fun e => by rw [e] at hc; revert hc; decide
    have a42 : ∀ a, a ∈ A → ¬ (a = [42]) := fun a m e => by
      have := (isLab_iff.mp (hA a m)).2.2 42 (by rw [e]; simp)
      revert this; decide
    simp only [str_of, askR, pure_bind, l1, l2, tup_lst]
    cases k with
    | ex =>
      have i0 : ixD (.str (rowT (.ex, A))) (.int 0) = some (.str [33]) := ix_zero (r := joinN [46] A)
      have lt : labT (.ex, A) = A := rfl
      have e33 : decide (([33] : List Nat) = [33]) = true := by decide
      simp only [i0, lt, eq_ss, e33, Option.bind_some, bOf_bl, askR, pure_bind, if_true, lenT, neg_i, int_of, slh, cn, eq, iteM]
      cases hb : endsB h A with
      | true =>
        simp only [if_true, encS, max_ii, askR, pure_bind, stepE, hb]
        rfl
      | false =>
        simp only [Bool.false_eq_true, if_false, stepE, hb]
        rfl
    | pl =>
      have i0 : ixD (.str (rowT (.pl, A))) (.int 0) = some (.str [c]) := by
        show ixD (.str (joinN [46] A)) (.int 0) = _
        rw [ej]; exact ix_zero
      have lt : labT (.pl, A) = A := rfl
      have e33 : decide (([c] : List Nat) = [33]) = false := by simp [c33]
      obtain ⟨a, A', rfl⟩ : ∃ a A', A = a :: A' := by
        cases A with
        | nil => simp at h1
        | cons a A' => exact ⟨a, A', rfl⟩
      have ia : ixD (.tup ((a :: A').map D.str)) (.int 0) = some (.str a) := ix_hd
      have e42 : decide (a = [42]) = false := decide_eq_false (a42 a (.head _))
      simp only [i0, lt, eq_ss, e33, Option.bind_some, bOf_bl, askR, pure_bind, Bool.false_eq_true, if_false, ia, e42, lenT, neg_i, int_of, slh, cn, eq]
      cases hb : endsB h (a :: A') with
      | true =>
        simp only [if_true, encS, max_ii, askR, pure_bind, stepE, hb]
        rfl
      | false =>
        simp only [Bool.false_eq_true, if_false, stepE, hb]
        rfl
    | wi =>
      have i0 : ixD (.str (rowT (.wi, A))) (.int 0) = some (.str [42]) := ix_zero (r := 46 :: joinN [46] A)
      have lt : labT (.wi, A) = [42] :: A := rfl
      have e33 : decide (([42] : List Nat) = [33]) = false := by decide
      have e42 : decide (([42] : List Nat) = [42]) = true := by decide
      have ia : ixD (.tup (([42] :: A).map D.str)) (.int 0) = some (.str [42]) := ix_hd
      have ll : lenD [.tup (([42] :: A).map D.str)] = some (.int ((A.length + 1 : Nat) : Int)) := lenT
      have ng : -((A.length + 1 : Nat) : Int) + 1 = -(A.length : Int) := by omega
      have sl1 : sliceD (.tup (([42] :: A).map D.str)) (some 1) none = some (.tup (A.map .str)) := by
        rw [slice_t, cut_lo (by omega)]; rfl
      simp only [i0, lt, eq_ss, e33, e42, Option.bind_some, bOf_bl, askR, pure_bind, Bool.false_eq_true, if_false, if_true, ia, ll, lenH, ge_l, neg_i, add_ii, ng, int_of, slh, cn, sl1, eq, iteM, DL.andM]
      by_cases c : A.length < h.length
      · have c' : ((A.length + 1 : Nat) : Int) ≤ (h.length : Int) := by omega
        simp only [decide_eq_true c', if_true]
        cases hb : endsB h A with
        | true =>
          simp only [if_true, encS, max_ii, askR, pure_bind, stepE, hb, if_pos c]
          rfl
        | false =>
          simp only [Bool.false_eq_true, if_false, stepE, hb]
          rfl
      · have c' : ¬ ((A.length + 1 : Nat) : Int) ≤ (h.length : Int) := by omega
        simp only [decide_eq_false c', Bool.false_eq_true, if_false, stepE, if_neg c]
        cases hb : endsB h A <;> rfl
theorem law_moved_ok {kin : List (List Hst)} {h : Hst} (hk : ∀ g ∈ kin, GrOk g) (hh : Labs h) (hl : h.length ≤ 1000) : m__law_moved_e405 [.lst (kin.map grD), hD h] = .ok (hD (movedN kin h)) := by
  have s0 : szL [] = some [] := sz_ok (by simp)
  have it : itD (.lst (kin.map grD)) = some (kin.map grD) := rfl
  have bo := best_ok (h := h) hk
  unfold m__law_moved_e405 apR2
  simp only [e__law_moved_e405, s0, sz2, askR, pure_bind, un2_2, it]
  rw [show ((D.tup [], D.tup []) : D × D) = encL none from rfl, for_fold (β := Empty) grD GrOk encL (stepG h) (fun q g kg => ⟨grD g, rfl, .inl ?_⟩) kin none hk]
  · show runR false (do let x53 ← (DL.ask (lenD [hD h])); let y54 ← (DL.ask (lenD [(encL (bestN kin h)).1])); let x55 ← (DL.ask (subD x53 y54)); let i56 ← DL.ask (intOf x55); let x60 ← (DL.ask (sliceD (hD h) none (some i56))); let v62 ← (DL.ask (addD x60 (encL (bestN kin h)).2)); pure (.rt v62)) = _
    unfold movedN
    cases hb : bestN kin h with
    | none =>
      have l0 : lenD [(encL none).1] = some (.int ((0 : Nat) : Int)) := rfl
      have sl : sliceD (hD h) none (some ((h.length : Int) - ((0 : Nat) : Int))) = some (hD h) := by
        show sliceD (.tup (h.map .str)) _ _ = _
        rw [slice_t, cut_take (Nat.zero_le _), Nat.sub_zero, List.take_length]; rfl
      have ad : addD (hD h) (encL none).2 = some (hD h) := by
        show addD (.tup (h.map D.str)) (.tup []) = _
        rw [add_tt (by simp; omega), List.append_nil]; rfl
      simp only [lenH, l0, sub_ii, int_of, sl, ad, askR, pure_bind]
      rfl
    | some x =>
      obtain ⟨b1, b2⟩ := bo x hb
      have l0 : lenD [(encL (some x)).1] = some (.int (x.1.length : Int)) := lenH
      have sl : sliceD (hD h) none (some ((h.length : Int) - (x.1.length : Int))) = some (hD (h.take (h.length - x.1.length))) := by
        show sliceD (.tup (h.map .str)) _ _ = _
        rw [slice_t, cut_take b1]; rfl
      have ad : addD (hD (h.take (h.length - x.1.length))) (encL (some x)).2 = some (hD (h.take (h.length - x.1.length) ++ x.2)) := by
        show addD (.tup (_ : List D)) (.tup (_ : List D)) = _
        rw [add_tt (by have := b2.2.2; simp; omega), ← List.map_append]; rfl
      simp only [lenH, l0, sub_ii, int_of, sl, ad, askR, pure_bind]
      rfl
  · obtain ⟨g0, gs, e, ix, e2, h0⟩ := grp_head kg
    have ig : itD (grD g) = some (g.map hD) := rfl
    simp only [ig, askR, pure_bind]
    rw [show ((encL q).1, (encL q).2) = encL q from rfl, for_fold (β := D × D) hD MemOk encL (stepM h g0) (fun q m km => ⟨hD m, rfl, .inl ?_⟩) g q kg.1]
    · show R.ok (Fl.nx (encL (g.foldl (stepM h g0) q))) = _
      unfold stepG
      rw [e2]
    · have l1 := km.2.1
      have cn : cutL (h.map D.str) (some (-(m.length : Int))) none = (h.drop (h.length - m.length)).map D.str := cut_neg l1
      have eq : eqD (.tup ((h.drop (h.length - m.length)).map D.str)) (hD m) = some (.bl (endsB h m)) := by
        show eqD _ (.tup (m.map .str)) = _
        rw [eqT (labs_drop _ hh) km.1, ends_neg]
      have slh : ∀ lo hi, sliceD (hD h) lo hi = some (.tup (cutL (h.map D.str) lo hi)) := fun _ _ => rfl
      have lb : lenD [(encL q).1] = some (.int (bestLen q : Int)) := by
        cases q with
        | none => rfl
        | some x => exact lenH
      simp only [lenH, neg_i, int_of, slh, cn, eq, lb, gt_l, Option.bind_some, bOf_bl, askR, pure_bind, DL.andM]
      unfold stepM
      cases hb : endsB h m with
      | false =>
        simp only [Bool.false_eq_true, if_false, false_and]
        rfl
      | true =>
        by_cases c : bestLen q < m.length
        · have c' : (bestLen q : Int) < (m.length : Int) := by omega
          simp only [decide_eq_true c', if_true, ix, askR, pure_bind, c, and_self]
          rfl
        · have c' : ¬ (bestLen q : Int) < (m.length : Int) := by omega
          simp only [decide_eq_false c', Bool.false_eq_true, if_true, if_false, c, and_false]
          rfl
theorem match40 {x : D} {T : List Nat} {F : List D} (r : RuD x T F) {sch : List Nat} {A B : Hst} {i : Int} (hg : Pg sch A i B) {rows : List Row} {kin : List (List Hst)} (hr : ∀ r ∈ rows, RowOk r) (hk : ∀ g ∈ kin, GrOk g) :
    ∃ b, m_rule_fits_7439 [.ins "Rule" RNs F, .tup (rowsD rows), hD (movedN kin A), pgD sch A i B] = .ok (.bl b) ∧ m__law_matches_aa11 [x, .tup [.str sch, .tup (A.map .str), .int i, .tup (B.map .str)], .lst (rowsD rows), .lst (kin.map grD)] = .ok (.bl b) := by
  cases r with
  | @mk s w nm t pj part pd near host path J hs hw ht hn hp =>
    have hA1 := lab_ok_row hg.rA
    have hB1 := lab_ok_row hg.rB
    have lA0 : Labs A := hA1.2
    have lB0 : Labs B := hB1.2
    have lA : A.length ≤ 1000 := by have := hA1.1; omega
    have lB : B.length ≤ 1000 := by have := hB1.1; omega
    have n1 : 1 ≤ A.length := List.length_pos_iff.mpr hg.nA
    obtain ⟨b, o1, ⟨sh, d1, f1⟩, lf⟩ := path40 hp lB0 lB
    obtain ⟨m1, m2, m3⟩ := moved_facts hk lA0 n1
    have lm := law_moved_ok hk lA0 lA
    have lm' : m__law_moved_e405 [.lst (kin.map grD), .tup (A.map D.str)] = .ok (hD (movedN kin A)) := lm
    generalize hM : movedN kin A = M at m1 m2 m3 lm' ⊢
    have lM : M.length ≤ 1000 := by omega
    have u4 : ∀ a b c d : D, unN 4 (.tup [a, b, c, d]) = some [a, b, c, d] := fun _ _ _ _ => rfl
    have u5 : ∀ a b c d e : D, unN 5 (.tup [a, b, c, d, e]) = some [a, b, c, d, e] := fun _ _ _ _ _ => rfl
    have lB2 : listD [.tup (B.map D.str)] = some (B.map .str) := rfl
    have lM2 : listD [hD M] = some (M.map .str) := rfl
    have sB : szL (B.map D.str) = some (B.map .str) := sz_ok (by rw [List.length_map]; omega)
    have sM : szL (M.map D.str) = some (M.map .str) := sz_ok (by rw [List.length_map]; omega)
    have hostP : ∃ c, m_host_fits_56fd [.ins "Rule" RNs (ruF s w nm t pj pd near host path), .tup (rowsD rows), hD M] = .ok (.bl c) ∧ (do let x40 ← (DL.ask (ixD part (.int 0))); let t88 ← (DL.ask ((eqD x40 (.str [126])).bind bOf)); seqF (if t88 = true then (do let v66 ← (andV (pure (.bl b)) (do let x64 ← (Mo.lift (m__law_site_8604 [.lst (rowsD rows), hD M])); let x59 ← (DL.ask (ixD part (.int 1))); let y65 ← (Mo.lift (m__law_site_8604 [.lst (rowsD rows), x59])); DL.ask (eqD x64 y65))); pure (.rt v66)) else (pure (.nx ()))) fun (q42 : Unit) => (do let v87 ← (andV (pure (.bl b)) (do let x84 ← (DL.ask (ixD part (.int 1))); let r83 ← DL.ask (some (M.map D.str)); Mo.lift (m__law_row_fits_3c3f [x84, .lst r83]))); pure (.rt v87)) : R (Fl Unit Empty)) = .ok (.rt (.bl (b && c))) := by
      have e126 : decide (([126] : List Nat) = [126]) = true := rfl
      cases hn with
      | @near A' h0 hl hA =>
        have i0 : ixD (.tup [.str [126], .tup (A'.map D.str)]) (.int 0) = some (.str [126]) := rfl
        have i1 : ixD (.tup [.str [126], .tup (A'.map D.str)]) (.int 1) = some (hD A') := rfl
        have hA' : Labs A' := hA
        have eq : eqD (hD (siteN rows M)) (hD (siteN rows A')) = some (.bl (decide (siteN rows M = siteN rows A'))) := eqT (labs_drop _ m1) (labs_drop _ hA')
        refine ⟨decide (siteN rows M = siteN rows A'), near_fits rfl hr hA' m1, ?_⟩
        simp only [i0, i1, askR, pure_bind, eq_ss, e126, Option.bind_some, bOf_bl, if_true, andV, tru_bl, law_site_ok hr m1, law_site_ok hr hA', lift_pR, okpR, eq]
        cases b <;> rfl
      | @host I h t2 g p h0 hl =>
        have i0 : ixD (.tup [.str [], .lst (I.map D.str)]) (.int 0) = some (.str []) := rfl
        have i1 : ixD (.tup [.str [], .lst (I.map D.str)]) (.int 1) = some (.lst (I.map .str)) := rfl
        have e0 : decide (([] : List Nat) = [126]) = false := by decide
        have lw := host43 p hl (labs_sh m1) lM
        refine ⟨rowN h t2 g M.reverse, pat_fits p hl m1 lM, ?_⟩
        simp only [i0, i1, askR, pure_bind, eq_ss, e0, Option.bind_some, bOf_bl, Bool.false_eq_true, if_false, sqp, andV, tru_bl, lw, lift_pR, okpR]
        cases b <;> rfl
    obtain ⟨c, h1, h2⟩ := hostP
    refine ⟨fitB w sch i pd && (b && c), rule_fits_ok hw ht hg o1 d1 f1 h1, ?_⟩
    unfold m__law_matches_aa11 apR4
    simp only [e__law_matches_aa11, u4, u5, askR, pure_bind, List.getD_cons_zero, List.getD_cons_succ, sz2, lm', lift_pR, okpR]
    simp only [lB2, sB, lf, lM2, sM, askR, pure_bind, okpR]
    have gt := fun k => gate43 (i := i) hw ht hg.sw (k := k)
    simp only [lift_pR] at gt
    rw [gt]
    have h3 := h2
    simp only [askR, pure_bind, lift_pR, okpR] at h3
    by_cases c1 : fitB w sch i pd = true
    · rw [if_pos c1, h3, c1]
      rfl
    · have c2 : fitB w sch i pd = false := by simpa using c1
      rw [if_neg c1, c2]
      rfl
theorem ix_tup {ds : List D} {i : Int} (h0 : 0 ≤ i) (h : i < ds.length) : ixD (.tup ds) (.int i) = some (ds[i.toNat]'(by omega)) := by
  have e : ixD (.tup ds) (.int i) = ixD (.lst ds) (.int i) := rfl
  rw [e, ix_lst h0 h]
end FN
namespace FN
open DL PySem PySem.W
def fx (I : List (List Nat)) : Nat := (I.filter fun z => !decide (42 ∈ z)).length
def one (b : Bool) : Int := if b = true then 1 else 0
end FN
namespace FN
open DL PySem PySem.W
abbrev R3 := D × List Nat × List D
def RuOk (r : R3) : Prop := RuD r.1 r.2.1 r.2.2
def ruO (r : R3) : D := .ins "Rule" RNs r.2.2
def pgL (sch : List Nat) (A : Hst) (i : Int) (B : Hst) : D := .tup [.str sch, .tup (A.map .str), .int i, .tup (B.map .str)]
section
variable (rows : List Row) (kin : List (List Hst)) (sch : List Nat) (A : Hst) (i : Int) (B : Hst)
def mt (r : R3) : Bool := match m__law_matches_aa11 [r.1, pgL sch A i B, .lst (rowsD rows), .lst (kin.map grD)] with
  | .ok (.bl b) => b
  | _ => false
end
variable {rows : List Row} {kin : List (List Hst)} {sch : List Nat} {A : Hst} {i : Int} {B : Hst}
theorem mt_ok {r : R3} (h : RuOk r) (hg : Pg sch A i B) (hr : ∀ r ∈ rows, RowOk r) (hk : ∀ g ∈ kin, GrOk g) : m__law_matches_aa11 [r.1, pgL sch A i B, .lst (rowsD rows), .lst (kin.map grD)] = .ok (.bl (mt rows kin sch A i B r)) ∧ m_rule_fits_7439 [ruO r, .tup (rowsD rows), hD (movedN kin A), pgD sch A i B] = .ok (.bl (mt rows kin sch A i B r)) := by
  obtain ⟨b, h1, h2⟩ := match40 h hg hr hk
  have e : mt rows kin sch A i B r = b := by
    show (match m__law_matches_aa11 [r.1, pgL sch A i B, .lst (rowsD rows), .lst (kin.map grD)] with | .ok (.bl b) => b | _ => false) = b
    rw [show m__law_matches_aa11 [r.1, pgL sch A i B, .lst (rowsD rows), .lst (kin.map grD)] = .ok (.bl b) from h2]
  rw [e]
  exact ⟨h2, h1⟩
end FN
namespace FN
open DL PySem PySem.W
end FN
namespace FN
open DL PySem PySem.W
def off (r : R3) : Bool := match ixD r.1 (.int 0) with
  | some (.str s) => decide (s = [43])
  | _ => false
end FN
namespace FN
open DL PySem PySem.W
structure Hm where
  w : List Nat
  A : List (List Nat)
  i : Int
  B : List (List Nat)
def Hm.d (h : Hm) : D := pgD h.w h.A h.i h.B
end FN
namespace FN
open DL PySem PySem.W
end FN
namespace FN
open DL PySem PySem.W
end FN
namespace FN
open DL PySem PySem.W
def headD : List D → D
  | [] => .non
  | d :: _ => d
end FN
namespace FN
open DL
end FN
namespace FN
open DL PySem PySem.W
end FN
namespace FN
open DL PySem PySem.W
end FN
namespace FN
open DL PySem PySem.W
end FN
namespace FN
open DL
def c_LABEL : D := (.str [108, 97, 98, 101, 108])
def k_label_shape_c600_0 (c2 : D × D × D) : R (Fl (Unit) (Empty)) := (do let v21 ← (do let r19 ← (do let x17 ← (do let r7 ← (do let x5 ← (pure c2.1); let r6 ← pure []; pure (x5 :: r6)); DL.ask (tupleXD r7)); let r18 ← (do let x15 ← (do let r10 ← (do let x8 ← (pure c2.2.2); let r9 ← pure []; pure (x8 :: r9)); DL.ask (tupleXD r10)); let r16 ← (do let x13 ← (do let x11 ← (pure c2.2.1); let y12 ← (pure (.str [42])); DL.ask (eqD x11 y12)); let r14 ← pure []; pure (x13 :: r14)); pure (x15 :: r16)); pure (x17 :: r18)); let r20 ← DL.ask (szL r19); pure (.tup r20)); pure (.rt v21))
def b_label_shape_c600 (a0 : D) : R (Fl Unit Empty) := (do let v1 ← (do let x3 ← (pure a0); let _ ← DL.ask (strOf x3); let y4 ← (pure (.str [42])); DL.ask (partD x3 y4)); let c2 ← DL.ask (un3 v1); (k_label_shape_c600_0 c2))
theorem e_label_shape_c600 (a0 : D) : b_label_shape_c600 a0 = (do let _ ← DL.ask (strOf a0); let v1 ← (DL.ask (partD a0 (.str [42]))); let c2 ← DL.ask (un3 v1); let x17 ← (DL.ask (tupleXD [c2.1])); let x15 ← (DL.ask (tupleXD [c2.2.2])); let x13 ← (DL.ask (eqD c2.2.1 (.str [42]))); let r20 ← DL.ask (szL [x17, x15, x13]); pure (.rt (.tup r20))) := by
  unfold b_label_shape_c600; simp only [k_label_shape_c600_0, pure_bind, bind_assoc, mkL]
def m_label_shape_c600 : List D → R D := apR1 fun a0 => (runR false (b_label_shape_c600 a0))
theorem n_label_shape_c600 : ∀ ds : List D, m_label_shape_c600 ds ≠ .stuck → ds.length = 1 := apR1_len _
def k_LabelPattern_eq_9777_0 (a1 : D) (a0 : D) : R (Fl (Unit) (Empty)) := (do let v6 ← (andV (do let x1 ← (pure a1); DL.ask (isiT [("LabelPattern", true), ("HostPattern", false), ("PathPattern", false)] noneOfB x1)) (do let x4 ← (do let x2 ← (pure a0); DL.ask (fldD ["LabelPattern", "HostPattern", "PathPattern"] "text" x2)); let y5 ← (do let x3 ← (pure a1); DL.ask (fldD ["LabelPattern", "HostPattern", "PathPattern"] "text" x3)); DL.ask (eqD x4 y5))); pure (.rt v6))
def b_LabelPattern_eq_9777 (a0 a1 : D) : R (Fl Unit Empty) := (k_LabelPattern_eq_9777_0 a1 a0)
theorem e_LabelPattern_eq_9777 (a0 a1 : D) : b_LabelPattern_eq_9777 a0 a1 = (do let v6 ← (andV (DL.ask (isiT [("LabelPattern", true), ("HostPattern", false), ("PathPattern", false)] noneOfB a1)) (do let x4 ← (DL.ask (fldD ["LabelPattern", "HostPattern", "PathPattern"] "text" a0)); let y5 ← (DL.ask (fldD ["LabelPattern", "HostPattern", "PathPattern"] "text" a1)); DL.ask (eqD x4 y5))); pure (.rt v6)) := by
  unfold b_LabelPattern_eq_9777; simp only [k_LabelPattern_eq_9777_0, pure_bind, bind_assoc, mkL]
def m_LabelPattern_eq_9777 : List D → R D := apR2 fun a0 a1 => (runR false (b_LabelPattern_eq_9777 a0 a1))
def b_LabelPattern_str_43dc (a0 : D) : R (Fl Unit Empty) := (do let v5 ← (do let r4 ← (do let x2 ← (do let x1 ← (pure a0); DL.ask (fldD ["LabelPattern", "HostPattern", "PathPattern"] "text" x1)); let r3 ← pure []; pure (x2 :: r3)); DL.ask (strD r4)); pure (.rt v5))
def m_LabelPattern_str_43dc : List D → R D := apR1 fun a0 => (runR false (b_LabelPattern_str_43dc a0))
def k_HostPattern_eq_524e_0 (a1 : D) (a0 : D) : R (Fl (Unit) (Empty)) := (do let v6 ← (andV (do let x1 ← (pure a1); DL.ask (isiT [("LabelPattern", false), ("HostPattern", true), ("PathPattern", false)] noneOfB x1)) (do let x4 ← (do let x2 ← (pure a0); DL.ask (fldD ["LabelPattern", "HostPattern", "PathPattern"] "text" x2)); let y5 ← (do let x3 ← (pure a1); DL.ask (fldD ["LabelPattern", "HostPattern", "PathPattern"] "text" x3)); DL.ask (eqD x4 y5))); pure (.rt v6))
def b_HostPattern_eq_524e (a0 a1 : D) : R (Fl Unit Empty) := (k_HostPattern_eq_524e_0 a1 a0)
theorem e_HostPattern_eq_524e (a0 a1 : D) : b_HostPattern_eq_524e a0 a1 = (do let v6 ← (andV (DL.ask (isiT [("LabelPattern", false), ("HostPattern", true), ("PathPattern", false)] noneOfB a1)) (do let x4 ← (DL.ask (fldD ["LabelPattern", "HostPattern", "PathPattern"] "text" a0)); let y5 ← (DL.ask (fldD ["LabelPattern", "HostPattern", "PathPattern"] "text" a1)); DL.ask (eqD x4 y5))); pure (.rt v6)) := by
  unfold b_HostPattern_eq_524e; simp only [k_HostPattern_eq_524e_0, pure_bind, bind_assoc, mkL]
def m_HostPattern_eq_524e : List D → R D := apR2 fun a0 a1 => (runR false (b_HostPattern_eq_524e a0 a1))
def b_HostPattern_str_6eb8 (a0 : D) : R (Fl Unit Empty) := (do let v5 ← (do let r4 ← (do let x2 ← (do let x1 ← (pure a0); DL.ask (fldD ["LabelPattern", "HostPattern", "PathPattern"] "text" x1)); let r3 ← pure []; pure (x2 :: r3)); DL.ask (strD r4)); pure (.rt v5))
def m_HostPattern_str_6eb8 : List D → R D := apR1 fun a0 => (runR false (b_HostPattern_str_6eb8 a0))
def k_PathPattern_eq_55e4_0 (a1 : D) (a0 : D) : R (Fl (Unit) (Empty)) := (do let v6 ← (andV (do let x1 ← (pure a1); DL.ask (isiT [("LabelPattern", false), ("HostPattern", false), ("PathPattern", true)] noneOfB x1)) (do let x4 ← (do let x2 ← (pure a0); DL.ask (fldD ["LabelPattern", "HostPattern", "PathPattern"] "text" x2)); let y5 ← (do let x3 ← (pure a1); DL.ask (fldD ["LabelPattern", "HostPattern", "PathPattern"] "text" x3)); DL.ask (eqD x4 y5))); pure (.rt v6))
def b_PathPattern_eq_55e4 (a0 a1 : D) : R (Fl Unit Empty) := (k_PathPattern_eq_55e4_0 a1 a0)
theorem e_PathPattern_eq_55e4 (a0 a1 : D) : b_PathPattern_eq_55e4 a0 a1 = (do let v6 ← (andV (DL.ask (isiT [("LabelPattern", false), ("HostPattern", false), ("PathPattern", true)] noneOfB a1)) (do let x4 ← (DL.ask (fldD ["LabelPattern", "HostPattern", "PathPattern"] "text" a0)); let y5 ← (DL.ask (fldD ["LabelPattern", "HostPattern", "PathPattern"] "text" a1)); DL.ask (eqD x4 y5))); pure (.rt v6)) := by
  unfold b_PathPattern_eq_55e4; simp only [k_PathPattern_eq_55e4_0, pure_bind, bind_assoc, mkL]
def m_PathPattern_eq_55e4 : List D → R D := apR2 fun a0 a1 => (runR false (b_PathPattern_eq_55e4 a0 a1))
def b_PathPattern_str_7f49 (a0 : D) : R (Fl Unit Empty) := (do let v5 ← (do let r4 ← (do let x2 ← (do let x1 ← (pure a0); DL.ask (fldD ["LabelPattern", "HostPattern", "PathPattern"] "text" x1)); let r3 ← pure []; pure (x2 :: r3)); DL.ask (strD r4)); pure (.rt v5))
def m_PathPattern_str_7f49 : List D → R D := apR1 fun a0 => (runR false (b_PathPattern_str_7f49 a0))
def m_LabelPattern_init_02ae : List D → R (List D) := apI1 fun a1 => (do let z14 ← (do let x12 ← (pure a1); let r13 ← (do let x10 ← (pure c_LABEL); let r11 ← (do let x8 ← (iteM (do let x4 ← (do let r3 ← (do let x1 ← (pure a1); let r2 ← pure []; pure (x1 :: r2)); Mo.lift (m_is_label_text_206f r3)); DL.ask (truD x4)) (do let r7 ← (do let x5 ← (pure a1); let r6 ← pure []; pure (x5 :: r6)); Mo.lift (m_label_shape_c600 r7)) (pure .non)); let r9 ← pure []; pure (x8 :: r9)); pure (x10 :: r11)); pure (x12 :: r13)); m_Pattern_init_4a0d z14)
theorem n_LabelPattern_init_02ae : ∀ ds : List D, m_LabelPattern_init_02ae ds ≠ .stuck → ds.length = 1 := apI1_len _
def k__law_glob_3319_0 (v9 : D) (v26 : D) (a1 : D) : M (Fl (Unit) (Empty)) := (do let v58 ← (do let x55 ← (do let x51 ← (do let x46 ← (pure v9); let y47 ← (pure v26); DL.ask (addD x46 y47)); let y52 ← (do let r50 ← (do let x48 ← (pure a1); let r49 ← pure []; pure (x48 :: r49)); m__law_of_bf28 r50); DL.ask (addD x51 y52)); let l56 ← (pure none); let u57 ← (do let x53 ← (pure (.int 8)); let i54 ← DL.ask (intOf x53); pure (some i54)); DL.ask (sliceD x55 l56 u57)); pure (.rt v58))
def k__law_glob_3319_1 (v1 : D) (v9 : D) (v26 : D) (a1 : D) : M (Fl (Unit) (Empty)) := (do let t64 ← (do let x43 ← (pure v1); let y44 ← (pure (.int 3)); DL.ask ((ltD x43 y44).bind bOf)); seqF (if t64 = true then (k__law_glob_3319_0 v9 v26 a1) else (pure (.nx ()))) fun (q45 : Unit) => (do let v63 ← (do let x61 ← (do let x59 ← (pure v9); let y60 ← (pure (.str [42])); DL.ask (addD x59 y60)); let y62 ← (pure v26); DL.ask (addD x61 y62)); pure (.rt v63)))
def k__law_glob_3319_2 (a2 : D) (a1 : D) (v1 : D) (v9 : D) : M (Fl (Unit) (Empty)) := (do let v26 ← (do let x41 ← (pure (.str [])); let _ ← DL.ask (strOf x41); let y42 ← (mkL (do let r40 ← (do let r34 ← (do let x32 ← (do let r31 ← (do let x29 ← (do let x27 ← (pure a2); let y28 ← (pure (.int 1)); DL.ask (addD x27 y28)); let r30 ← pure []; pure (x29 :: r30)); m__law_take_6859 r31); let r33 ← pure []; pure (x32 :: r33)); DL.ask (rng1 r34)); lcF (fun d => some d) (fun (c36 : D) => pure true) (fun (c36 : D) => (do let r39 ← (do let x37 ← (pure a1); let r38 ← pure []; pure (x37 :: r38)); m__law_of_bf28 r39)) r40)); DL.ask (joinD x41 y42)); (k__law_glob_3319_1 v1 v9 v26 a1))
def k__law_glob_3319_3 (a2 : D) (a1 : D) (v1 : D) : M (Fl (Unit) (Empty)) := (do let v9 ← (do let x24 ← (pure (.str [])); let _ ← DL.ask (strOf x24); let y25 ← (mkL (do let r23 ← (do let r17 ← (do let x15 ← (do let r14 ← (do let x12 ← (do let x10 ← (pure a2); let y11 ← (pure (.int 1)); DL.ask (addD x10 y11)); let r13 ← pure []; pure (x12 :: r13)); m__law_take_6859 r14); let r16 ← pure []; pure (x15 :: r16)); DL.ask (rng1 r17)); lcF (fun d => some d) (fun (c19 : D) => pure true) (fun (c19 : D) => (do let r22 ← (do let x20 ← (pure a1); let r21 ← pure []; pure (x20 :: r21)); m__law_of_bf28 r22)) r23)); DL.ask (joinD x24 y25)); (k__law_glob_3319_2 a2 a1 v1 v9))
def k__law_glob_3319_4 (a2 : D) (a1 : D) : M (Fl (Unit) (Empty)) := (do let v1 ← (do let r4 ← (do let x2 ← (pure (.int 6)); let r3 ← pure []; pure (x2 :: r3)); m__law_take_6859 r4); (do let t65 ← (do let x5 ← (pure v1); let y6 ← (pure (.int 0)); DL.ask ((eqD x5 y6).bind bOf)); seqF (if t65 = true then (do let v8 ← (pure (.str [42])); pure (.rt v8)) else (pure (.nx ()))) fun (q7 : Unit) => (k__law_glob_3319_3 a2 a1 v1)))
def b__law_glob_3319 (a1 a2 : D) : M (Fl Unit Empty) := (k__law_glob_3319_4 a2 a1)
theorem e__law_glob_3319 (a1 a2 : D) : b__law_glob_3319 a1 a2 = (do let v1 ← (m__law_take_6859 [(.int 6)]); let t65 ← (DL.ask ((eqD v1 (.int 0)).bind bOf)); seqF (if t65 = true then (pure (.rt (.str [42]))) else (pure (.nx ()))) fun (q7 : Unit) => (do let _ ← DL.ask (strOf (.str [])); let x12 ← (DL.ask (addD a2 (.int 1))); let x15 ← (m__law_take_6859 [x12]); let r23 ← (DL.ask (rng1 [x15])); let y25 ← (lcF (fun d => some d) (fun (c19 : D) => pure true) (fun (c19 : D) => (m__law_of_bf28 [a1])) r23); let v9 ← (DL.ask (joinD (.str []) (.lst y25))); let _ ← DL.ask (strOf (.str [])); let x29 ← (DL.ask (addD a2 (.int 1))); let x32 ← (m__law_take_6859 [x29]); let r40 ← (DL.ask (rng1 [x32])); let y42 ← (lcF (fun d => some d) (fun (c36 : D) => pure true) (fun (c36 : D) => (m__law_of_bf28 [a1])) r40); let v26 ← (DL.ask (joinD (.str []) (.lst y42))); let t64 ← (DL.ask ((ltD v1 (.int 3)).bind bOf)); seqF (if t64 = true then (do let x51 ← (DL.ask (addD v9 v26)); let y52 ← (m__law_of_bf28 [a1]); let x55 ← (DL.ask (addD x51 y52)); let i54 ← DL.ask (intOf (.int 8)); let v58 ← (DL.ask (sliceD x55 none (some i54))); pure (.rt v58)) else (pure (.nx ()))) fun (q45 : Unit) => (do let x61 ← (DL.ask (addD v9 (.str [42]))); let v63 ← (DL.ask (addD x61 v26)); pure (.rt v63)))) := by
  unfold b__law_glob_3319; simp only [k__law_glob_3319_0, k__law_glob_3319_1, k__law_glob_3319_2, k__law_glob_3319_3, k__law_glob_3319_4, pure_bind, bind_assoc, mkL]
def m__law_glob_3319 : List D → M D := apM2 fun a1 a2 => (runM false (b__law_glob_3319 a1 a2))
theorem n__law_glob_3319 : ∀ ds s, m__law_glob_3319 ds s ≠ .stuck → ds.length = 2 := apM2_len _
def k__law_made_040f_0 (c24 : D) (v54 : List D) : M (Fl (List D) (List D)) := (do let v71 ← (do let r87 ← (do let x85 ← (do let r77 ← (do let x75 ← (do let x73 ← (pure (.str [42, 42, 46])); let y74 ← (pure c24); DL.ask (addD x73 y74)); let r76 ← pure []; pure (x75 :: r76)); let o78 ← Mo.lift (m_HostPattern_init_23dd r77); pure (D.ins "HostPattern" ["text", "level", "head", "tail", "gap"] o78)); let r86 ← (do let x83 ← (pure (.str [104, 111, 115, 116])); let r84 ← (do let x81 ← (do let x79 ← (pure (.str [42, 42, 46])); let y80 ← (pure c24); DL.ask (addD x79 y80)); let r82 ← pure []; pure (x81 :: r82)); pure (x83 :: r84)); pure (x85 :: r86)); let r88 ← DL.ask (szL r87); pure (.tup r88)); let v72 ← DL.ask (apd v54 v71); (pure (.nx v72)))
def k__law_made_040f_1 (c24 : D) (v40 : List D) : M (Fl (List D) (List D)) := (do let v53 ← (do let r69 ← (do let x67 ← (do let r59 ← (do let x57 ← (do let x55 ← (pure (.str [47])); let y56 ← (pure c24); DL.ask (addD x55 y56)); let r58 ← pure []; pure (x57 :: r58)); let o60 ← Mo.lift (m_PathPattern_init_28de r59); pure (D.ins "PathPattern" ["text", "level", "head", "tail", "gap"] o60)); let r68 ← (do let x65 ← (pure (.str [112, 97, 116, 104])); let r66 ← (do let x63 ← (do let x61 ← (pure (.str [47])); let y62 ← (pure c24); DL.ask (addD x61 y62)); let r64 ← pure []; pure (x63 :: r64)); pure (x65 :: r66)); pure (x67 :: r68)); let r70 ← DL.ask (szL r69); pure (.tup r70)); let v54 ← DL.ask (apd v40 v53); (k__law_made_040f_0 c24 v54))
def k__law_made_040f_2 (c24 : D) (v26 : List D) : M (Fl (List D) (List D)) := (do let v39 ← (do let r51 ← (do let x49 ← (do let r43 ← (do let x41 ← (pure c24); let r42 ← pure []; pure (x41 :: r42)); let o44 ← Mo.lift (m_HostPattern_init_23dd r43); pure (D.ins "HostPattern" ["text", "level", "head", "tail", "gap"] o44)); let r50 ← (do let x47 ← (pure (.str [104, 111, 115, 116])); let r48 ← (do let x45 ← (pure c24); let r46 ← pure []; pure (x45 :: r46)); pure (x47 :: r48)); pure (x49 :: r50)); let r52 ← DL.ask (szL r51); pure (.tup r52)); let v40 ← DL.ask (apd v26 v39); (k__law_made_040f_1 c24 v40))
def k__law_made_040f_3 (c24 : D) (q23 : List D) : M (Fl (List D) (List D)) := (do let v25 ← (do let r37 ← (do let x35 ← (do let r29 ← (do let x27 ← (pure c24); let r28 ← pure []; pure (x27 :: r28)); let o30 ← Mo.lift (m_LabelPattern_init_02ae r29); pure (D.ins "LabelPattern" ["text", "level", "head", "tail", "gap"] o30)); let r36 ← (do let x33 ← (pure (.str [108, 97, 98, 101, 108])); let r34 ← (do let x31 ← (pure c24); let r32 ← pure []; pure (x31 :: r32)); pure (x33 :: r34)); pure (x35 :: r36)); let r38 ← DL.ask (szL r37); pure (.tup r38)); let v26 ← DL.ask (apd q23 v25); (k__law_made_040f_2 c24 v26))
def k__law_made_040f_4 (v105 : List D) : M (Fl (Unit) (Empty)) := (do let v118 ← (do let r130 ← (do let x128 ← (do let r122 ← (do let x120 ← (pure (.str [47])); let r121 ← pure []; pure (x120 :: r121)); let o123 ← Mo.lift (m_PathPattern_init_28de r122); pure (D.ins "PathPattern" ["text", "level", "head", "tail", "gap"] o123)); let r129 ← (do let x126 ← (pure (.str [112, 97, 116, 104])); let r127 ← (do let x124 ← (pure (.str [47])); let r125 ← pure []; pure (x124 :: r125)); pure (x126 :: r127)); pure (x128 :: r129)); let r131 ← DL.ask (szL r130); pure (.tup r131)); let v119 ← DL.ask (apd v105 v118); (do let v132 ← (pure (.lst v119)); pure (.rt v132)))
def k__law_made_040f_5 (v91 : List D) : M (Fl (Unit) (Empty)) := (do let v104 ← (do let r116 ← (do let x114 ← (do let r108 ← (do let x106 ← (pure (.str [42])); let r107 ← pure []; pure (x106 :: r107)); let o109 ← Mo.lift (m_LabelPattern_init_02ae r108); pure (D.ins "LabelPattern" ["text", "level", "head", "tail", "gap"] o109)); let r115 ← (do let x112 ← (pure (.str [108, 97, 98, 101, 108])); let r113 ← (do let x110 ← (pure (.str [42])); let r111 ← pure []; pure (x110 :: r111)); pure (x112 :: r113)); pure (x114 :: r115)); let r117 ← DL.ask (szL r116); pure (.tup r117)); let v105 ← DL.ask (apd v91 v104); (k__law_made_040f_4 v105))
def k__law_made_040f_6 (q89 : List D) : M (Fl (Unit) (Empty)) := (do let v90 ← (do let r102 ← (do let x100 ← (do let r94 ← (do let x92 ← (pure (.str [42])); let r93 ← pure []; pure (x92 :: r93)); let o95 ← Mo.lift (m_HostPattern_init_23dd r94); pure (D.ins "HostPattern" ["text", "level", "head", "tail", "gap"] o95)); let r101 ← (do let x98 ← (pure (.str [104, 111, 115, 116])); let r99 ← (do let x96 ← (pure (.str [42])); let r97 ← pure []; pure (x96 :: r97)); pure (x98 :: r99)); pure (x100 :: r101)); let r103 ← DL.ask (szL r102); pure (.tup r103)); let v91 ← DL.ask (apd q89 v90); (k__law_made_040f_5 v91))
def k__law_made_040f_7 (v3 : D) (v1 : List D) : M (Fl (Unit) (Empty)) := (do let r133 ← (do let r22 ← (do let x20 ← (pure v3); let y21 ← (mkL (do let r19 ← (do let x17 ← (do let x15 ← (pure v3); let y16 ← (pure (.int 0)); DL.ask (ixD x15 y16)); let r18 ← pure []; pure (x17 :: r18)); DL.ask (szL r19))); DL.ask (addD x20 y21)); DL.ask (itD r22)); seqF (forF (fun d => some d) (fun (q23 : List D) (c24 : D) => (k__law_made_040f_3 c24 q23)) r133 v1) fun (q89 : List D) => (k__law_made_040f_6 q89))
def k__law_made_040f_8 (a1 : D) (v1 : List D) : M (Fl (Unit) (Empty)) := (do let v3 ← mkL (do let r14 ← (do let r6 ← (do let x4 ← (pure (.int 3)); let r5 ← pure []; pure (x4 :: r5)); DL.ask (rng1 r6)); lcF (fun d => some d) (fun (c8 : D) => pure true) (fun (c8 : D) => (do let r13 ← (do let x11 ← (pure a1); let r12 ← (do let x9 ← (pure (.int 2)); let r10 ← pure []; pure (x9 :: r10)); pure (x11 :: r12)); m__law_glob_3319 r13)) r14); (k__law_made_040f_7 v3 v1))
def b__law_made_040f (a1 : D) : M (Fl Unit Empty) := (do let v1 ← (do let r2 ← pure []; DL.ask (szL r2)); (k__law_made_040f_8 a1 v1))
theorem e__law_made_040f (a1 : D) : b__law_made_040f a1 = (do let v1 ← (DL.ask (szL [])); let r14 ← (DL.ask (rng1 [(.int 3)])); let v3 ← (lcF (fun d => some d) (fun (c8 : D) => pure true) (fun (c8 : D) => (m__law_glob_3319 [a1, (.int 2)])) r14); let x17 ← (DL.ask (ixD (.lst v3) (.int 0))); let y21 ← (DL.ask (szL [x17])); let r22 ← (DL.ask (addD (.lst v3) (.lst y21))); let r133 ← (DL.ask (itD r22)); seqF (forF (fun d => some d) (fun (q23 : List D) (c24 : D) => (do let o30 ← Mo.lift (m_LabelPattern_init_02ae [c24]); let r38 ← DL.ask (szL [(D.ins "LabelPattern" ["text", "level", "head", "tail", "gap"] o30), (.str [108, 97, 98, 101, 108]), c24]); let v26 ← DL.ask (apd q23 (.tup r38)); let o44 ← Mo.lift (m_HostPattern_init_23dd [c24]); let r52 ← DL.ask (szL [(D.ins "HostPattern" ["text", "level", "head", "tail", "gap"] o44), (.str [104, 111, 115, 116]), c24]); let v40 ← DL.ask (apd v26 (.tup r52)); let x57 ← (DL.ask (addD (.str [47]) c24)); let o60 ← Mo.lift (m_PathPattern_init_28de [x57]); let x63 ← (DL.ask (addD (.str [47]) c24)); let r70 ← DL.ask (szL [(D.ins "PathPattern" ["text", "level", "head", "tail", "gap"] o60), (.str [112, 97, 116, 104]), x63]); let v54 ← DL.ask (apd v40 (.tup r70)); let x75 ← (DL.ask (addD (.str [42, 42, 46]) c24)); let o78 ← Mo.lift (m_HostPattern_init_23dd [x75]); let x81 ← (DL.ask (addD (.str [42, 42, 46]) c24)); let r88 ← DL.ask (szL [(D.ins "HostPattern" ["text", "level", "head", "tail", "gap"] o78), (.str [104, 111, 115, 116]), x81]); let v72 ← DL.ask (apd v54 (.tup r88)); (pure (.nx v72)))) r133 v1) fun (q89 : List D) => (do let o95 ← Mo.lift (m_HostPattern_init_23dd [(.str [42])]); let r103 ← DL.ask (szL [(D.ins "HostPattern" ["text", "level", "head", "tail", "gap"] o95), (.str [104, 111, 115, 116]), (.str [42])]); let v91 ← DL.ask (apd q89 (.tup r103)); let o109 ← Mo.lift (m_LabelPattern_init_02ae [(.str [42])]); let r117 ← DL.ask (szL [(D.ins "LabelPattern" ["text", "level", "head", "tail", "gap"] o109), (.str [108, 97, 98, 101, 108]), (.str [42])]); let v105 ← DL.ask (apd v91 (.tup r117)); let o123 ← Mo.lift (m_PathPattern_init_28de [(.str [47])]); let r131 ← DL.ask (szL [(D.ins "PathPattern" ["text", "level", "head", "tail", "gap"] o123), (.str [112, 97, 116, 104]), (.str [47])]); let v119 ← DL.ask (apd v105 (.tup r131)); (pure (.rt (.lst v119))))) := by
  unfold b__law_made_040f; simp only [k__law_made_040f_0, k__law_made_040f_1, k__law_made_040f_2, k__law_made_040f_3, k__law_made_040f_4, k__law_made_040f_5, k__law_made_040f_6, k__law_made_040f_7, k__law_made_040f_8, pure_bind, bind_assoc, mkL]
def m__law_made_040f : List D → M D := apM1 fun a1 => (runM false (b__law_made_040f a1))
theorem n__law_made_040f : ∀ ds s, m__law_made_040f ds s ≠ .stuck → ds.length = 1 := apM1_len _
def k_law_d63f_0 (c36 : D × D × D) (c70 : D × D × D) : M (Fl (Unit) (Unit)) := (do let t123 ← (do let x119 ← (do let r101 ← (do let x99 ← (do let x97 ← (pure c36.1); let y98 ← (pure c70.1); DL.ask (neO [("LabelPattern", m_LabelPattern_eq_9777), ("HostPattern", m_HostPattern_eq_524e), ("PathPattern", m_PathPattern_eq_55e4)] x97 y98)); let r100 ← pure []; pure (x99 :: r100)); DL.ask (reprD r101)); let y120 ← (do let r118 ← (do let x116 ← (do let x114 ← (do let r106 ← (do let x104 ← (pure c36.2.1); let r105 ← (do let x102 ← (pure c36.2.2); let r103 ← pure []; pure (x102 :: r103)); pure (x104 :: r105)); let r107 ← DL.ask (szL r106); pure (.tup r107)); let y115 ← (do let r112 ← (do let x110 ← (pure c70.2.1); let r111 ← (do let x108 ← (pure c70.2.2); let r109 ← pure []; pure (x108 :: r109)); pure (x110 :: r111)); let r113 ← DL.ask (szL r112); pure (.tup r113)); DL.ask (neD x114 y115)); let r117 ← pure []; pure (x116 :: r117)); DL.ask (reprD r118)); DL.ask ((neD x119 y120).bind bOf)); seqF (if t123 = true then (do let v122 ← (pure (.bl false)); pure (.rt v122)) else (pure (.nx ()))) fun (q121 : Unit) => (pure (.nx ())))
def k_law_d63f_1 (c36 : D × D × D) (c70 : D × D × D) : M (Fl (Unit) (Unit)) := (do let t124 ← (do let x93 ← (do let r75 ← (do let x73 ← (do let x71 ← (pure c36.1); let y72 ← (pure c70.1); DL.ask (eqO [("LabelPattern", m_LabelPattern_eq_9777), ("HostPattern", m_HostPattern_eq_524e), ("PathPattern", m_PathPattern_eq_55e4)] x71 y72)); let r74 ← pure []; pure (x73 :: r74)); DL.ask (reprD r75)); let y94 ← (do let r92 ← (do let x90 ← (do let x88 ← (do let r80 ← (do let x78 ← (pure c36.2.1); let r79 ← (do let x76 ← (pure c36.2.2); let r77 ← pure []; pure (x76 :: r77)); pure (x78 :: r79)); let r81 ← DL.ask (szL r80); pure (.tup r81)); let y89 ← (do let r86 ← (do let x84 ← (pure c70.2.1); let r85 ← (do let x82 ← (pure c70.2.2); let r83 ← pure []; pure (x82 :: r83)); pure (x84 :: r85)); let r87 ← DL.ask (szL r86); pure (.tup r87)); DL.ask (eqD x88 y89)); let r91 ← pure []; pure (x90 :: r91)); DL.ask (reprD r92)); DL.ask ((neD x93 y94).bind bOf)); seqF (if t124 = true then (do let v96 ← (pure (.bl false)); pure (.rt v96)) else (pure (.nx ()))) fun (q95 : Unit) => (k_law_d63f_0 c36 c70))
def k_law_d63f_2 (c36 : D × D × D) (v27 : D) : M (Fl (Unit) (Unit)) := (do let t127 ← (DL.orM (do let x40 ← (do let r39 ← (do let x37 ← (pure c36.1); let r38 ← pure []; pure (x37 :: r38)); DL.ask (strO [("LabelPattern", m_LabelPattern_str_43dc), ("HostPattern", m_HostPattern_str_6eb8), ("PathPattern", m_PathPattern_str_7f49)] r39)); let y41 ← (pure c36.2.2); DL.ask ((neO [("LabelPattern", m_LabelPattern_eq_9777), ("HostPattern", m_HostPattern_eq_524e), ("PathPattern", m_PathPattern_eq_55e4)] x40 y41).bind bOf)) (DL.orM (do let x42 ← (pure c36.1); let y43 ← (pure c36.2.2); DL.ask ((eqO [("LabelPattern", m_LabelPattern_eq_9777), ("HostPattern", m_HostPattern_eq_524e), ("PathPattern", m_PathPattern_eq_55e4)] x42 y43).bind bOf)) (DL.orM (do let x47 ← (pure c36.1); let y48 ← (mkL (do let r46 ← (do let x44 ← (pure c36.2.2); let r45 ← pure []; pure (x44 :: r45)); DL.ask (szL r46))); DL.ask ((eqO [("LabelPattern", m_LabelPattern_eq_9777), ("HostPattern", m_HostPattern_eq_524e), ("PathPattern", m_PathPattern_eq_55e4)] x47 y48).bind bOf)) (DL.orM (do let x55 ← (pure c36.1); let y56 ← (do let r53 ← (do let x51 ← (pure c36.2.1); let r52 ← (do let x49 ← (pure c36.2.2); let r50 ← pure []; pure (x49 :: r50)); pure (x51 :: r52)); let r54 ← DL.ask (szL r53); pure (.tup r54)); DL.ask ((eqO [("LabelPattern", m_LabelPattern_eq_9777), ("HostPattern", m_HostPattern_eq_524e), ("PathPattern", m_PathPattern_eq_55e4)] x55 y56).bind bOf)) (do let x64 ← (pure c36.1); let y65 ← (mkL (do let r63 ← (do let x61 ← (pure .non); let r62 ← (do let x59 ← (pure (.bl true)); let r60 ← (do let x57 ← (pure (.int 0)); let r58 ← pure []; pure (x57 :: r58)); pure (x59 :: r60)); pure (x61 :: r62)); DL.ask (szL r63))); DL.ask ((inW [("LabelPattern", m_LabelPattern_eq_9777), ("HostPattern", m_HostPattern_eq_524e), ("PathPattern", m_PathPattern_eq_55e4)] x64 y65).bind bOf)))))); seqF (if t127 = true then (do let v67 ← (pure (.bl false)); pure (.rt v67)) else (pure (.nx ()))) fun (q66 : Unit) => (do let r126 ← (do let r68 ← (pure v27); DL.ask (itD r68)); seqF (forF un3 (fun (q69 : Unit) (c70 : D × D × D) => (k_law_d63f_1 c36 c70)) r126 ()) fun (q125 : Unit) => (pure (.nx ()))))
def k_law_d63f_3 : M (Fl (Unit) (Unit)) := (do let v27 ← (do let r33 ← (do let x31 ← (do let r30 ← (do let x28 ← (pure (.int 2)); let r29 ← pure []; pure (x28 :: r29)); m__law_signs_3c02 r30); let r32 ← pure []; pure (x31 :: r32)); m__law_made_040f r33); (do let r129 ← (do let r34 ← (pure v27); DL.ask (itD r34)); seqF (forF un3 (fun (q35 : Unit) (c36 : D × D × D) => (k_law_d63f_2 c36 v27)) r129 ()) fun (q128 : Unit) => (pure (.nx ()))))
def k_law_d63f_4 : R (Fl (Unit) (Empty)) := (do let v151 ← (andV (do let x139 ← (do let r133 ← (do let x131 ← (pure (.str [97])); let r132 ← pure []; pure (x131 :: r132)); let o134 ← Mo.lift (m_LabelPattern_init_02ae r133); pure (D.ins "LabelPattern" ["text", "level", "head", "tail", "gap"] o134)); let y140 ← (do let r137 ← (do let x135 ← (pure (.str [97])); let r136 ← pure []; pure (x135 :: r136)); let o138 ← Mo.lift (m_LabelPattern_init_02ae r137); pure (D.ins "LabelPattern" ["text", "level", "head", "tail", "gap"] o138)); DL.ask (eqO [("LabelPattern", m_LabelPattern_eq_9777), ("HostPattern", m_HostPattern_eq_524e), ("PathPattern", m_PathPattern_eq_55e4)] x139 y140)) (do let x149 ← (do let r143 ← (do let x141 ← (pure (.str [97])); let r142 ← pure []; pure (x141 :: r142)); let o144 ← Mo.lift (m_HostPattern_init_23dd r143); pure (D.ins "HostPattern" ["text", "level", "head", "tail", "gap"] o144)); let y150 ← (do let r147 ← (do let x145 ← (pure (.str [97])); let r146 ← pure []; pure (x145 :: r146)); let o148 ← Mo.lift (m_LabelPattern_init_02ae r147); pure (D.ins "LabelPattern" ["text", "level", "head", "tail", "gap"] o148)); DL.ask (neO [("LabelPattern", m_LabelPattern_eq_9777), ("HostPattern", m_HostPattern_eq_524e), ("PathPattern", m_PathPattern_eq_55e4)] x149 y150))); pure (.rt v151))
def k_law_d63f_5 (a0 : D) : R (Fl (Unit) (Empty)) := (do let r152 ← (do let r16 ← (do let x14 ← (do let r13 ← (do let x11 ← (pure (.int 1)); let r12 ← (do let x9 ← (do let r8 ← (do let x6 ← (pure (.int 6)); let r7 ← (do let x4 ← (do let r3 ← (do let x1 ← (pure a0); let r2 ← pure []; pure (x1 :: r2)); DL.ask (lenD r3)); let r5 ← pure []; pure (x4 :: r5)); pure (x6 :: r7)); DL.ask (minD r8)); let r10 ← pure []; pure (x9 :: r10)); pure (x11 :: r12)); DL.ask (maxD r13)); let r15 ← pure []; pure (x14 :: r15)); DL.ask (rng1 r16)); seqF (forF (fun d => some d) (fun (q17 : Unit) (c18 : D) => (do let v19 ← (do let r24 ← (do let x22 ← (pure a0); let r23 ← (do let x20 ← (pure c18); let r21 ← pure []; pure (x20 :: r21)); pure (x22 :: r23)); let r25 ← Mo.lift (m__law_bag_fbbe r24); DL.ask (lstOf r25)); withBag (.lst v19) (k_law_d63f_3))) r152 ()) fun (q130 : Unit) => (k_law_d63f_4))
def b_law_d63f (a0 : D) : R (Fl Unit Empty) := (k_law_d63f_5 a0)
theorem e_law_d63f (a0 : D) : b_law_d63f a0 = (do let x4 ← (DL.ask (lenD [a0])); let x9 ← (DL.ask (minD [(.int 6), x4])); let x14 ← (DL.ask (maxD [(.int 1), x9])); let r152 ← (DL.ask (rng1 [x14])); seqF (forF (fun d => some d) (fun (q17 : Unit) (c18 : D) => (do let r25 ← Mo.lift (m__law_bag_fbbe [a0, c18]); let v19 ← (DL.ask (lstOf r25)); withBag (.lst v19) (do let x31 ← (m__law_signs_3c02 [(.int 2)]); let v27 ← (m__law_made_040f [x31]); let r129 ← (DL.ask (itD v27)); seqF (forF un3 (fun (q35 : Unit) (c36 : D × D × D) => (do let t127 ← (DL.orM (do let x40 ← (DL.ask (strO [("LabelPattern", m_LabelPattern_str_43dc), ("HostPattern", m_HostPattern_str_6eb8), ("PathPattern", m_PathPattern_str_7f49)] [c36.1])); DL.ask ((neO [("LabelPattern", m_LabelPattern_eq_9777), ("HostPattern", m_HostPattern_eq_524e), ("PathPattern", m_PathPattern_eq_55e4)] x40 c36.2.2).bind bOf)) (DL.orM (DL.ask ((eqO [("LabelPattern", m_LabelPattern_eq_9777), ("HostPattern", m_HostPattern_eq_524e), ("PathPattern", m_PathPattern_eq_55e4)] c36.1 c36.2.2).bind bOf)) (DL.orM (do let y48 ← (DL.ask (szL [c36.2.2])); DL.ask ((eqO [("LabelPattern", m_LabelPattern_eq_9777), ("HostPattern", m_HostPattern_eq_524e), ("PathPattern", m_PathPattern_eq_55e4)] c36.1 (.lst y48)).bind bOf)) (DL.orM (do let r54 ← DL.ask (szL [c36.2.1, c36.2.2]); DL.ask ((eqO [("LabelPattern", m_LabelPattern_eq_9777), ("HostPattern", m_HostPattern_eq_524e), ("PathPattern", m_PathPattern_eq_55e4)] c36.1 (.tup r54)).bind bOf)) (do let y65 ← (DL.ask (szL [.non, (.bl true), (.int 0)])); DL.ask ((inW [("LabelPattern", m_LabelPattern_eq_9777), ("HostPattern", m_HostPattern_eq_524e), ("PathPattern", m_PathPattern_eq_55e4)] c36.1 (.lst y65)).bind bOf)))))); seqF (if t127 = true then (pure (.rt (.bl false))) else (pure (.nx ()))) fun (q66 : Unit) => (do let r126 ← (DL.ask (itD v27)); seqF (forF un3 (fun (q69 : Unit) (c70 : D × D × D) => (do let x73 ← (DL.ask (eqO [("LabelPattern", m_LabelPattern_eq_9777), ("HostPattern", m_HostPattern_eq_524e), ("PathPattern", m_PathPattern_eq_55e4)] c36.1 c70.1)); let x93 ← (DL.ask (reprD [x73])); let r81 ← DL.ask (szL [c36.2.1, c36.2.2]); let r87 ← DL.ask (szL [c70.2.1, c70.2.2]); let x90 ← (DL.ask (eqD (.tup r81) (.tup r87))); let y94 ← (DL.ask (reprD [x90])); let t124 ← (DL.ask ((neD x93 y94).bind bOf)); seqF (if t124 = true then (pure (.rt (.bl false))) else (pure (.nx ()))) fun (q95 : Unit) => (do let x99 ← (DL.ask (neO [("LabelPattern", m_LabelPattern_eq_9777), ("HostPattern", m_HostPattern_eq_524e), ("PathPattern", m_PathPattern_eq_55e4)] c36.1 c70.1)); let x119 ← (DL.ask (reprD [x99])); let r107 ← DL.ask (szL [c36.2.1, c36.2.2]); let r113 ← DL.ask (szL [c70.2.1, c70.2.2]); let x116 ← (DL.ask (neD (.tup r107) (.tup r113))); let y120 ← (DL.ask (reprD [x116])); let t123 ← (DL.ask ((neD x119 y120).bind bOf)); seqF (if t123 = true then (pure (.rt (.bl false))) else (pure (.nx ()))) fun (q121 : Unit) => (pure (.nx ()))))) r126 ()) fun (q125 : Unit) => (pure (.nx ()))))) r129 ()) fun (q128 : Unit) => (pure (.nx ()))))) r152 ()) fun (q130 : Unit) => (do let v151 ← (andV (do let o134 ← Mo.lift (m_LabelPattern_init_02ae [(.str [97])]); let o138 ← Mo.lift (m_LabelPattern_init_02ae [(.str [97])]); DL.ask (eqO [("LabelPattern", m_LabelPattern_eq_9777), ("HostPattern", m_HostPattern_eq_524e), ("PathPattern", m_PathPattern_eq_55e4)] (D.ins "LabelPattern" ["text", "level", "head", "tail", "gap"] o134) (D.ins "LabelPattern" ["text", "level", "head", "tail", "gap"] o138))) (do let o144 ← Mo.lift (m_HostPattern_init_23dd [(.str [97])]); let o148 ← Mo.lift (m_LabelPattern_init_02ae [(.str [97])]); DL.ask (neO [("LabelPattern", m_LabelPattern_eq_9777), ("HostPattern", m_HostPattern_eq_524e), ("PathPattern", m_PathPattern_eq_55e4)] (D.ins "HostPattern" ["text", "level", "head", "tail", "gap"] o144) (D.ins "LabelPattern" ["text", "level", "head", "tail", "gap"] o148)))); pure (.rt v151))) := by
  unfold b_law_d63f; simp only [k_law_d63f_0, k_law_d63f_1, k_law_d63f_2, k_law_d63f_3, k_law_d63f_4, k_law_d63f_5, pure_bind, bind_assoc, mkL]
def m_law_d63f : List D → R D := apR1 fun a0 => (runR false (b_law_d63f a0))
end FN
namespace FN
open DL PySem PySem.W
def PN10 : List Str := ["text", "level", "head", "tail", "gap"]
inductive Kd10 | l | h | p
deriving DecidableEq
def Kd10.c : Kd10 → Str
  | .l => "LabelPattern"
  | .h => "HostPattern"
  | .p => "PathPattern"
def Kd10.n : Kd10 → List Nat
  | .l => [108, 97, 98, 101, 108]
  | .h => [104, 111, 115, 116]
  | .p => [112, 97, 116, 104]
structure Pt10 where
  k : Kd10
  z : List Nat
  fs : List D
def Pt10.o (x : Pt10) : D := .ins x.k.c PN10 (.str x.z :: x.fs)
def Pt10.d (x : Pt10) : D := .tup [x.o, .str x.k.n, .str x.z]
def PtOk10 (x : Pt10) : Prop := x.z.length ≤ 100 ∧ ∀ c ∈ x.z, c < 1114112
abbrev PL10 : List (Str × (List D → R D)) := [("LabelPattern", m_LabelPattern_eq_9777), ("HostPattern", m_HostPattern_eq_524e), ("PathPattern", m_PathPattern_eq_55e4)]
theorem pt_fld (x : Pt10) : fldD ["LabelPattern", "HostPattern", "PathPattern"] "text" x.o = some (.str x.z) := by
  obtain ⟨k, z, fs⟩ := x
  cases k <;> rfl
theorem pt_eq (x y : Pt10) : eqO PL10 x.o y.o = some (.bl (decide (x.k = y.k) && decide (x.z = y.z))) := by
  have fx := pt_fld x
  have fy := pt_fld y
  obtain ⟨k, z, fs⟩ := x
  obtain ⟨k', z', fs'⟩ := y
  cases k with
  | l =>
    cases k' with
    | l =>
      show toO (m_LabelPattern_eq_9777 [Pt10.o ⟨.l, z, fs⟩, Pt10.o ⟨.l, z', fs'⟩]) = _
      unfold m_LabelPattern_eq_9777 apR2
      have i1 : isiT [("LabelPattern", true), ("HostPattern", false), ("PathPattern", false)] noneOfB (Pt10.o ⟨.l, z', fs'⟩) = some (.bl true) := rfl
      simp only [e_LabelPattern_eq_9777, i1, fx, fy, eq_ss, andV, askR, pure_bind, tru_bl, if_true]
      rfl
    | h => rfl
    | p => rfl
  | h =>
    cases k' with
    | h =>
      show toO (m_HostPattern_eq_524e [Pt10.o ⟨.h, z, fs⟩, Pt10.o ⟨.h, z', fs'⟩]) = _
      unfold m_HostPattern_eq_524e apR2
      have i1 : isiT [("LabelPattern", false), ("HostPattern", true), ("PathPattern", false)] noneOfB (Pt10.o ⟨.h, z', fs'⟩) = some (.bl true) := rfl
      simp only [e_HostPattern_eq_524e, i1, fx, fy, eq_ss, andV, askR, pure_bind, tru_bl, if_true]
      rfl
    | l => rfl
    | p => rfl
  | p =>
    cases k' with
    | p =>
      show toO (m_PathPattern_eq_55e4 [Pt10.o ⟨.p, z, fs⟩, Pt10.o ⟨.p, z', fs'⟩]) = _
      unfold m_PathPattern_eq_55e4 apR2
      have i1 : isiT [("LabelPattern", false), ("HostPattern", false), ("PathPattern", true)] noneOfB (Pt10.o ⟨.p, z', fs'⟩) = some (.bl true) := rfl
      simp only [e_PathPattern_eq_55e4, i1, fx, fy, eq_ss, andV, askR, pure_bind, tru_bl, if_true]
      rfl
    | l => rfl
    | h => rfl
theorem pt_ne (x y : Pt10) : neO PL10 x.o y.o = some (.bl (!(decide (x.k = y.k) && decide (x.z = y.z)))) := by
  have e := pt_eq x y
  show (eqO PL10 x.o y.o).bind notD = _
  rw [e]
  rfl
theorem pt_eqS (x : Pt10) (z : List Nat) : (eqO PL10 x.o (.str z)).bind bOf = some false := by obtain ⟨k, z, fs⟩ := x; cases k <;> rfl
theorem pt_eqL (x : Pt10) (ds : List D) : (eqO PL10 x.o (.lst ds)).bind bOf = some false := by obtain ⟨k, z, fs⟩ := x; cases k <;> rfl
theorem pt_eqT (x : Pt10) (ds : List D) : (eqO PL10 x.o (.tup ds)).bind bOf = some false := by obtain ⟨k, z, fs⟩ := x; cases k <;> rfl
theorem pt_in (x : Pt10) : (inW PL10 x.o (.lst [.non, .bl true, .int 0])).bind bOf = some false := by obtain ⟨k, z, fs⟩ := x; cases k <;> rfl
theorem pt_str (x : Pt10) : strO [("LabelPattern", m_LabelPattern_str_43dc), ("HostPattern", m_HostPattern_str_6eb8), ("PathPattern", m_PathPattern_str_7f49)] [x.o] = some (.str x.z) := by obtain ⟨k, z, fs⟩ := x; cases k <;> rfl
theorem kd_inj (k k' : Kd10) : decide (k.n = k'.n) = decide (k = k') := by cases k <;> cases k' <;> rfl
theorem pt_tup {x y : Pt10} (hx : PtOk10 x) (hy : PtOk10 y) : eqD (.tup [.str x.k.n, .str x.z]) (.tup [.str y.k.n, .str y.z]) = some (.bl (decide (x.k = y.k) && decide (x.z = y.z))) ∧ neD (.tup [.str x.k.n, .str x.z]) (.tup [.str y.k.n, .str y.z]) = some (.bl (!(decide (x.k = y.k) && decide (x.z = y.z)))) := by
  have nn : ∀ {x : Pt10}, PtOk10 x → nic 1 (.tup [.str x.k.n, .str x.z]) = true := fun {x} hx => nicL_iff.mpr fun d m => by
    simp only [List.mem_cons, List.not_mem_nil, or_false] at m
    rcases m with rfl | rfl
    · cases x.k <;> rfl
    · show x.z.all (fun c => decide (c < 1114112)) = true
      exact List.all_eq_true.mpr fun c m => decide_eq_true (hx.2 c m)
  have dq : deq (.tup [.str x.k.n, .str x.z]) (.tup [.str y.k.n, .str y.z]) = (decide (x.k = y.k) && decide (x.z = y.z)) := by
    show (decide (x.k.n = y.k.n) && (decide (x.z = y.z) && true)) = _
    rw [kd_inj, Bool.and_true]
  constructor
  · rw [eq_nic (nn hx) (nn hy) (by omega) (by omega), dq]
  · rw [ne_nic (nn hx) (nn hy) (by omega) (by omega), dq]
end FN
namespace FN
open DL PySem PySem.W
theorem it_len10 {z : List Nat} (h : isIt z = true) : 1 ≤ z.length ∧ z.length ≤ 8 ∧ z.count 42 ≤ 1 ∧ ∀ c ∈ z, c = 42 ∨ c ∈ CH := by
  unfold isIt at h
  simp only [Bool.and_eq_true, decide_eq_true_eq, List.all_eq_true, Bool.or_eq_true] at h
  exact ⟨h.1.1.1, h.1.1.2, h.1.2, h.2⟩
theorem it_free10 {z : List Nat} {s : Nat} (h : isIt z = true) (hs : s ∉ CH) (h2 : s ≠ 42) : s ∉ z := fun m => by
  rcases (it_len10 h).2.2.2 s m with e | e
  · exact h2 e
  · exact hs e
theorem it_lt10 {z : List Nat} (h : isIt z = true) : ∀ c ∈ z, c < 1114112 := fun c m => by
  rcases (it_len10 h).2.2.2 c m with rfl | e
  · omega
  · exact ch_lt e
theorem it_gp10 {z : List Nat} (h : isIt z = true) : z ≠ gp := fun e => by
  have := (it_len10 h).2.2.1
  rw [e] at this
  revert this
  decide
theorem label_init10 {z : List Nat} (h : isIt z = true) : ∃ fs, m_LabelPattern_init_02ae [.str z] = .ok (.str z :: fs) := by
  have hl := it_len10 h
  have so : strOf (.str z) = some z := rfl
  have pe : ∃ a b c, partD (.str z) (.str [42]) = some (.tup [.str a, .str b, .str c]) := by
    rw [part_eq (S := [42]) (by simp) (by omega)]
    cases TL.par [42] [] z with
    | none => exact ⟨_, _, _, rfl⟩
    | some pq => exact ⟨_, _, _, rfl⟩
  obtain ⟨a, b, c, pe⟩ := pe
  have u3 : un3 (.tup [.str a, .str b, .str c]) = some (.str a, .str b, .str c) := rfl
  have tx : ∀ w : List Nat, tupleXD [.str w] = some (.tup (chrs w)) := fun _ => rfl
  have s3 : ∀ a b c : D, szL [a, b, c] = some [a, b, c] := fun a b c => sz_ok (by simp)
  have sh : m_label_shape_c600 [.str z] = .ok (.tup [.tup (chrs a), .tup (chrs c), .bl (decide (b = [42]))]) := by
    show runR false (b_label_shape_c600 (.str z)) = _
    rw [e_label_shape_c600]
    simp only [so, pe, u3, tx, eq_ss, s3, askR, pure_bind]
    rfl
  refine ⟨[c_LABEL, .tup (chrs a), .tup (chrs c), .bl (decide (b = [42]))], ?_⟩
  unfold m_LabelPattern_init_02ae apI1
  simp only [item_ok, h, sh, iteM, lift_pR, okpR, tru_bl, askR, pure_bind, if_true]
  rfl
theorem spl_one10 {s : Nat} : ∀ (z acc : List Nat), s ∉ z → TL.spl [s] 0 acc z = [acc ++ z]
  | [], acc, _ => by rw [TL.spl_nil, List.append_nil]
  | c :: z, acc, h => by
    have hc : c ≠ s := fun e => h (by rw [e]; exact .head _)
    have hz : s ∉ z := fun m => h (.tail _ m)
    have hp : TL.pre [s] (c :: z) = false := TL.pre_of_head [] z hc
    rw [TL.spl_miss hp, spl_one10 z (acc ++ [c]) hz, List.append_assoc]
    rfl
theorem good_one {z : List Nat} {a b : Nat} (h : isIt z = true) (h0 : a ≤ 1) (h1 : 1 ≤ b) (x y : Nat) : good [z] a b x y = true := by
  have ng : gp ∉ [z] := fun m => it_gp10 h (List.mem_singleton.mp m).symm
  unfold good
  rw [if_neg ng, List.count_eq_zero.mpr ng]
  simp [h, h0, h1]
theorem goodH_one {z : List Nat} (h : isIt z = true) : goodH z = true := by
  unfold goodH
  rw [spl_one10 z [] (it_free10 h (by decide) (by decide)), List.nil_append]
  exact good_one h (by omega) (by omega) _ _
theorem goodP_one {z : List Nat} (h : isIt z = true) : goodP (47 :: z) = true := by
  have hz : z ≠ [] := fun e => by have := (it_len10 h).1; rw [e] at this; simp at this
  unfold goodP itemsP
  have n : ¬ (47 :: z = [47]) := fun e => hz (by injection e)
  rw [if_neg n]
  show (decide ((47 :: z).take 1 = [47]) && good (TL.spl [47] 0 [] z) 0 3 2 2) = true
  rw [spl_one10 z [] (it_free10 h (by decide) (by decide)), List.nil_append]
  exact good_one h (by omega) (by omega) _ _
theorem goodH_gap {z : List Nat} (h : isIt z = true) : goodH (42 :: 42 :: 46 :: z) = true := by
  have e : TL.spl [46] 0 [] (42 :: 42 :: 46 :: z) = [[42, 42], z] := by
    have p1 : TL.pre [46] (42 :: 42 :: 46 :: z) = false := TL.pre_of_head [] _ (by decide)
    have p2 : TL.pre [46] (42 :: 46 :: z) = false := TL.pre_of_head [] _ (by decide)
    have p3 : TL.pre [46] (46 :: z) = true := by simp [TL.pre]
    rw [TL.spl_miss p1, TL.spl_miss p2, TL.spl_hit p3]
    show [42, 42] :: TL.spl [46] 0 [] z = _
    rw [spl_one10 z [] (it_free10 h (by decide) (by decide))]
    rfl
  have ne := it_gp10 h
  unfold goodH
  rw [e]
  show good [z, gp] 1 4 3 2 = true
  unfold good
  have c : [z, gp].count gp = 1 := by
    rw [List.count_cons_of_ne ne]
    rfl
  have ix : [z, gp].idxOf gp = 1 := by
    have na : gp ∉ [z] := fun m => ne (List.mem_singleton.mp m).symm
    exact idx_first (A := [z]) (B := []) na
  rw [c, ix, if_pos (by simp)]
  simp [h]
end FN
namespace FN
open DL PySem PySem.W
theorem glob10 {cs : List Nat} (h0 : cs ≠ []) (hl : cs.length ≤ 100) (hc : ∀ c ∈ cs, c ∈ CH) : Ok (m__law_glob_3319 [.lst (chrs cs), .int 2]) fun d => ∃ z, d = .str z ∧ isIt z = true := by
  have so : strOf (.str []) = some [] := rfl
  have io : ∀ i : Int, intOf (.int i) = some i := fun _ => rfl
  have sub : ∀ {z : List Nat}, (∀ c ∈ z, c ∈ cs) → ∀ c ∈ z, c ∈ CH := fun h c m => hc c (h c m)
  have c42 : ∀ {z : List Nat}, (∀ c ∈ z, c ∈ CH) → z.count 42 = 0 := fun h => List.count_eq_zero.mpr fun m => absurd (h 42 m) (by decide)
  have it : ∀ {z : List Nat}, 1 ≤ z.length → z.length ≤ 8 → z.count 42 ≤ 1 → (∀ c ∈ z, c = 42 ∨ c ∈ CH) → isIt z = true := fun a b c d => by
    unfold isIt
    simp only [Bool.and_eq_true, decide_eq_true_eq, List.all_eq_true, Bool.or_eq_true]
    exact ⟨⟨⟨a, b⟩, c⟩, d⟩
  refine ok_runM ?_
  simp only [e__law_glob_3319]
  refine ok_then (take_ok (n := 6) (by omega) (by omega)) ?_
  rintro d ⟨w, rfl, w0, w1⟩
  simp only [eqi, so, io, add_ii, askM, pure_bind]
  refine ok_seq (ok_ite (fun _ => ok_pure ⟨[42], rfl, by decide⟩) fun _ => ok_pure ?_)
  refine ok_then (take_ok (n := 2 + 1) (by omega) (by omega)) ?_
  rintro d ⟨i, rfl, i0, i1⟩
  rw [rng1_ok (j := i) (by omega) (by omega)]
  simp only [askM, pure_bind]
  refine ok_then (drawn_ok h0 (by omega)) ?_
  rintro rs ⟨a, rfl, al, am⟩
  rw [join_chrs (by omega)]
  simp only [askM, pure_bind]
  refine ok_then (take_ok (n := 2 + 1) (by omega) (by omega)) ?_
  rintro d ⟨j, rfl, j0, j1⟩
  rw [rng1_ok (j := j) (by omega) (by omega)]
  simp only [askM, pure_bind]
  refine ok_then (drawn_ok h0 (by omega)) ?_
  rintro rs ⟨b, rfl, bl, bm⟩
  rw [join_chrs (by omega)]
  simp only [askM, pure_bind]
  have ha := sub am
  have hb := sub bm
  have lt : (ltD (.int w) (.int 3)).bind bOf = some (decide (w < 3)) := rfl
  simp only [lt, askM, pure_bind]
  refine ok_seq (ok_ite (fun _ => ?_) fun _ => ok_pure ?_)
  · rw [add_ss (by omega)]
    simp only [askM, pure_bind]
    refine ok_then (of_ok (by simpa [chrs] using h0) (by rw [chrs_len]; omega)) fun v hv => ?_
    obtain ⟨c, mc, rfl⟩ := List.mem_map.mp hv
    rw [add_ss (by simp; omega)]
    simp only [slice_s, askM, pure_bind]
    refine ok_pure ⟨_, rfl, ?_⟩
    have hall : ∀ x ∈ a ++ b ++ [c], x ∈ CH := fun x m => by
      rcases List.mem_append.mp m with m | m
      · rcases List.mem_append.mp m with m | m
        · exact ha x m
        · exact hb x m
      · rw [List.mem_singleton.mp m]; exact hc c mc
    have ct : cutL (a ++ b ++ [c]) none (some 8) = a ++ b ++ [c] := by
      rw [cut_hi (by omega)]
      exact List.take_of_length_le (by simp; omega)
    rw [ct]
    exact it (by simp; omega) (by simp; omega) (by rw [c42 hall]; omega) fun x m => .inr (hall x m)
  · rw [add_ss (by simp; omega)]
    simp only [askM, pure_bind]
    rw [add_ss (by simp; omega)]
    simp only [askM, pure_bind]
    refine ok_pure ⟨_, rfl, it (by simp; omega) (by simp; omega) ?_ fun x m => ?_⟩
    · rw [List.count_append, List.count_append, c42 ha, c42 hb]
      decide
    · rcases List.mem_append.mp m with m | m
      · rcases List.mem_append.mp m with m | m
        · exact .inr (ha x m)
        · exact .inl (List.mem_singleton.mp m)
      · exact .inr (hb x m)
end FN
namespace FN
open DL PySem PySem.W
theorem made10 {cs : List Nat} (h0 : cs ≠ []) (hl : cs.length ≤ 100) (hc : ∀ c ∈ cs, c ∈ CH) : Ok (m__law_made_040f [.lst (chrs cs)]) fun d => ∃ ps : List Pt10, d = .lst (ps.map Pt10.d) ∧ ∀ p ∈ ps, PtOk10 p := by
  have s0 : szL ([] : List D) = some [] := sz_ok (by simp)
  have s1 : ∀ a : D, szL [a] = some [a] := fun a => sz_ok (by simp)
  have s3 : ∀ a b c : D, szL [a, b, c] = some [a, b, c] := fun a b c => sz_ok (by simp)
  have pk : ∀ {z : List Nat}, isIt z = true → ∀ k fs, PtOk10 ⟨k, z, fs⟩ := fun h k fs => ⟨Nat.le_trans (it_len10 h).2.1 (by omega), it_lt10 h⟩
  refine ok_runM ?_
  simp only [e__law_made_040f, s0, askM, pure_bind]
  rw [rng1_ok (j := 3) (by omega) (by omega)]
  simp only [askM, pure_bind]
  refine ok_then (ok_lc (P := fun _ r => ∃ z, r = .str z ∧ isIt z = true) _ fun d _ => ⟨d, rfl, glob10 h0 hl hc⟩) ?_
  intro rs hrs
  obtain ⟨A, rfl, hAl, hA⟩ := all2_P hrs
  rw [range_len] at hAl
  match A, hAl, hA with
  | [a, b, c], _, hA =>
    have i0 : ixD (.lst ([a, b, c].map .str)) (.int 0) = some (.str a) := rfl
    have al : addD (.lst ([a, b, c].map .str)) (.lst [.str a]) = some (.lst ([a, b, c, a].map .str)) := add_ll (by simp)
    have it : itD (.lst ([a, b, c, a].map .str)) = some ([a, b, c, a].map .str) := rfl
    simp only [i0, s1, al, it, askM, pure_bind]
    have h4 : ∀ z ∈ [a, b, c, a], isIt z = true := fun z m => by
      simp only [List.mem_cons, List.not_mem_nil, or_false] at m
      rcases m with rfl | rfl | rfl | rfl
      · exact hA _ (by simp)
      · exact hA _ (by simp)
      · exact hA _ (by simp)
      · exact hA _ (by simp)
    generalize hzs : [a, b, c, a] = zs at h4
    have hzl : zs.length = 4 := by rw [← hzs]; rfl
    refine ok_seqP (fun q => ∃ ps : List Pt10, q = ps.map Pt10.d ∧ (∀ p ∈ ps, PtOk10 p) ∧ ps.length ≤ 16) (ok_for (fun n q => ∃ ps : List Pt10, q = ps.map Pt10.d ∧ (∀ p ∈ ps, PtOk10 p) ∧ ps.length = 4 * n) _ _ ⟨[], rfl, (fun p m => by cases m), rfl⟩ (fun n d q hd hq => ⟨d, rfl, ?_⟩) ?_) ?_
    · obtain ⟨ps, rfl, hps, hpl⟩ := hq
      have hn : n < 4 := by
        have := (List.getElem?_eq_some_iff.mp hd).1
        rw [List.length_map, hzl] at this
        exact this
      obtain ⟨z, hz, rfl⟩ := List.mem_map.mp (List.mem_of_getElem? hd)
      have hi := h4 z hz
      have hzl := it_len10 hi
      obtain ⟨f1, e1⟩ := label_init10 hi
      obtain ⟨f2, e2⟩ := (host_init_any (T := z) (by omega)).1 (goodH_one hi)
      obtain ⟨f3, e3⟩ := (path_init_any (T := 47 :: z) (by simp; omega)).1 (goodP_one hi)
      obtain ⟨f4, e4⟩ := (host_init_any (T := 42 :: 42 :: 46 :: z) (by simp; omega)).1 (goodH_gap hi)
      have a1 : addD (.str [47]) (.str z) = some (.str (47 :: z)) := add_ss (by simp; omega)
      have a2 : addD (.str [42, 42, 46]) (.str z) = some (.str (42 :: 42 :: 46 :: z)) := add_ss (by simp; omega)
      have ap : ∀ (ps : List Pt10) (d : D), ps.length ≤ 100 → apd (ps.map Pt10.d) d = some (ps.map Pt10.d ++ [d]) := fun ps d h => apd_ok (by rw [List.length_map]; omega)
      simp only [e1, e2, e3, e4, a1, a2, s3, lift_M, askM, pure_bind]
      rw [ap ps _ (by omega)]
      simp only [askM, pure_bind]
      rw [apd_ok (by rw [List.length_append, List.length_map, List.length_singleton]; omega)]
      simp only [askM, pure_bind]
      rw [apd_ok (by simp only [List.length_append, List.length_map, List.length_singleton]; omega)]
      simp only [askM, pure_bind]
      rw [apd_ok (by simp only [List.length_append, List.length_map, List.length_singleton]; omega)]
      simp only [askM, pure_bind]
      refine ok_pure ⟨ps ++ [⟨.l, z, f1⟩] ++ [⟨.h, z, f2⟩] ++ [⟨.p, 47 :: z, f3⟩] ++ [⟨.h, 42 :: 42 :: 46 :: z, f4⟩], ?_, fun p m => ?_, by simp only [List.length_append, List.length_singleton]; omega⟩
      · rw [List.map_append, List.map_append, List.map_append, List.map_append]
        rfl
      · simp only [List.mem_append, List.mem_singleton] at m
        rcases m with (((m | rfl) | rfl) | rfl) | rfl
        · exact hps p m
        · exact pk hi _ _
        · exact pk hi _ _
        · exact ⟨by show (47 :: z).length ≤ 100; simp; omega, fun c m => by
            rcases List.mem_cons.mp m with rfl | m
            · omega
            · exact it_lt10 hi c m⟩
        · exact ⟨by show (42 :: 42 :: 46 :: z).length ≤ 100; simp; omega, fun c m => by
            have m' : c ∈ 42 :: 42 :: 46 :: z := m
            simp only [List.mem_cons] at m'
            rcases m' with rfl | rfl | rfl | m
            · omega
            · omega
            · omega
            · exact it_lt10 hi c m⟩
    · rintro q ⟨ps, rfl, h1, h2⟩
      rw [List.length_map, hzl] at h2
      exact ⟨ps, rfl, h1, by omega⟩
    rintro q ⟨ps, rfl, hps, hpl⟩
    have hs : isIt [42] = true := by decide
    obtain ⟨f1, e1⟩ := (host_init_any (T := [42]) (by simp)).1 (goodH_one hs)
    obtain ⟨f2, e2⟩ := label_init10 hs
    obtain ⟨f3, e3⟩ := (path_init_any (T := [47]) (by simp)).1 (by decide)
    simp only [e1, e2, e3, s3, lift_M, askM, pure_bind]
    rw [apd_ok (by rw [List.length_map]; omega)]
    simp only [askM, pure_bind]
    rw [apd_ok (by simp only [List.length_append, List.length_map, List.length_singleton]; omega)]
    simp only [askM, pure_bind]
    rw [apd_ok (by simp only [List.length_append, List.length_map, List.length_singleton]; omega)]
    simp only [askM, pure_bind]
    refine ok_pure ⟨ps ++ [⟨.h, [42], f1⟩] ++ [⟨.l, [42], f2⟩] ++ [⟨.p, [47], f3⟩], ?_, fun p m => ?_⟩
    · rw [List.map_append, List.map_append, List.map_append]
      rfl
    · simp only [List.mem_append, List.mem_singleton] at m
      rcases m with ((m | rfl) | rfl) | rfl
      · exact hps p m
      · exact pk hs _ _
      · exact pk hs _ _
      · exact ⟨by show [47].length ≤ 100; simp, fun c m => by rw [List.mem_singleton.mp m]; omega⟩
end FN
namespace FN
open DL PySem PySem.W
theorem law_ok10 {ns : List Int} (hns : ns.length ≤ 63) : OkR (m_law_d63f [.scr ns]) fun d => d = .bl true := by
  have s1 : ∀ a : D, szL [a] = some [a] := fun a => sz_ok (by simp)
  have s2 : ∀ a b : D, szL [a, b] = some [a, b] := fun a b => sz_ok (by simp)
  have s3 : ∀ a b c : D, szL [a, b, c] = some [a, b, c] := fun a b c => sz_ok (by simp)
  have it : ∀ ds : List D, itD (.lst ds) = some ds := fun _ => rfl
  unfold m_law_d63f apR1
  refine okr_runR ?_
  simp only [e_law_d63f, len_scr, minD, maxD, askR, pure_bind]
  rw [rng1_ok (by split <;> split <;> omega) (by split <;> split <;> omega)]
  simp only [askR, pure_bind]
  refine okr_seq (okr_forU _ (fun d hd => ⟨d, rfl, ?_⟩) ?_)
  · obtain ⟨k, hk, rfl⟩ := range_mem hd
    have hk6 : k < 6 := by revert hk; split <;> split <;> omega
    refine okr_then (bag_ok ns (i := 0 + (k : Int)) (by omega) (by omega)) ?_
    rintro d ⟨x, y, rfl, hy0, hy1⟩
    simp only [lstOf, askR, pure_bind]
    refine okr_bag hy0 hy1 ?_
    refine ok_then (signs_ok (n := 2) (by omega) (by omega)) ?_
    rintro d ⟨cs, rfl, hcl, _, hcs⟩
    have hcl2 : cs.length = 2 := hcl
    refine ok_then (made10 (cs := cs) (fun e => by rw [e] at hcl2; simp at hcl2) (by omega) hcs) ?_
    rintro d ⟨ps, rfl, hps⟩
    simp only [it, askM, pure_bind]
    refine ok_seq (ok_forU _ (fun d hd => ?_) ?_)
    · obtain ⟨p, hp, rfl⟩ := List.mem_map.mp hd
      refine ⟨(p.o, .str p.k.n, .str p.z), rfl, ?_⟩
      have nn : (neO PL10 (.str p.z) (.str p.z)).bind bOf = some false := by
        show (neD (.str p.z) (.str p.z)).bind bOf = _
        rw [ne_ss, decide_eq_true rfl]; rfl
      simp only [pt_str, nn, pt_eqS, pt_eqL, pt_eqT, pt_in, s1, s2, s3, DL.orM, askM, pure_bind, Bool.false_eq_true, if_false]
      refine ok_seq (ok_pure ?_)
      change Ok _ _
      refine ok_seq (ok_forU _ (fun d hd => ?_) ?_)
      · obtain ⟨q, hq, rfl⟩ := List.mem_map.mp hd
        refine ⟨(q.o, .str q.k.n, .str q.z), rfl, ?_⟩
        obtain ⟨t1, t2⟩ := pt_tup (hps p hp) (hps q hq)
        have e1 := pt_eq p q
        have e2 := pt_ne p q
        generalize (decide (p.k = q.k) && decide (p.z = q.z)) = b at t1 t2 e1 e2
        have rp : ∀ b : Bool, ∃ w, reprD [.bl b] = some w ∧ (neD w w).bind bOf = some false := fun b => by
          obtain ⟨z, e⟩ := repr_nic (n := 0) (d := .bl b) rfl (by omega) (by simp [wt])
          exact ⟨_, e, by rw [ne_ss, decide_eq_true rfl]; rfl⟩
        obtain ⟨w1, r1, n1⟩ := rp b
        obtain ⟨w2, r2, n2⟩ := rp (!b)
        simp only [e1, e2, t1, t2, r1, r2, n1, n2, askM, pure_bind, Bool.false_eq_true, if_false]
        refine ok_seq (ok_pure ?_)
        change Ok _ _
        exact ok_seq (ok_pure (ok_pure trivial))
      · change Ok _ _
        exact ok_pure trivial
    · change Ok _ _
      exact ok_pure trivial
  · have ia : isIt [97] = true := by decide
    obtain ⟨f1, e1⟩ := label_init10 ia
    obtain ⟨f2, e2⟩ := (host_init_any (T := [97]) (by simp)).1 (goodH_one ia)
    have q1 : eqO PL10 (D.ins "LabelPattern" ["text", "level", "head", "tail", "gap"] (.str [97] :: f1)) (D.ins "LabelPattern" ["text", "level", "head", "tail", "gap"] (.str [97] :: f1)) = some (.bl true) := pt_eq ⟨.l, [97], f1⟩ ⟨.l, [97], f1⟩
    have q2 : neO PL10 (D.ins "HostPattern" ["text", "level", "head", "tail", "gap"] (.str [97] :: f2)) (D.ins "LabelPattern" ["text", "level", "head", "tail", "gap"] (.str [97] :: f1)) = some (.bl true) := pt_ne ⟨.h, [97], f2⟩ ⟨.l, [97], f1⟩
    change OkR _ _
    simp only [e1, e2, lift_pR, okpR, pure_bind, q1, q2, askR, andV, tru_bl, if_true]
    exact okr_p rfl
theorem law_d63f_true : ∀ ns : List Int, ns.length ≤ 63 → m_law_d63f [.scr ns] = .ok (.bl true) := fun ns h => by
  obtain ⟨d, e, rfl⟩ := law_ok10 h
  exact e
end FN
namespace K10
open PySem L2 DL FN
abbrev N_label_shape : List Str := ["text", "head", "star", "tail"]
theorem sc_label_shape : FnScope N_label_shape ["text"] (defScope s_label_shape) := ⟨rfl, rfl, rfl, by decide +kernel, rfl, by decide +kernel, by decide +kernel⟩
abbrev N_is_label_text : List Str := ["thing", "sign"]
theorem sc_is_label_text : FnScope N_is_label_text ["thing"] (defScope s_is_label_text) := ⟨rfl, rfl, rfl, by decide +kernel, rfl, by decide +kernel, by decide +kernel⟩
abbrev N__law_bag : List Str := ["_law_script", "_law_at", "_law_cell", "_law_mixed", "_law_k", "_law_one"]
theorem sc__law_bag : FnScope N__law_bag ["_law_script", "_law_at"] (defScope s__law_bag) := ⟨rfl, rfl, rfl, by decide +kernel, rfl, by decide +kernel, by decide +kernel⟩
abbrev N__law_take : List Str := ["_law_bag_here", "_law_many", "_law_digit"]
theorem sc__law_take : FnScope N__law_take ["_law_bag_here", "_law_many"] (defScope s__law_take) := ⟨rfl, rfl, rfl, by decide +kernel, rfl, by decide +kernel, by decide +kernel⟩
abbrev N_Pattern_init : List Str := ["self", "text", "level", "shape"]
theorem sc_Pattern_init : FnScope N_Pattern_init ["self", "text", "level", "shape"] (defScope s_Pattern_init) := ⟨rfl, rfl, rfl, by decide +kernel, rfl, by decide +kernel, by decide +kernel⟩
abbrev N_LabelPattern_eq : List Str := ["self", "other"]
theorem sc_LabelPattern_eq : FnScope N_LabelPattern_eq ["self", "other"] (defScope s_LabelPattern_eq) := ⟨rfl, rfl, rfl, by decide +kernel, rfl, by decide +kernel, by decide +kernel⟩
abbrev N_LabelPattern_str : List Str := ["self"]
theorem sc_LabelPattern_str : FnScope N_LabelPattern_str ["self"] (defScope s_LabelPattern_str) := ⟨rfl, rfl, rfl, by decide +kernel, rfl, by decide +kernel, by decide +kernel⟩
abbrev N_HostPattern_eq : List Str := ["self", "other"]
theorem sc_HostPattern_eq : FnScope N_HostPattern_eq ["self", "other"] (defScope s_HostPattern_eq) := ⟨rfl, rfl, rfl, by decide +kernel, rfl, by decide +kernel, by decide +kernel⟩
abbrev N_HostPattern_str : List Str := ["self"]
theorem sc_HostPattern_str : FnScope N_HostPattern_str ["self"] (defScope s_HostPattern_str) := ⟨rfl, rfl, rfl, by decide +kernel, rfl, by decide +kernel, by decide +kernel⟩
abbrev N_PathPattern_eq : List Str := ["self", "other"]
theorem sc_PathPattern_eq : FnScope N_PathPattern_eq ["self", "other"] (defScope s_PathPattern_eq) := ⟨rfl, rfl, rfl, by decide +kernel, rfl, by decide +kernel, by decide +kernel⟩
abbrev N_PathPattern_str : List Str := ["self"]
theorem sc_PathPattern_str : FnScope N_PathPattern_str ["self"] (defScope s_PathPattern_str) := ⟨rfl, rfl, rfl, by decide +kernel, rfl, by decide +kernel, by decide +kernel⟩
abbrev N_shape_of_items : List Str := ["items", "limits", "gaps", "least", "most", "most_head", "most_tail", "head", "tail", "at", "item"]
theorem sc_shape_of_items : FnScope N_shape_of_items ["items", "limits"] (defScope s_shape_of_items) := ⟨rfl, rfl, rfl, by decide +kernel, rfl, by decide +kernel, by decide +kernel⟩
abbrev N__law_of : List Str := ["_law_bag_here", "_law_some"]
theorem sc__law_of : FnScope N__law_of ["_law_bag_here", "_law_some"] (defScope s__law_of) := ⟨rfl, rfl, rfl, by decide +kernel, rfl, by decide +kernel, by decide +kernel⟩
abbrev N__law_signs : List Str := ["_law_bag_here", "_law_many", "_law_turn", "_law_left", "_law_found"]
theorem sc__law_signs : FnScope N__law_signs ["_law_bag_here", "_law_many"] (defScope s__law_signs) := ⟨rfl, rfl, rfl, by decide +kernel, rfl, by decide +kernel, by decide +kernel⟩
abbrev N_LabelPattern_init : List Str := ["self", "text", "__class__"]
theorem sc_LabelPattern_init : NdefX.NScope N_LabelPattern_init ["self", "text"] ["__class__"] (defScope s_LabelPattern_init) := NdefX.nscope_by (by decide +kernel)
abbrev N_host_shape : List Str := ["thing"]
theorem sc_host_shape : FnScope N_host_shape ["thing"] (defScope s_host_shape) := ⟨rfl, rfl, rfl, by decide +kernel, rfl, by decide +kernel, by decide +kernel⟩
abbrev N_path_shape : List Str := ["thing"]
theorem sc_path_shape : FnScope N_path_shape ["thing"] (defScope s_path_shape) := ⟨rfl, rfl, rfl, by decide +kernel, rfl, by decide +kernel, by decide +kernel⟩
abbrev N__law_glob : List Str := ["_law_bag_here", "_law_signs_here", "_law_most", "_law_way", "_law_ahead", "_law_behind", "_law_turn"]
theorem sc__law_glob : FnScope N__law_glob ["_law_bag_here", "_law_signs_here", "_law_most"] (defScope s__law_glob) := ⟨rfl, rfl, rfl, by decide +kernel, rfl, by decide +kernel, by decide +kernel⟩
abbrev N_HostPattern_init : List Str := ["self", "text", "__class__"]
theorem sc_HostPattern_init : NdefX.NScope N_HostPattern_init ["self", "text"] ["__class__"] (defScope s_HostPattern_init) := NdefX.nscope_by (by decide +kernel)
abbrev N_PathPattern_init : List Str := ["self", "text", "__class__"]
theorem sc_PathPattern_init : NdefX.NScope N_PathPattern_init ["self", "text"] ["__class__"] (defScope s_PathPattern_init) := NdefX.nscope_by (by decide +kernel)
abbrev N__law_made : List Str := ["_law_bag_here", "_law_signs_here", "_law_found", "_law_pool", "_law_text", "_law_turn"]
theorem sc__law_made : FnScope N__law_made ["_law_bag_here", "_law_signs_here"] (defScope s__law_made) := ⟨rfl, rfl, rfl, by decide +kernel, rfl, by decide +kernel, by decide +kernel⟩
abbrev N_law : List Str := ["_law_script", "_law_at", "_law_bag_here", "_law_made_here", "_law_one", "_law_mine", "_law_text", "_law_other", "_law_theirs", "_law_spelling"]
theorem sc_law : FnScope N_law ["_law_script"] (defScope s_law) := ⟨rfl, rfl, rfl, by decide +kernel, rfl, by decide +kernel, by decide +kernel⟩
structure Ad where
  a_label_shape : Addr
  f_label_shape : FuncData
  a_is_label_text : Addr
  f_is_label_text : FuncData
  a__law_bag : Addr
  f__law_bag : FuncData
  a__law_take : Addr
  f__law_take : FuncData
  a_Pattern_init : Addr
  f_Pattern_init : FuncData
  a_LabelPattern_eq : Addr
  f_LabelPattern_eq : FuncData
  a_LabelPattern_str : Addr
  f_LabelPattern_str : FuncData
  a_HostPattern_eq : Addr
  f_HostPattern_eq : FuncData
  a_HostPattern_str : Addr
  f_HostPattern_str : FuncData
  a_PathPattern_eq : Addr
  f_PathPattern_eq : FuncData
  a_PathPattern_str : Addr
  f_PathPattern_str : FuncData
  a_shape_of_items : Addr
  f_shape_of_items : FuncData
  a__law_of : Addr
  f__law_of : FuncData
  a__law_signs : Addr
  f__law_signs : FuncData
  a_LabelPattern_init : Addr
  f_LabelPattern_init : FuncData
  a_host_shape : Addr
  f_host_shape : FuncData
  a_path_shape : Addr
  f_path_shape : FuncData
  a__law_glob : Addr
  f__law_glob : FuncData
  a_HostPattern_init : Addr
  f_HostPattern_init : FuncData
  a_PathPattern_init : Addr
  f_PathPattern_init : FuncData
  a__law_made : Addr
  f__law_made : FuncData
  a_law : Addr
  f_law : FuncData
  C_HostPattern : Addr
  C_LabelPattern : Addr
  C_PathPattern : Addr
  x_BadPattern : Addr
  i_BadPattern : Addr
structure Txt (P : Program) (K : PySem.W.Frag) (mg : Str → Option Value) (A : Ad) : Prop where
  m_label_shape : mg "label_shape" = some (.ref A.a_label_shape)
  F_label_shape : Fun K "label_shape" "label_shape" s_label_shape A.a_label_shape A.f_label_shape
  b_label_shape : Binds K A.f_label_shape ["text"] []
  m_is_label_text : mg "is_label_text" = some (.ref A.a_is_label_text)
  F_is_label_text : Fun K "is_label_text" "is_label_text" s_is_label_text A.a_is_label_text A.f_is_label_text
  b_is_label_text : Binds K A.f_is_label_text ["thing"] []
  m__law_bag : mg "_law_bag" = some (.ref A.a__law_bag)
  F__law_bag : Fun K "_law_bag" "_law_bag" s__law_bag A.a__law_bag A.f__law_bag
  b__law_bag : Binds K A.f__law_bag ["_law_script", "_law_at"] []
  m__law_take : mg "_law_take" = some (.ref A.a__law_take)
  F__law_take : Fun K "_law_take" "_law_take" s__law_take A.a__law_take A.f__law_take
  b__law_take : Binds K A.f__law_take ["_law_bag_here", "_law_many"] []
  F_Pattern_init : Fun K "__init__" "Pattern.__init__" s_Pattern_init A.a_Pattern_init A.f_Pattern_init
  b_Pattern_init : Binds K A.f_Pattern_init ["self", "text", "level", "shape"] []
  F_LabelPattern_eq : Fun K "__eq__" "LabelPattern.__eq__" s_LabelPattern_eq A.a_LabelPattern_eq A.f_LabelPattern_eq
  b_LabelPattern_eq : Binds K A.f_LabelPattern_eq ["self", "other"] []
  F_LabelPattern_str : Fun K "__str__" "LabelPattern.__str__" s_LabelPattern_str A.a_LabelPattern_str A.f_LabelPattern_str
  b_LabelPattern_str : Binds K A.f_LabelPattern_str ["self"] []
  F_HostPattern_eq : Fun K "__eq__" "HostPattern.__eq__" s_HostPattern_eq A.a_HostPattern_eq A.f_HostPattern_eq
  b_HostPattern_eq : Binds K A.f_HostPattern_eq ["self", "other"] []
  F_HostPattern_str : Fun K "__str__" "HostPattern.__str__" s_HostPattern_str A.a_HostPattern_str A.f_HostPattern_str
  b_HostPattern_str : Binds K A.f_HostPattern_str ["self"] []
  F_PathPattern_eq : Fun K "__eq__" "PathPattern.__eq__" s_PathPattern_eq A.a_PathPattern_eq A.f_PathPattern_eq
  b_PathPattern_eq : Binds K A.f_PathPattern_eq ["self", "other"] []
  F_PathPattern_str : Fun K "__str__" "PathPattern.__str__" s_PathPattern_str A.a_PathPattern_str A.f_PathPattern_str
  b_PathPattern_str : Binds K A.f_PathPattern_str ["self"] []
  m_shape_of_items : mg "shape_of_items" = some (.ref A.a_shape_of_items)
  F_shape_of_items : Fun K "shape_of_items" "shape_of_items" s_shape_of_items A.a_shape_of_items A.f_shape_of_items
  b_shape_of_items : Binds K A.f_shape_of_items ["items", "limits"] []
  m__law_of : mg "_law_of" = some (.ref A.a__law_of)
  F__law_of : Fun K "_law_of" "_law_of" s__law_of A.a__law_of A.f__law_of
  b__law_of : Binds K A.f__law_of ["_law_bag_here", "_law_some"] []
  m__law_signs : mg "_law_signs" = some (.ref A.a__law_signs)
  F__law_signs : Fun K "_law_signs" "_law_signs" s__law_signs A.a__law_signs A.f__law_signs
  b__law_signs : Binds K A.f__law_signs ["_law_bag_here", "_law_many"] []
  F_LabelPattern_init : SupFun P K mg "__init__" "LabelPattern.__init__" s_LabelPattern_init A.a_LabelPattern_init A.a_Pattern_init A.C_LabelPattern A.f_LabelPattern_init
  b_LabelPattern_init : Binds K A.f_LabelPattern_init ["self", "text"] []
  m_host_shape : mg "host_shape" = some (.ref A.a_host_shape)
  F_host_shape : Fun K "host_shape" "host_shape" s_host_shape A.a_host_shape A.f_host_shape
  b_host_shape : Binds K A.f_host_shape ["thing"] []
  m_path_shape : mg "path_shape" = some (.ref A.a_path_shape)
  F_path_shape : Fun K "path_shape" "path_shape" s_path_shape A.a_path_shape A.f_path_shape
  b_path_shape : Binds K A.f_path_shape ["thing"] []
  m__law_glob : mg "_law_glob" = some (.ref A.a__law_glob)
  F__law_glob : Fun K "_law_glob" "_law_glob" s__law_glob A.a__law_glob A.f__law_glob
  b__law_glob : Binds K A.f__law_glob ["_law_bag_here", "_law_signs_here", "_law_most"] []
  F_HostPattern_init : SupFun P K mg "__init__" "HostPattern.__init__" s_HostPattern_init A.a_HostPattern_init A.a_Pattern_init A.C_HostPattern A.f_HostPattern_init
  b_HostPattern_init : Binds K A.f_HostPattern_init ["self", "text"] []
  F_PathPattern_init : SupFun P K mg "__init__" "PathPattern.__init__" s_PathPattern_init A.a_PathPattern_init A.a_Pattern_init A.C_PathPattern A.f_PathPattern_init
  b_PathPattern_init : Binds K A.f_PathPattern_init ["self", "text"] []
  m__law_made : mg "_law_made" = some (.ref A.a__law_made)
  F__law_made : Fun K "_law_made" "_law_made" s__law_made A.a__law_made A.f__law_made
  b__law_made : Binds K A.f__law_made ["_law_bag_here", "_law_signs_here"] []
  m_law : mg "law" = some (.ref A.a_law)
  F_law : Fun K "law" "law" s_law A.a_law A.f_law
  b_law : Binds K A.f_law ["_law_script"] []
  C_HostPattern : ClsN K mg "HostPattern" A.C_HostPattern
  na_HostPattern : ∀ f ∈ (["text", "level", "head", "tail", "gap"] : List Str), NoAttr K A.C_HostPattern f
  M_HostPattern : Mk K A.C_HostPattern A.a_HostPattern_init
  C_LabelPattern : ClsN K mg "LabelPattern" A.C_LabelPattern
  na_LabelPattern : ∀ f ∈ (["text", "level", "head", "tail", "gap"] : List Str), NoAttr K A.C_LabelPattern f
  M_LabelPattern : Mk K A.C_LabelPattern A.a_LabelPattern_init
  C_PathPattern : ClsN K mg "PathPattern" A.C_PathPattern
  na_PathPattern : ∀ f ∈ (["text", "level", "head", "tail", "gap"] : List Str), NoAttr K A.C_PathPattern f
  M_PathPattern : Mk K A.C_PathPattern A.a_PathPattern_init
  eq_HostPattern : PySem.W.findIn K (.ref A.C_HostPattern) "__eq__" = some (some (.ref A.a_HostPattern_eq)) ∧ PySem.W.isFn K (.ref A.a_HostPattern_eq) = true ∧ (∀ T ∈ baseTys, PySem.W.notFirst K A.C_HostPattern (.type T) = true) ∧ (∀ c' ∈ (["LabelPattern", "HostPattern", "PathPattern"] : List Str), ∀ C', mg c' = some (.ref C') → PySem.W.notFirst K A.C_HostPattern (.ref C') = true) ∧ PySem.W.findIn K (.ref A.C_HostPattern) "__ne__" = some (some (.builtin "object.__ne__"))
  eq_LabelPattern : PySem.W.findIn K (.ref A.C_LabelPattern) "__eq__" = some (some (.ref A.a_LabelPattern_eq)) ∧ PySem.W.isFn K (.ref A.a_LabelPattern_eq) = true ∧ (∀ T ∈ baseTys, PySem.W.notFirst K A.C_LabelPattern (.type T) = true) ∧ (∀ c' ∈ (["LabelPattern", "HostPattern", "PathPattern"] : List Str), ∀ C', mg c' = some (.ref C') → PySem.W.notFirst K A.C_LabelPattern (.ref C') = true) ∧ PySem.W.findIn K (.ref A.C_LabelPattern) "__ne__" = some (some (.builtin "object.__ne__"))
  eq_PathPattern : PySem.W.findIn K (.ref A.C_PathPattern) "__eq__" = some (some (.ref A.a_PathPattern_eq)) ∧ PySem.W.isFn K (.ref A.a_PathPattern_eq) = true ∧ (∀ T ∈ baseTys, PySem.W.notFirst K A.C_PathPattern (.type T) = true) ∧ (∀ c' ∈ (["LabelPattern", "HostPattern", "PathPattern"] : List Str), ∀ C', mg c' = some (.ref C') → PySem.W.notFirst K A.C_PathPattern (.ref C') = true) ∧ PySem.W.findIn K (.ref A.C_PathPattern) "__ne__" = some (some (.builtin "object.__ne__"))
  er_HostPattern : PySem.W.subIn K (.ref A.C_HostPattern) (.type "NoneType") = some false ∧ PySem.W.subIn K (.ref A.C_HostPattern) (.type "bool") = some false ∧ PySem.W.subIn K (.ref A.C_HostPattern) (.type "int") = some false
  er_LabelPattern : PySem.W.subIn K (.ref A.C_LabelPattern) (.type "NoneType") = some false ∧ PySem.W.subIn K (.ref A.C_LabelPattern) (.type "bool") = some false ∧ PySem.W.subIn K (.ref A.C_LabelPattern) (.type "int") = some false
  er_PathPattern : PySem.W.subIn K (.ref A.C_PathPattern) (.type "NoneType") = some false ∧ PySem.W.subIn K (.ref A.C_PathPattern) (.type "bool") = some false ∧ PySem.W.subIn K (.ref A.C_PathPattern) (.type "int") = some false
  is_HostPattern : IsT K mg (.ref A.C_HostPattern) [("LabelPattern", false), ("HostPattern", true), ("PathPattern", false)] noneOfB
  is_LabelPattern : IsT K mg (.ref A.C_LabelPattern) [("LabelPattern", true), ("HostPattern", false), ("PathPattern", false)] noneOfB
  is_PathPattern : IsT K mg (.ref A.C_PathPattern) [("LabelPattern", false), ("HostPattern", false), ("PathPattern", true)] noneOfB
  du_HostPattern : PySem.W.findIn K (.ref A.C_HostPattern) "__str__" = some (some (.ref A.a_HostPattern_str)) ∧ PySem.W.isFn K (.ref A.a_HostPattern_str) = true
  du_LabelPattern : PySem.W.findIn K (.ref A.C_LabelPattern) "__str__" = some (some (.ref A.a_LabelPattern_str)) ∧ PySem.W.isFn K (.ref A.a_LabelPattern_str) = true
  du_PathPattern : PySem.W.findIn K (.ref A.C_PathPattern) "__str__" = some (some (.ref A.a_PathPattern_str)) ∧ PySem.W.isFn K (.ref A.a_PathPattern_str) = true
  x_BadPattern : PySem.OwnX.OwnTxt K mg "BadPattern" "pattern" "BadPattern.__init__" A.x_BadPattern A.i_BadPattern
  z_abs : mg "abs" = none
  z_enumerate : mg "enumerate" = none
  z_int : mg "int" = none
  z_isinstance : mg "isinstance" = none
  z_len : mg "len" = none
  z_list : mg "list" = none
  z_max : mg "max" = none
  z_min : mg "min" = none
  z_range : mg "range" = none
  z_repr : mg "repr" = none
  z_str : mg "str" = none
  z_tuple : mg "tuple" = none
  c_CHARACTERS : GlobIs K mg "CHARACTERS" c_CHARACTERS
  c_GAP : GlobIs K mg "GAP" c_GAP
  c_HOST : GlobIs K mg "HOST" c_HOST
  c_HOST_LIMITS : GlobIs K mg "HOST_LIMITS" c_HOST_LIMITS
  c_LABEL : GlobIs K mg "LABEL" c_LABEL
  c_LONGEST_TEXT : GlobIs K mg "LONGEST_TEXT" c_LONGEST_TEXT
  c_PATH : GlobIs K mg "PATH" c_PATH
  c_PATH_LIMITS : GlobIs K mg "PATH_LIMITS" c_PATH_LIMITS
section
variable {P : Program} {w : World} {K : PySem.W.Frag} {mg : Str → Option Value} {base : Heap} {A : Ad}
theorem fo_text (T : Txt P K mg A) : FldOk K mg "text" ["LabelPattern", "HostPattern", "PathPattern"] := fun c hc => by
  simp only [List.mem_cons, List.not_mem_nil, or_false] at hc
  rcases hc with rfl | rfl | rfl
  · exact ⟨_, T.C_LabelPattern.mg, T.C_LabelPattern.cl, T.na_LabelPattern _ (by decide +kernel)⟩
  · exact ⟨_, T.C_HostPattern.mg, T.C_HostPattern.cl, T.na_HostPattern _ (by decide +kernel)⟩
  · exact ⟨_, T.C_PathPattern.mg, T.C_PathPattern.cl, T.na_PathPattern _ (by decide +kernel)⟩
theorem g_label_shape (T : Txt P K mg A) : FnG P w K mg base 1 A.a_label_shape A.f_label_shape ["text"] (spR K mg false 1 m_label_shape_c600) := by
  refine fnR (nr := false) (k := 0) T.F_label_shape sc_label_shape rfl (by decide) (fun cdv Ar outer s H Hf E ds C hl => ?_)
  match ds, hl with
  | [a0], _ => exact ⟨b_label_shape_c600 a0, (dss_unp (pgd_tup3 C 1 2 3) (de_part (de_var 0) (de_str [42])) fun c2 => (pss_k (k_label_shape_c600_0.eq_1 _) (dss_ret (de_tup (da_cons (de_callTy (oc_tupleX C.calm) (by rfl) T.z_tuple rfl (da_cons (de_var 1) da_nil)) (da_cons (de_callTy (oc_tupleX C.calm) (by rfl) T.z_tuple rfl (da_cons (de_var 3) da_nil)) (da_cons (de_cmp (od_eq C.rm.units) (de_var 2) (de_str [42]) (by rfl)) da_nil))))))), rfl⟩
theorem g_is_label_text (T : Txt P K mg A) : FnG P w K mg base 1 A.a_is_label_text A.f_is_label_text ["thing"] (spR K mg false 1 m_is_label_text_206f) := by
  refine fnR (nr := false) (k := 0) T.F_is_label_text sc_is_label_text rfl (by decide) (fun cdv Ar outer s H Hf E ds C hl => ?_)
  match ds, hl with
  | [a0], _ => exact ⟨b_is_label_text_206f a0, (dss_if (exA := fun (q11 : Unit) => [.im a0, .un]) (dw_or (dt_not (dt_tru (de_isi "str" (de_var 0) (by rfl) T.z_isinstance (by rfl) T.z_str rfl))) (dw_or (dt_not (dt_chain (od_le C.rm.units) (od_le C.rm.units) de_int (de_callB oc_len (by rfl) T.z_len rfl (da_cons (de_var 0) da_nil)) (de_globI (by rfl) T.c_LONGEST_TEXT))) (dw_or1 (dt_cmp (od_gt C.rm.units) (de_count (de_var 0) (de_str [42])) de_int (by rfl))))).pt (dss_ret de_bl) (dss_nil (a := ()) (And.intro (Or.inl rfl) (And.intro (Or.inr rfl) (trivial)))) fun q11 => (dss_ret (de_not (de_frz (df_lc [("sign", 1)] C (di_any (de_var 0)) (blkOk_by (N := N_is_label_text) (sc := defScope s_is_label_text) (by decide +kernel)) (fun s H A cl fp => (pgd_name (C.blk _ _ _ _ _) 1)) (fun s H A cl fp C14 c15 => (pts_test (dw_and (dt_cmp (od_ne C14.rm.units) (de_var 1) (de_str [42]) (by rfl)) (dw_and1 (dt_cmp (od_notIn (hu65 C14.rm)) (de_var 1) (de_globI (by rfl) T.c_CHARACTERS) (by rfl)))).pt)) (fun s H A cl fp C14 c15 => (de_var 1)) (by decide)))))), rfl⟩
theorem g__law_bag (T : Txt P K mg A) : FnG P w K mg base 1 A.a__law_bag A.f__law_bag ["_law_script", "_law_at"] (spR K mg true 2 m__law_bag_fbbe) := by
  refine fnR (nr := true) (k := 0) T.F__law_bag sc__law_bag rfl (by decide) (fun cdv Ar outer s H Hf E ds C hl => ?_)
  match ds, hl with
  | [a0, a1], _ => exact ⟨b__law_bag_fbbe a0 a1, (dss_asg C 2 (de_ifExp (dt_cmp (od_lt C.rm.units) (de_var 1) (de_callB oc_len (by rfl) T.z_len rfl (da_cons (de_var 0) da_nil)) (by rfl)) (de_callB oc_abs (by rfl) T.z_abs rfl (da_cons (de_ix (de_var 0) (de_var 1)) da_nil)) de_int) fun v1 => (dss_asg C 3 (de_op od_add de_int (de_op od_mul de_int (de_var 1))) fun v12 => (dss_for (exl := fun (q25 : D) => [.im a0, .im a1, .im v1, .im q25, .un, .un]) v12 C (di_enumL (by rfl) T.z_enumerate (da_cons (de_sl (de_var 0) do_none (do_some de_int)) da_nil)) (pgd_tup2 C 4 5) (And.intro (Or.inl rfl) (And.intro (Or.inl rfl) (And.intro (Or.inl rfl) (And.intro (Or.inl rfl) (And.intro (Or.inr rfl) (And.intro (Or.inr rfl) (trivial))))))) (fun q25 c26 => (dss_asg C 3 (de_op od_mod (de_callTy oc_int (by rfl) T.z_int rfl (da_cons (de_op od_add (de_op od_add (de_op od_mul (de_var 3) de_int) (de_op od_mod (de_callTy oc_int (by rfl) T.z_int rfl (da_cons (de_var 5) da_nil)) de_int)) (de_op od_mul de_int (de_var 4))) da_nil)) de_int) fun v27 => (dss_nil (a := v27) (And.intro (Or.inl rfl) (And.intro (Or.inl rfl) (And.intro (Or.inl rfl) (And.intro (Or.inl rfl) (And.intro (Or.inr rfl) (And.intro (Or.inr rfl) (trivial)))))))))) fun q46 => (dss_retF (df_list (da_cons (de_ifExp (dt_cmp (od_ge C.rm.units) (de_var 2) (de_op od_powC de_int de_int) (by rfl)) (de_var 2) de_int) (da_cons (de_var 3) da_nil))))))), rfl⟩
theorem g__law_take (T : Txt P K mg A) : FnG P w K mg base 1 A.a__law_take A.f__law_take ["_law_bag_here", "_law_many"] (spM K mg false (1 + 1) m__law_take_6859) := by
  refine fnM (nr := false) (k := 0) T.F__law_take sc__law_take rfl (by decide) (fun cdv Ar outer s H Hf bag E ds C hl => ?_)
  match ds, hl with
  | [a1], _ => exact ⟨b__law_take_6859 a1, (dss_if (exA := fun (q3 : Unit) => [.bg, .im a1, .un]) (dt_cmp (od_gt C.rm.units) (de_bagX 0) de_int (by rfl)) (dss_asg C 2 (de_op od_mod (de_callTy oc_int (by rfl) T.z_int rfl (da_cons (de_bagX 0) da_nil)) (de_var 1)) fun v4 => (dss_bagSetX 0 (de_op od_fdiv (de_bagX 0) (de_var 1)) (dss_ret (de_var 2)))) (dss_nil (a := ()) (And.intro (Or.inl rfl) (And.intro (Or.inl rfl) (And.intro (Or.inr rfl) (trivial))))) fun q3 => (dss_bagSetY 0 (de_op od_mod (de_callTy oc_int (by rfl) T.z_int rfl (da_cons (de_op od_add (de_op od_mul (de_bagY 0) de_int) de_int) da_nil)) de_int) (dss_ret (de_op od_mod (de_op od_fdiv (de_op od_mod (de_callTy oc_int (by rfl) T.z_int rfl (da_cons (de_op od_mul (de_op od_fdiv (de_bagY 0) de_int) de_int) da_nil)) de_int) de_int) (de_var 1))))), rfl⟩
theorem g_Pattern_init (T : Txt P K mg A) : FnG P w K mg base 1 A.a_Pattern_init A.f_Pattern_init ["self", "text", "level", "shape"] (spI K mg ["text", "level", "head", "tail", "gap"] (fun l => l = 3 + 1) m_Pattern_init_4a0d) := by
  refine fnI (k := 0) (n := 3) T.F_Pattern_init sc_Pattern_init rfl (by decide) (fun cdv Ar outer s H Hf E o ds C hl => ?_)
  match ds, hl with
  | [a1, a2, a3], _ => exact ⟨b_Pattern_init_4a0d a1 a2 a3, (dss_if (exA := fun (q3 : Unit) => [.ob [] [], .im a1, .im a2, .im a3]) (dt_cmp od_is (de_var 3) de_non (by rfl)) (dss_raise C T.x_BadPattern (de_var 1)) (dss_nil (a := ()) (And.intro (Or.inl rfl) (And.intro (Or.inl rfl) (And.intro (Or.inl rfl) (And.intro (Or.inl rfl) (trivial)))))) fun q3 => (dss_fld (ns := []) (ds := []) (f := "text") 0 (de_var 1) (fun v5 => (dss_fld (ns := ["text"]) (ds := [v5]) (f := "level") 0 (de_var 2) (fun v6 => (dss_unpF (self := "self") (ns := ["text", "level"]) (es0 := [v5, v6]) C 0 3 [.fl "head", .fl "tail", .fl "gap"] (.fl (.fl (.fl .nil (hm := (by decide +kernel : ("gap" : Str) ∈ (["text", "level", "head", "tail", "gap"] : List Str)))) (hm := (by decide +kernel : ("tail" : Str) ∈ (["text", "level", "head", "tail", "gap"] : List Str)))) (hm := (by decide +kernel : ("head" : Str) ∈ (["text", "level", "head", "tail", "gap"] : List Str)))) (de_var 3) (fun c8 => (dss_nil (a := [v5, v6, (c8.getD 0 .non), (c8.getD 1 .non), (c8.getD 2 .non)]) (And.intro (Or.inl rfl) (And.intro (Or.inr rfl) (And.intro (Or.inr rfl) (And.intro (Or.inr rfl) (trivial))))))))) (hm := (by decide +kernel : ("level" : Str) ∈ (["text", "level", "head", "tail", "gap"] : List Str))))) (hm := (by decide +kernel : ("text" : Str) ∈ (["text", "level", "head", "tail", "gap"] : List Str))))), rfl⟩
theorem g_LabelPattern_eq (T : Txt P K mg A) : FnG P w K mg base 1 A.a_LabelPattern_eq A.f_LabelPattern_eq ["self", "other"] (spR K mg false 2 m_LabelPattern_eq_9777) := by
  refine fnR (nr := false) (k := 0) T.F_LabelPattern_eq sc_LabelPattern_eq rfl (by decide) (fun cdv Ar outer s H Hf E ds C hl => ?_)
  match ds, hl with
  | [a0, a1], _ => exact ⟨b_LabelPattern_eq_9777 a0 a1, (pss_k (k_LabelPattern_eq_9777_0.eq_1 _ _) (dss_ret (de_and (de_isT (.own _) T.is_LabelPattern (de_var 1) (pe_own T.C_LabelPattern.mg) (by rfl) T.z_isinstance) (de_one (de_cmp (od_eq C.rm.units) (de_fld ["LabelPattern", "HostPattern", "PathPattern"] (de_var 0) (fo_text T)) (de_fld ["LabelPattern", "HostPattern", "PathPattern"] (de_var 1) (fo_text T)) (by rfl)))))), rfl⟩
theorem g_LabelPattern_str (T : Txt P K mg A) : FnG P w K mg base 1 A.a_LabelPattern_str A.f_LabelPattern_str ["self"] (spR K mg false 1 m_LabelPattern_str_43dc) := by
  refine fnR (nr := false) (k := 0) T.F_LabelPattern_str sc_LabelPattern_str rfl (by decide) (fun cdv Ar outer s H Hf E ds C hl => ?_)
  match ds, hl with
  | [a0], _ => exact ⟨b_LabelPattern_str_43dc a0, (dss_ret (de_callTy oc_str (by rfl) T.z_str rfl (da_cons (de_fld ["LabelPattern", "HostPattern", "PathPattern"] (de_var 0) (fo_text T)) da_nil))), rfl⟩
theorem g_HostPattern_eq (T : Txt P K mg A) : FnG P w K mg base 1 A.a_HostPattern_eq A.f_HostPattern_eq ["self", "other"] (spR K mg false 2 m_HostPattern_eq_524e) := by
  refine fnR (nr := false) (k := 0) T.F_HostPattern_eq sc_HostPattern_eq rfl (by decide) (fun cdv Ar outer s H Hf E ds C hl => ?_)
  match ds, hl with
  | [a0, a1], _ => exact ⟨b_HostPattern_eq_524e a0 a1, (pss_k (k_HostPattern_eq_524e_0.eq_1 _ _) (dss_ret (de_and (de_isT (.own _) T.is_HostPattern (de_var 1) (pe_own T.C_HostPattern.mg) (by rfl) T.z_isinstance) (de_one (de_cmp (od_eq C.rm.units) (de_fld ["LabelPattern", "HostPattern", "PathPattern"] (de_var 0) (fo_text T)) (de_fld ["LabelPattern", "HostPattern", "PathPattern"] (de_var 1) (fo_text T)) (by rfl)))))), rfl⟩
theorem g_HostPattern_str (T : Txt P K mg A) : FnG P w K mg base 1 A.a_HostPattern_str A.f_HostPattern_str ["self"] (spR K mg false 1 m_HostPattern_str_6eb8) := by
  refine fnR (nr := false) (k := 0) T.F_HostPattern_str sc_HostPattern_str rfl (by decide) (fun cdv Ar outer s H Hf E ds C hl => ?_)
  match ds, hl with
  | [a0], _ => exact ⟨b_HostPattern_str_6eb8 a0, (dss_ret (de_callTy oc_str (by rfl) T.z_str rfl (da_cons (de_fld ["LabelPattern", "HostPattern", "PathPattern"] (de_var 0) (fo_text T)) da_nil))), rfl⟩
theorem g_PathPattern_eq (T : Txt P K mg A) : FnG P w K mg base 1 A.a_PathPattern_eq A.f_PathPattern_eq ["self", "other"] (spR K mg false 2 m_PathPattern_eq_55e4) := by
  refine fnR (nr := false) (k := 0) T.F_PathPattern_eq sc_PathPattern_eq rfl (by decide) (fun cdv Ar outer s H Hf E ds C hl => ?_)
  match ds, hl with
  | [a0, a1], _ => exact ⟨b_PathPattern_eq_55e4 a0 a1, (pss_k (k_PathPattern_eq_55e4_0.eq_1 _ _) (dss_ret (de_and (de_isT (.own _) T.is_PathPattern (de_var 1) (pe_own T.C_PathPattern.mg) (by rfl) T.z_isinstance) (de_one (de_cmp (od_eq C.rm.units) (de_fld ["LabelPattern", "HostPattern", "PathPattern"] (de_var 0) (fo_text T)) (de_fld ["LabelPattern", "HostPattern", "PathPattern"] (de_var 1) (fo_text T)) (by rfl)))))), rfl⟩
theorem eq_all (T : Txt P K mg A) : ∀ q ∈ ([("LabelPattern", m_LabelPattern_eq_9777), ("HostPattern", m_HostPattern_eq_524e), ("PathPattern", m_PathPattern_eq_55e4)] : List (Str × (List D → R D))), EqC P w K mg base 1 (([("LabelPattern", m_LabelPattern_eq_9777), ("HostPattern", m_HostPattern_eq_524e), ("PathPattern", m_PathPattern_eq_55e4)] : List (Str × (List D → R D))).map Prod.fst) q.1 q.2 := fun q hq => by
  simp only [List.mem_cons, List.not_mem_nil, or_false] at hq
  rcases hq with rfl | rfl | rfl
  · exact ⟨_, _, T.C_LabelPattern, T.eq_LabelPattern.1, T.eq_LabelPattern.2.1, ((g_LabelPattern_eq T).pos T.b_LabelPattern_eq).mono (by decide), T.eq_LabelPattern.2.2.1, T.eq_LabelPattern.2.2.2.1, T.eq_LabelPattern.2.2.2.2⟩
  · exact ⟨_, _, T.C_HostPattern, T.eq_HostPattern.1, T.eq_HostPattern.2.1, ((g_HostPattern_eq T).pos T.b_HostPattern_eq).mono (by decide), T.eq_HostPattern.2.2.1, T.eq_HostPattern.2.2.2.1, T.eq_HostPattern.2.2.2.2⟩
  · exact ⟨_, _, T.C_PathPattern, T.eq_PathPattern.1, T.eq_PathPattern.2.1, ((g_PathPattern_eq T).pos T.b_PathPattern_eq).mono (by decide), T.eq_PathPattern.2.2.1, T.eq_PathPattern.2.2.2.1, T.eq_PathPattern.2.2.2.2⟩
theorem rf_all (T : Txt P K mg A) : ∀ q ∈ ([("LabelPattern", m_LabelPattern_eq_9777), ("HostPattern", m_HostPattern_eq_524e), ("PathPattern", m_PathPattern_eq_55e4)] : List (Str × (List D → R D))), EqC P w K mg base 1 (([("LabelPattern", m_LabelPattern_eq_9777), ("HostPattern", m_HostPattern_eq_524e), ("PathPattern", m_PathPattern_eq_55e4)] : List (Str × (List D → R D))).map Prod.fst) q.1 q.2 ∧ EqRf K mg q.1 := fun q hq => ⟨eq_all T q hq, by
  simp only [List.mem_cons, List.not_mem_nil, or_false] at hq
  rcases hq with rfl | rfl | rfl
  · exact er_rf T.C_LabelPattern T.er_LabelPattern
  · exact er_rf T.C_HostPattern T.er_HostPattern
  · exact er_rf T.C_PathPattern T.er_PathPattern⟩
theorem g_PathPattern_str (T : Txt P K mg A) : FnG P w K mg base 1 A.a_PathPattern_str A.f_PathPattern_str ["self"] (spR K mg false 1 m_PathPattern_str_7f49) := by
  refine fnR (nr := false) (k := 0) T.F_PathPattern_str sc_PathPattern_str rfl (by decide) (fun cdv Ar outer s H Hf E ds C hl => ?_)
  match ds, hl with
  | [a0], _ => exact ⟨b_PathPattern_str_7f49 a0, (dss_ret (de_callTy oc_str (by rfl) T.z_str rfl (da_cons (de_fld ["LabelPattern", "HostPattern", "PathPattern"] (de_var 0) (fo_text T)) da_nil))), rfl⟩
theorem du_str (T : Txt P K mg A) : ∀ q ∈ ([("LabelPattern", m_LabelPattern_str_43dc), ("HostPattern", m_HostPattern_str_6eb8), ("PathPattern", m_PathPattern_str_7f49)] : List (Str × (List D → R D))), DunC P w K mg base 1 1 "__str__" q.1 q.2 := fun q hq => by
  simp only [List.mem_cons, List.not_mem_nil, or_false] at hq
  rcases hq with rfl | rfl | rfl
  · exact ⟨_, _, T.C_LabelPattern, T.du_LabelPattern.1, T.du_LabelPattern.2, ((g_LabelPattern_str T).pos T.b_LabelPattern_str).mono (by decide)⟩
  · exact ⟨_, _, T.C_HostPattern, T.du_HostPattern.1, T.du_HostPattern.2, ((g_HostPattern_str T).pos T.b_HostPattern_str).mono (by decide)⟩
  · exact ⟨_, _, T.C_PathPattern, T.du_PathPattern.1, T.du_PathPattern.2, ((g_PathPattern_str T).pos T.b_PathPattern_str).mono (by decide)⟩
theorem g_shape_of_items (T : Txt P K mg A) : FnG P w K mg base 2 A.a_shape_of_items A.f_shape_of_items ["items", "limits"] (spR K mg false 2 m_shape_of_items_2081) := by
  refine fnR (nr := false) (k := 1) T.F_shape_of_items sc_shape_of_items rfl (by decide) (fun cdv Ar outer s H Hf E ds C hl => ?_)
  match ds, hl with
  | [a0, a1], _ => exact ⟨b_shape_of_items_2081 a0 a1, (dss_unp (pgd_tupN C 4 (.cons 3 (.cons 4 (.cons 5 (.cons 6 .nil))))) (de_var 1) fun c2 => (dss_setF (ps_setLcF (st := fun G d => ((G.set 9 (.im d.1)).set 10 (.im d.2))) (g := gTup K 2 (gCons (gName 9) (gCons (gName 10) gNil))) (is := [9, 10]) [("at", 9), ("item", 10)] C 2 (di_enumL (by rfl) T.z_enumerate (da_cons (de_var 0) da_nil)) (blkOk_by (N := N_shape_of_items) (sc := defScope s_shape_of_items) (by decide +kernel)) (fun s H A cl fp => (pgd_tup2 (C.blk _ _ _ _ _) 9 10)) (fun s H A cl fp C7 c8 => (pts_test (dt_cmp (od_eq C7.rm.units) (de_var 10) (de_globI (by rfl) T.c_GAP) (by rfl)))) (fun s H A cl fp C7 c8 => (de_var 9)) (by decide)) fun v3 => (dss_if (exA := fun (q28 : Unit) => [.im a0, .im a1, .im v3, .im (c2.getD 0 .non), .im (c2.getD 1 .non), .im (c2.getD 2 .non), .im (c2.getD 3 .non), .un, .un, .un, .un]) (dw_or (dt_cmp (od_gt C.rm.units) (de_callB oc_len (by rfl) T.z_len rfl (da_cons (de_var 2) da_nil)) de_int (by rfl)) (dw_or1 (dt_tru (de_frz (df_lc [("item", 10)] C (di_any (de_var 0)) (blkOk_by (N := N_shape_of_items) (sc := defScope s_shape_of_items) (by decide +kernel)) (fun s H A cl fp => (pgd_name (C.blk _ _ _ _ _) 10)) (fun s H A cl fp C18 c19 => (pts_test (dw_and (dt_cmp (od_ne C18.rm.units) (de_var 10) (de_globI (by rfl) T.c_GAP) (by rfl)) (dw_and1 (dt_not (dt_tru (de_fn C18 (g_is_label_text T) T.m_is_label_text T.F_is_label_text.kp T.b_is_label_text (da_cons (de_var 10) da_nil) n_is_label_text_206f))))).pt)) (fun s H A cl fp C18 c19 => (de_var 10)) (by decide)))))).pt (dss_ret de_non) (dss_nil (a := ()) (And.intro (Or.inl rfl) (And.intro (Or.inl rfl) (And.intro (Or.inl rfl) (And.intro (Or.inl rfl) (And.intro (Or.inl rfl) (And.intro (Or.inl rfl) (And.intro (Or.inl rfl) (And.intro (Or.inr rfl) (And.intro (Or.inr rfl) (And.intro (Or.inr rfl) (And.intro (Or.inr rfl) (trivial))))))))))))) fun q28 => (dss_if (exA := fun (q31 : Unit) => [.im a0, .im a1, .im v3, .im (c2.getD 0 .non), .im (c2.getD 1 .non), .im (c2.getD 2 .non), .im (c2.getD 3 .non), .un, .un, .un, .un]) (dt_not (dt_tru (de_var 2))) (dss_ret (de_ifExp (dt_chain (od_le C.rm.units) (od_le C.rm.units) (de_var 3) (de_callB oc_len (by rfl) T.z_len rfl (da_cons (de_var 0) da_nil)) (de_var 4)) (de_tup (da_cons (de_callTy oc_tuple (by rfl) T.z_tuple rfl (da_cons (de_var 0) da_nil)) (da_cons (de_tup da_nil) (da_cons de_bl da_nil)))) de_non)) (dss_nil (a := ()) (And.intro (Or.inl rfl) (And.intro (Or.inl rfl) (And.intro (Or.inl rfl) (And.intro (Or.inl rfl) (And.intro (Or.inl rfl) (And.intro (Or.inl rfl) (And.intro (Or.inl rfl) (And.intro (Or.inr rfl) (And.intro (Or.inr rfl) (And.intro (Or.inr rfl) (And.intro (Or.inr rfl) (trivial))))))))))))) fun q31 => (dss_parEE C 7 8 (de_callTy oc_tuple (by rfl) T.z_tuple rfl (da_cons (de_sl (de_var 0) do_none (do_some (de_ix (de_var 2) de_int))) da_nil)) (de_callTy oc_tuple (by rfl) T.z_tuple rfl (da_cons (de_sl (de_var 0) (do_some (de_op od_add (de_ix (de_var 2) de_int) de_int)) do_none) da_nil)) fun v50 v51 => (dss_ret (de_ifExp (dw_and (dt_cmp (od_le C.rm.units) (de_callB oc_len (by rfl) T.z_len rfl (da_cons (de_var 7) da_nil)) (de_var 5) (by rfl)) (dw_and1 (dt_cmp (od_le C.rm.units) (de_callB oc_len (by rfl) T.z_len rfl (da_cons (de_var 8) da_nil)) (de_var 6) (by rfl)))).pt (de_tup (da_cons (de_var 7) (da_cons (de_var 8) (da_cons de_bl da_nil)))) de_non))))))), rfl⟩
theorem g__law_of (T : Txt P K mg A) : FnG P w K mg base 2 A.a__law_of A.f__law_of ["_law_bag_here", "_law_some"] (spM K mg false (1 + 1) m__law_of_bf28) := by
  refine fnM (nr := false) (k := 1) T.F__law_of sc__law_of rfl (by decide) (fun cdv Ar outer s H Hf bag E ds C hl => ?_)
  match ds, hl with
  | [a1], _ => exact ⟨b__law_of_bf28 a1, (dss_ret (de_ix (de_var 1) (de_fnM C 0 (g__law_take T) T.m__law_take T.F__law_take.kp T.b__law_take (da_cons (de_callB oc_len (by rfl) T.z_len rfl (da_cons (de_var 1) da_nil)) da_nil) n__law_take_6859))), rfl⟩
theorem g__law_signs (T : Txt P K mg A) : FnG P w K mg base 2 A.a__law_signs A.f__law_signs ["_law_bag_here", "_law_many"] (spM K mg false (1 + 1) m__law_signs_3c02) := by
  refine fnM (nr := false) (k := 1) T.F__law_signs sc__law_signs rfl (by decide) (fun cdv Ar outer s H Hf bag E ds C hl => ?_)
  match ds, hl with
  | [a1], _ => exact ⟨b__law_signs_3c02 a1, (dss_parFF C 3 4 (df_callTy (oc_list C.calm) (by rfl) T.z_list rfl (da_cons (de_str [48, 49, 50, 51, 52, 53, 54, 55, 56, 57, 97, 98, 99, 100, 101, 102, 103, 104, 105, 106, 107, 108, 109, 110, 111, 112, 113, 114, 115, 116, 117, 118, 119, 120, 121, 122]) da_nil)) (df_list da_nil) fun v1 v2 => (dss_for (exl := fun (q11 : List D × List D) => [.bg, .im a1, .un, .ow q11.1, .ow q11.2]) (v1, v2) C (di_range1 (by rfl) T.z_range (da_cons (de_var 1) da_nil)) (pgd_name C 2) (And.intro (Or.inl rfl) (And.intro (Or.inl rfl) (And.intro (Or.inr rfl) (And.intro (Or.inl rfl) (And.intro (Or.inl rfl) (trivial)))))) (fun q11 c12 => (dss_appendP 3 4 (by decide) (dp_pop 3 (de_fnM C 0 (g__law_take T) T.m__law_take T.F__law_take.kp T.b__law_take (da_cons (de_thaw 3 (de_callB oc_len (by rfl) T.z_len rfl (da_cons (de_var 3) da_nil))) da_nil) n__law_take_6859)) fun r23 v14 => (dss_nil (a := (r23.2, v14)) (And.intro (Or.inl rfl) (And.intro (Or.inl rfl) (And.intro (Or.inr rfl) (And.intro (Or.inl rfl) (And.intro (Or.inl rfl) (trivial))))))))) fun q24 => (dss_frz 4 rfl (dss_ret (de_var 4))))), rfl⟩
theorem g_LabelPattern_init (T : Txt P K mg A) : FnG P w K mg base 2 A.a_LabelPattern_init A.f_LabelPattern_init ["self", "text"] (spIS K mg A.C_LabelPattern ["text", "level", "head", "tail", "gap"] (fun l => l = 1 + 1) m_LabelPattern_init_02ae) := by
  refine fnSup (k := 1) (j := 1) (n := 1) T.F_LabelPattern_init sc_LabelPattern_init rfl rfl rfl rfl rfl (by rfl) (by rfl) (by rfl) ((g_Pattern_init T).pos T.b_Pattern_init) (by decide) (fun ds h => congrArg (· + 1) (n_Pattern_init_4a0d ds h)) (fun F Ar outer s H Hf E o ds hs hq C hl => ?_)
  obtain ⟨xF, qF, aF, bF, sF, cF, dF⟩ := F
  dsimp only at hs hq
  subst hs hq
  match ds, hl with
  | [a1], _ => exact ⟨(do let x12 ← (pure a1); let r13 ← (do let x10 ← (pure c_LABEL); let r11 ← (do let x8 ← (iteM (do let x4 ← (do let r3 ← (do let x1 ← (pure a1); let r2 ← pure []; pure (x1 :: r2)); Mo.lift (m_is_label_text_206f r3)); DL.ask (truD x4)) (do let r7 ← (do let x5 ← (pure a1); let r6 ← pure []; pure (x5 :: r6)); Mo.lift (m_label_shape_c600 r7)) (pure .non)); let r9 ← pure []; pure (x8 :: r9)); pure (x10 :: r11)); pure (x12 :: r13)), (da_cons (de_var 1) (da_cons (de_globI (by rfl) T.c_LABEL) (da_cons (de_ifExp (dt_tru (de_fn C (g_is_label_text T) T.m_is_label_text T.F_is_label_text.kp T.b_is_label_text (da_cons (de_var 1) da_nil) n_is_label_text_206f)) (de_fn C (g_label_shape T) T.m_label_shape T.F_label_shape.kp T.b_label_shape (da_cons (de_var 1) da_nil) n_label_shape_c600) de_non) da_nil))), rfl⟩
theorem g_host_shape (T : Txt P K mg A) : FnG P w K mg base 3 A.a_host_shape A.f_host_shape ["thing"] (spR K mg false 1 m_host_shape_b82b) := by
  refine fnR (nr := false) (k := 2) T.F_host_shape sc_host_shape rfl (by decide) (fun cdv Ar outer s H Hf E ds C hl => ?_)
  match ds, hl with
  | [a0], _ => exact ⟨b_host_shape_b82b a0, (dss_if (exA := fun (q3 : Unit) => [.im a0]) (dt_not (dt_tru (de_isi "str" (de_var 0) (by rfl) T.z_isinstance (by rfl) T.z_str rfl))) (dss_ret de_non) (dss_nil (a := ()) (And.intro (Or.inl rfl) (trivial))) fun q3 => (dss_ret (de_fn C (g_shape_of_items T) T.m_shape_of_items T.F_shape_of_items.kp T.b_shape_of_items (da_cons (de_rev (de_frz (df_split (de_var 0) (de_str [46])))) (da_cons (de_globI (by rfl) T.c_HOST_LIMITS) da_nil)) n_shape_of_items_2081))), rfl⟩
theorem g_path_shape (T : Txt P K mg A) : FnG P w K mg base 3 A.a_path_shape A.f_path_shape ["thing"] (spR K mg false 1 m_path_shape_25b3) := by
  refine fnR (nr := false) (k := 2) T.F_path_shape sc_path_shape rfl (by decide) (fun cdv Ar outer s H Hf E ds C hl => ?_)
  match ds, hl with
  | [a0], _ => exact ⟨b_path_shape_25b3 a0, (dss_if (exA := fun (q6 : Unit) => [.im a0]) (dw_or (dt_not (dt_tru (de_isi "str" (de_var 0) (by rfl) T.z_isinstance (by rfl) T.z_str rfl))) (dw_or1 (dt_not (dt_tru (de_starts (de_var 0) (de_str [47])))))).pt (dss_ret de_non) (dss_nil (a := ()) (And.intro (Or.inl rfl) (trivial))) fun q6 => (dss_ret (de_fn C (g_shape_of_items T) T.m_shape_of_items T.F_shape_of_items.kp T.b_shape_of_items (da_cons (de_ifExp (dt_cmp (od_ne C.rm.units) (de_var 0) (de_str [47]) (by rfl)) (de_frz (df_split (de_sl (de_var 0) (do_some de_int) do_none) (de_str [47]))) (de_frz (df_list da_nil))) (da_cons (de_globI (by rfl) T.c_PATH_LIMITS) da_nil)) n_shape_of_items_2081))), rfl⟩
theorem g__law_glob (T : Txt P K mg A) : FnG P w K mg base 3 A.a__law_glob A.f__law_glob ["_law_bag_here", "_law_signs_here", "_law_most"] (spM K mg false (2 + 1) m__law_glob_3319) := by
  refine fnM (nr := false) (k := 2) T.F__law_glob sc__law_glob rfl (by decide) (fun cdv Ar outer s H Hf bag E ds C hl => ?_)
  match ds, hl with
  | [a1, a2], _ => exact ⟨b__law_glob_3319 a1 a2, (pss_k (k__law_glob_3319_4.eq_1 _ _) (dss_asg C 3 (de_fnM C 0 (g__law_take T) T.m__law_take T.F__law_take.kp T.b__law_take (da_cons de_int da_nil) n__law_take_6859) fun v1 => (dss_if (exA := fun (q7 : Unit) => [.bg, .im a1, .im a2, .im v1, .un, .un, .un]) (dt_cmp (od_eq C.rm.units) (de_var 3) de_int (by rfl)) (dss_ret (de_str [42])) (dss_nil (a := ()) (And.intro (Or.inl rfl) (And.intro (Or.inl rfl) (And.intro (Or.inl rfl) (And.intro (Or.inl rfl) (And.intro (Or.inr rfl) (And.intro (Or.inr rfl) (And.intro (Or.inr rfl) (trivial))))))))) fun q7 => (pss_k (k__law_glob_3319_3.eq_1 _ _ _) (dss_asg C 4 (de_join (de_str []) (de_frz (df_lc [("_law_turn", 6)] C (di_range1 (by rfl) T.z_range (da_cons (de_fnM C 0 (g__law_take T) T.m__law_take T.F__law_take.kp T.b__law_take (da_cons (de_op od_add (de_var 2) de_int) da_nil) n__law_take_6859) da_nil)) (blkOk_by (N := N__law_glob) (sc := defScope s__law_glob) (by decide +kernel)) (fun s H A cl fp => (pgd_name (C.blk _ _ _ _ _) 6)) (fun s H A cl fp C18 c19 => pts_true) (fun s H A cl fp C18 c19 => (de_fnM C18 0 (g__law_of T) T.m__law_of T.F__law_of.kp T.b__law_of (da_cons (de_var 1) da_nil) n__law_of_bf28)) (by decide)))) fun v9 => (pss_k (k__law_glob_3319_2.eq_1 _ _ _ _) (dss_asg C 5 (de_join (de_str []) (de_frz (df_lc [("_law_turn", 6)] C (di_range1 (by rfl) T.z_range (da_cons (de_fnM C 0 (g__law_take T) T.m__law_take T.F__law_take.kp T.b__law_take (da_cons (de_op od_add (de_var 2) de_int) da_nil) n__law_take_6859) da_nil)) (blkOk_by (N := N__law_glob) (sc := defScope s__law_glob) (by decide +kernel)) (fun s H A cl fp => (pgd_name (C.blk _ _ _ _ _) 6)) (fun s H A cl fp C35 c36 => pts_true) (fun s H A cl fp C35 c36 => (de_fnM C35 0 (g__law_of T) T.m__law_of T.F__law_of.kp T.b__law_of (da_cons (de_var 1) da_nil) n__law_of_bf28)) (by decide)))) fun v26 => (pss_k (k__law_glob_3319_1.eq_1 _ _ _ _) (dss_if (exA := fun (q45 : Unit) => [.bg, .im a1, .im a2, .im v1, .im v9, .im v26, .un]) (dt_cmp (od_lt C.rm.units) (de_var 3) de_int (by rfl)) (pss_k (k__law_glob_3319_0.eq_1 _ _ _) (dss_ret (de_sl (de_op od_add (de_op od_add (de_var 4) (de_var 5)) (de_fnM C 0 (g__law_of T) T.m__law_of T.F__law_of.kp T.b__law_of (da_cons (de_var 1) da_nil) n__law_of_bf28)) do_none (do_some de_int)))) (dss_nil (a := ()) (And.intro (Or.inl rfl) (And.intro (Or.inl rfl) (And.intro (Or.inl rfl) (And.intro (Or.inl rfl) (And.intro (Or.inl rfl) (And.intro (Or.inl rfl) (And.intro (Or.inr rfl) (trivial))))))))) fun q45 => (dss_ret (de_op od_add (de_op od_add (de_var 4) (de_str [42])) (de_var 5)))))))))))), rfl⟩
theorem g_HostPattern_init (T : Txt P K mg A) : FnG P w K mg base 4 A.a_HostPattern_init A.f_HostPattern_init ["self", "text"] (spIS K mg A.C_HostPattern ["text", "level", "head", "tail", "gap"] (fun l => l = 1 + 1) m_HostPattern_init_23dd) := by
  refine fnSup (k := 3) (j := 1) (n := 1) T.F_HostPattern_init sc_HostPattern_init rfl rfl rfl rfl rfl (by rfl) (by rfl) (by rfl) ((g_Pattern_init T).pos T.b_Pattern_init) (by decide) (fun ds h => congrArg (· + 1) (n_Pattern_init_4a0d ds h)) (fun F Ar outer s H Hf E o ds hs hq C hl => ?_)
  obtain ⟨xF, qF, aF, bF, sF, cF, dF⟩ := F
  dsimp only at hs hq
  subst hs hq
  match ds, hl with
  | [a1], _ => exact ⟨(do let x8 ← (pure a1); let r9 ← (do let x6 ← (pure c_HOST); let r7 ← (do let x4 ← (do let r3 ← (do let x1 ← (pure a1); let r2 ← pure []; pure (x1 :: r2)); Mo.lift (m_host_shape_b82b r3)); let r5 ← pure []; pure (x4 :: r5)); pure (x6 :: r7)); pure (x8 :: r9)), (da_cons (de_var 1) (da_cons (de_globI (by rfl) T.c_HOST) (da_cons (de_fn C (g_host_shape T) T.m_host_shape T.F_host_shape.kp T.b_host_shape (da_cons (de_var 1) da_nil) n_host_shape_b82b) da_nil))), rfl⟩
theorem g_PathPattern_init (T : Txt P K mg A) : FnG P w K mg base 4 A.a_PathPattern_init A.f_PathPattern_init ["self", "text"] (spIS K mg A.C_PathPattern ["text", "level", "head", "tail", "gap"] (fun l => l = 1 + 1) m_PathPattern_init_28de) := by
  refine fnSup (k := 3) (j := 1) (n := 1) T.F_PathPattern_init sc_PathPattern_init rfl rfl rfl rfl rfl (by rfl) (by rfl) (by rfl) ((g_Pattern_init T).pos T.b_Pattern_init) (by decide) (fun ds h => congrArg (· + 1) (n_Pattern_init_4a0d ds h)) (fun F Ar outer s H Hf E o ds hs hq C hl => ?_)
  obtain ⟨xF, qF, aF, bF, sF, cF, dF⟩ := F
  dsimp only at hs hq
  subst hs hq
  match ds, hl with
  | [a1], _ => exact ⟨(do let x8 ← (pure a1); let r9 ← (do let x6 ← (pure c_PATH); let r7 ← (do let x4 ← (do let r3 ← (do let x1 ← (pure a1); let r2 ← pure []; pure (x1 :: r2)); Mo.lift (m_path_shape_25b3 r3)); let r5 ← pure []; pure (x4 :: r5)); pure (x6 :: r7)); pure (x8 :: r9)), (da_cons (de_var 1) (da_cons (de_globI (by rfl) T.c_PATH) (da_cons (de_fn C (g_path_shape T) T.m_path_shape T.F_path_shape.kp T.b_path_shape (da_cons (de_var 1) da_nil) n_path_shape_25b3) da_nil))), rfl⟩
theorem g__law_made (T : Txt P K mg A) : FnG P w K mg base 6 A.a__law_made A.f__law_made ["_law_bag_here", "_law_signs_here"] (spM K mg false (1 + 1) m__law_made_040f) := by
  refine fnM (nr := false) (k := 5) T.F__law_made sc__law_made rfl (by decide) (fun cdv Ar outer s H Hf bag E ds C hl => ?_)
  match ds, hl with
  | [a1], _ => exact ⟨b__law_made_040f a1, (dss_asgOw C 2 (df_list da_nil) fun v1 => (pss_k (k__law_made_040f_8.eq_1 _ _) (dss_setF (ps_setLcF [("_law_turn", 5)] C 3 (di_range1 (by rfl) T.z_range (da_cons de_int da_nil)) (blkOk_by (N := N__law_made) (sc := defScope s__law_made) (by decide +kernel)) (fun s H A cl fp => (pgd_name (C.blk _ _ _ _ _) 5)) (fun s H A cl fp C7 c8 => pts_true) (fun s H A cl fp C7 c8 => (de_fnM C7 0 (g__law_glob T) T.m__law_glob T.F__law_glob.kp T.b__law_glob (da_cons (de_var 1) (da_cons de_int da_nil)) n__law_glob_3319)) (by decide)) fun v3 => (pss_k (k__law_made_040f_7.eq_1 _ _) (dss_for (exl := fun (q23 : List D) => [.bg, .im a1, .ow q23, .im v3, .un, .un]) v1 C (di_any (de_op od_add (de_var 3) (de_frz (df_list (da_cons (de_ix (de_var 3) de_int) da_nil))))) (pgd_name C 4) (And.intro (Or.inl rfl) (And.intro (Or.inl rfl) (And.intro (Or.inl rfl) (And.intro (Or.inl rfl) (And.intro (Or.inr rfl) (And.intro (Or.inr rfl) (trivial))))))) (fun q23 c24 => (pss_k (k__law_made_040f_3.eq_1 _ _) (dss_append 2 (de_tup (da_cons (de_makeS C T.C_LabelPattern T.na_LabelPattern T.M_LabelPattern ((g_LabelPattern_init T).pos T.b_LabelPattern_init) (da_cons (de_var 4) da_nil) (fun ds h => congrArg (· + 1) (n_LabelPattern_init_02ae ds h))) (da_cons (de_str [108, 97, 98, 101, 108]) (da_cons (de_var 4) da_nil)))) fun v26 => (pss_k (k__law_made_040f_2.eq_1 _ _) (dss_append 2 (de_tup (da_cons (de_makeS C T.C_HostPattern T.na_HostPattern T.M_HostPattern ((g_HostPattern_init T).pos T.b_HostPattern_init) (da_cons (de_var 4) da_nil) (fun ds h => congrArg (· + 1) (n_HostPattern_init_23dd ds h))) (da_cons (de_str [104, 111, 115, 116]) (da_cons (de_var 4) da_nil)))) fun v40 => (pss_k (k__law_made_040f_1.eq_1 _ _) (dss_append 2 (de_tup (da_cons (de_makeS C T.C_PathPattern T.na_PathPattern T.M_PathPattern ((g_PathPattern_init T).pos T.b_PathPattern_init) (da_cons (de_op od_add (de_str [47]) (de_var 4)) da_nil) (fun ds h => congrArg (· + 1) (n_PathPattern_init_28de ds h))) (da_cons (de_str [112, 97, 116, 104]) (da_cons (de_op od_add (de_str [47]) (de_var 4)) da_nil)))) fun v54 => (pss_k (k__law_made_040f_0.eq_1 _ _) (dss_append 2 (de_tup (da_cons (de_makeS C T.C_HostPattern T.na_HostPattern T.M_HostPattern ((g_HostPattern_init T).pos T.b_HostPattern_init) (da_cons (de_op od_add (de_str [42, 42, 46]) (de_var 4)) da_nil) (fun ds h => congrArg (· + 1) (n_HostPattern_init_23dd ds h))) (da_cons (de_str [104, 111, 115, 116]) (da_cons (de_op od_add (de_str [42, 42, 46]) (de_var 4)) da_nil)))) fun v72 => (dss_nil (a := v72) (And.intro (Or.inl rfl) (And.intro (Or.inl rfl) (And.intro (Or.inl rfl) (And.intro (Or.inl rfl) (And.intro (Or.inr rfl) (And.intro (Or.inr rfl) (trivial))))))))))))))))) fun q89 => (pss_k (k__law_made_040f_6.eq_1 _) (dss_append 2 (de_tup (da_cons (de_makeS C T.C_HostPattern T.na_HostPattern T.M_HostPattern ((g_HostPattern_init T).pos T.b_HostPattern_init) (da_cons (de_str [42]) da_nil) (fun ds h => congrArg (· + 1) (n_HostPattern_init_23dd ds h))) (da_cons (de_str [104, 111, 115, 116]) (da_cons (de_str [42]) da_nil)))) fun v91 => (pss_k (k__law_made_040f_5.eq_1 _) (dss_append 2 (de_tup (da_cons (de_makeS C T.C_LabelPattern T.na_LabelPattern T.M_LabelPattern ((g_LabelPattern_init T).pos T.b_LabelPattern_init) (da_cons (de_str [42]) da_nil) (fun ds h => congrArg (· + 1) (n_LabelPattern_init_02ae ds h))) (da_cons (de_str [108, 97, 98, 101, 108]) (da_cons (de_str [42]) da_nil)))) fun v105 => (pss_k (k__law_made_040f_4.eq_1 _) (dss_append 2 (de_tup (da_cons (de_makeS C T.C_PathPattern T.na_PathPattern T.M_PathPattern ((g_PathPattern_init T).pos T.b_PathPattern_init) (da_cons (de_str [47]) da_nil) (fun ds h => congrArg (· + 1) (n_PathPattern_init_28de ds h))) (da_cons (de_str [112, 97, 116, 104]) (da_cons (de_str [47]) da_nil)))) fun v119 => (dss_frz 2 rfl (dss_ret (de_var 2)))))))))))))), rfl⟩
theorem g_law (T : Txt P K mg A) : FnG P w K mg base 7 A.a_law A.f_law ["_law_script"] (spR K mg false 1 m_law_d63f) := by
  refine fnR (nr := false) (k := 6) T.F_law sc_law rfl (by decide) (fun cdv Ar outer s H Hf E ds C hl => ?_)
  match ds, hl with
  | [a0], _ => exact ⟨b_law_d63f a0, (pss_k (k_law_d63f_5.eq_1 _) (dss_for (exl := fun (q17 : Unit) => [.im a0, .un, .un, .un, .un, .un, .un, .un, .un, .un]) () C (di_range1 (by rfl) T.z_range (da_cons (de_callB (oc_max C.calm) (by rfl) T.z_max rfl (da_cons de_int (da_cons (de_callB (oc_min C.calm) (by rfl) T.z_min rfl (da_cons de_int (da_cons (de_callB oc_len (by rfl) T.z_len rfl (da_cons (de_var 0) da_nil)) da_nil))) da_nil))) da_nil)) (pgd_name C 1) (And.intro (Or.inl rfl) (And.intro (Or.inr rfl) (And.intro (Or.inr rfl) (And.intro (Or.inr rfl) (And.intro (Or.inr rfl) (And.intro (Or.inr rfl) (And.intro (Or.inr rfl) (And.intro (Or.inr rfl) (And.intro (Or.inr rfl) (And.intro (Or.inr rfl) (trivial))))))))))) (fun q17 c18 => (dss_bag C 2 (df_fn C (g__law_bag T) T.m__law_bag T.F__law_bag.kp T.b__law_bag (da_cons (de_var 0) (da_cons (de_var 1) da_nil)) n__law_bag_fbbe) (fun b C26 => (pss_k k_law_d63f_3.eq_1 (dss_asg C26 3 (de_fnM C26 2 (g__law_made T) T.m__law_made T.F__law_made.kp T.b__law_made (da_cons (de_fnM C26 2 (g__law_signs T) T.m__law_signs T.F__law_signs.kp T.b__law_signs (da_cons de_int da_nil) n__law_signs_3c02) da_nil) n__law_made_040f) fun v27 => (dss_for (exl := fun (q35 : Unit) => [.im a0, .im c18, .bg, .im v27, .un, .un, .un, .un, .un, .un]) () C26 (di_any (de_var 3)) (pgd_tup3 C26 4 5 6) (And.intro (Or.inl rfl) (And.intro (Or.inl rfl) (And.intro (Or.inl rfl) (And.intro (Or.inl rfl) (And.intro (Or.inr rfl) (And.intro (Or.inr rfl) (And.intro (Or.inr rfl) (And.intro (Or.inr rfl) (And.intro (Or.inr rfl) (And.intro (Or.inr rfl) (trivial))))))))))) (fun q35 c36 => (pss_k (k_law_d63f_2.eq_1 _ _) (dss_if (exA := fun (q66 : Unit) => [.im a0, .im c18, .bg, .im v27, .im c36.1, .im c36.2.1, .im c36.2.2, .un, .un, .un]) (dw_or (dt_cmp (od_neO (L := [("LabelPattern", m_LabelPattern_eq_9777), ("HostPattern", m_HostPattern_eq_524e), ("PathPattern", m_PathPattern_eq_55e4)]) (eq_all T) C26.gd (C26.rm.mono (by decide)) (od_ne C26.rm.units)) (de_callTy (oc_strO (L := [("LabelPattern", m_LabelPattern_str_43dc), ("HostPattern", m_HostPattern_str_6eb8), ("PathPattern", m_PathPattern_str_7f49)]) (du_str T) C26.gd (C26.rm.mono (by decide))) (by rfl) T.z_str rfl (da_cons (de_var 4) da_nil)) (de_var 6) (by rfl)) (dw_or (dt_cmp (od_eqO (L := [("LabelPattern", m_LabelPattern_eq_9777), ("HostPattern", m_HostPattern_eq_524e), ("PathPattern", m_PathPattern_eq_55e4)]) (eq_all T) C26.gd (C26.rm.mono (by decide)) (od_eq C26.rm.units)) (de_var 4) (de_var 6) (by rfl)) (dw_or (dt_cmp (od_eqO (L := [("LabelPattern", m_LabelPattern_eq_9777), ("HostPattern", m_HostPattern_eq_524e), ("PathPattern", m_PathPattern_eq_55e4)]) (eq_all T) C26.gd (C26.rm.mono (by decide)) (od_eq C26.rm.units)) (de_var 4) (de_frz (df_list (da_cons (de_var 6) da_nil))) (by rfl)) (dw_or (dt_cmp (od_eqO (L := [("LabelPattern", m_LabelPattern_eq_9777), ("HostPattern", m_HostPattern_eq_524e), ("PathPattern", m_PathPattern_eq_55e4)]) (eq_all T) C26.gd (C26.rm.mono (by decide)) (od_eq C26.rm.units)) (de_var 4) (de_tup (da_cons (de_var 5) (da_cons (de_var 6) da_nil))) (by rfl)) (dw_or1 (dt_cmp (od_inW (L := [("LabelPattern", m_LabelPattern_eq_9777), ("HostPattern", m_HostPattern_eq_524e), ("PathPattern", m_PathPattern_eq_55e4)]) (rf_all T) C26.gd (C26.rm.mono (by decide)) (od_in (hu65 C26.rm))) (de_var 4) (de_frz (df_list (da_cons de_non (da_cons de_bl (da_cons de_int da_nil))))) (by rfl))))))).pt (dss_ret de_bl) (dss_nil (a := ()) (And.intro (Or.inl rfl) (And.intro (Or.inl rfl) (And.intro (Or.inl rfl) (And.intro (Or.inl rfl) (And.intro (Or.inl rfl) (And.intro (Or.inl rfl) (And.intro (Or.inl rfl) (And.intro (Or.inr rfl) (And.intro (Or.inr rfl) (And.intro (Or.inr rfl) (trivial)))))))))))) fun q66 => (dss_for (exl := fun (q69 : Unit) => [.im a0, .im c18, .bg, .im v27, .im c36.1, .im c36.2.1, .im c36.2.2, .un, .un, .un]) () C26 (di_any (de_var 3)) (pgd_tup3 C26 7 8 9) (And.intro (Or.inl rfl) (And.intro (Or.inl rfl) (And.intro (Or.inl rfl) (And.intro (Or.inl rfl) (And.intro (Or.inl rfl) (And.intro (Or.inl rfl) (And.intro (Or.inl rfl) (And.intro (Or.inr rfl) (And.intro (Or.inr rfl) (And.intro (Or.inr rfl) (trivial))))))))))) (fun q69 c70 => (pss_k (k_law_d63f_1.eq_1 _ _) (dss_if (exA := fun (q95 : Unit) => [.im a0, .im c18, .bg, .im v27, .im c36.1, .im c36.2.1, .im c36.2.2, .im c70.1, .im c70.2.1, .im c70.2.2]) (dt_cmp (od_ne C26.rm.units) (de_callB (oc_repr C26.gd C26.rm.units) (by rfl) T.z_repr rfl (da_cons (de_cmp (od_eqO (L := [("LabelPattern", m_LabelPattern_eq_9777), ("HostPattern", m_HostPattern_eq_524e), ("PathPattern", m_PathPattern_eq_55e4)]) (eq_all T) C26.gd (C26.rm.mono (by decide)) (od_eq C26.rm.units)) (de_var 4) (de_var 7) (by rfl)) da_nil)) (de_callB (oc_repr C26.gd C26.rm.units) (by rfl) T.z_repr rfl (da_cons (de_cmp (od_eq C26.rm.units) (de_tup (da_cons (de_var 5) (da_cons (de_var 6) da_nil))) (de_tup (da_cons (de_var 8) (da_cons (de_var 9) da_nil))) (by rfl)) da_nil)) (by rfl)) (dss_ret de_bl) (dss_nil (a := ()) (And.intro (Or.inl rfl) (And.intro (Or.inl rfl) (And.intro (Or.inl rfl) (And.intro (Or.inl rfl) (And.intro (Or.inl rfl) (And.intro (Or.inl rfl) (And.intro (Or.inl rfl) (And.intro (Or.inl rfl) (And.intro (Or.inl rfl) (And.intro (Or.inl rfl) (trivial)))))))))))) fun q95 => (pss_k (k_law_d63f_0.eq_1 _ _) (dss_if (exA := fun (q121 : Unit) => [.im a0, .im c18, .bg, .im v27, .im c36.1, .im c36.2.1, .im c36.2.2, .im c70.1, .im c70.2.1, .im c70.2.2]) (dt_cmp (od_ne C26.rm.units) (de_callB (oc_repr C26.gd C26.rm.units) (by rfl) T.z_repr rfl (da_cons (de_cmp (od_neO (L := [("LabelPattern", m_LabelPattern_eq_9777), ("HostPattern", m_HostPattern_eq_524e), ("PathPattern", m_PathPattern_eq_55e4)]) (eq_all T) C26.gd (C26.rm.mono (by decide)) (od_ne C26.rm.units)) (de_var 4) (de_var 7) (by rfl)) da_nil)) (de_callB (oc_repr C26.gd C26.rm.units) (by rfl) T.z_repr rfl (da_cons (de_cmp (od_ne C26.rm.units) (de_tup (da_cons (de_var 5) (da_cons (de_var 6) da_nil))) (de_tup (da_cons (de_var 8) (da_cons (de_var 9) da_nil))) (by rfl)) da_nil)) (by rfl)) (dss_ret de_bl) (dss_nil (a := ()) (And.intro (Or.inl rfl) (And.intro (Or.inl rfl) (And.intro (Or.inl rfl) (And.intro (Or.inl rfl) (And.intro (Or.inl rfl) (And.intro (Or.inl rfl) (And.intro (Or.inl rfl) (And.intro (Or.inl rfl) (And.intro (Or.inl rfl) (And.intro (Or.inl rfl) (trivial)))))))))))) fun q121 => (dss_nil (a := ()) (And.intro (Or.inl rfl) (And.intro (Or.inl rfl) (And.intro (Or.inl rfl) (And.intro (Or.inl rfl) (And.intro (Or.inl rfl) (And.intro (Or.inl rfl) (And.intro (Or.inl rfl) (And.intro (Or.inr rfl) (And.intro (Or.inr rfl) (And.intro (Or.inr rfl) (trivial))))))))))))))))) fun q125 => (dss_nil (a := ()) (And.intro (Or.inl rfl) (And.intro (Or.inl rfl) (And.intro (Or.inl rfl) (And.intro (Or.inl rfl) (And.intro (Or.inr rfl) (And.intro (Or.inr rfl) (And.intro (Or.inr rfl) (And.intro (Or.inr rfl) (And.intro (Or.inr rfl) (And.intro (Or.inr rfl) (trivial)))))))))))))))) fun q128 => (dss_nil (a := ()) (And.intro (Or.inl rfl) (And.intro (Or.inr rfl) (And.intro (Or.inr rfl) (And.intro (Or.inr rfl) (And.intro (Or.inr rfl) (And.intro (Or.inr rfl) (And.intro (Or.inr rfl) (And.intro (Or.inr rfl) (And.intro (Or.inr rfl) (And.intro (Or.inr rfl) (trivial)))))))))))))))) (fun _ => rfl) (fun _ => by first | rfl | contradiction))) fun q130 => (pss_k k_law_d63f_4.eq_1 (dss_ret (de_and (de_cmp (od_eqO (L := [("LabelPattern", m_LabelPattern_eq_9777), ("HostPattern", m_HostPattern_eq_524e), ("PathPattern", m_PathPattern_eq_55e4)]) (eq_all T) C.gd (C.rm.mono (by decide)) (od_eq C.rm.units)) (de_makeS C T.C_LabelPattern T.na_LabelPattern T.M_LabelPattern ((g_LabelPattern_init T).pos T.b_LabelPattern_init) (da_cons (de_str [97]) da_nil) (fun ds h => congrArg (· + 1) (n_LabelPattern_init_02ae ds h))) (de_makeS C T.C_LabelPattern T.na_LabelPattern T.M_LabelPattern ((g_LabelPattern_init T).pos T.b_LabelPattern_init) (da_cons (de_str [97]) da_nil) (fun ds h => congrArg (· + 1) (n_LabelPattern_init_02ae ds h))) (by rfl)) (de_one (de_cmp (od_neO (L := [("LabelPattern", m_LabelPattern_eq_9777), ("HostPattern", m_HostPattern_eq_524e), ("PathPattern", m_PathPattern_eq_55e4)]) (eq_all T) C.gd (C.rm.mono (by decide)) (od_ne C.rm.units)) (de_makeS C T.C_HostPattern T.na_HostPattern T.M_HostPattern ((g_HostPattern_init T).pos T.b_HostPattern_init) (da_cons (de_str [97]) da_nil) (fun ds h => congrArg (· + 1) (n_HostPattern_init_23dd ds h))) (de_makeS C T.C_LabelPattern T.na_LabelPattern T.M_LabelPattern ((g_LabelPattern_init T).pos T.b_LabelPattern_init) (da_cons (de_str [97]) da_nil) (fun ds h => congrArg (· + 1) (n_LabelPattern_init_02ae ds h))) (by rfl)))))))), rfl⟩
end
end K10
namespace K10
open PySem L2 DL FN
theorem facts {w : World} {K : PySem.W.Frag} {h : Heap} {mg : Str → Option Value} {fa : Addr} (X : K.In h) (G : h.Ns mainGlobals mg) (hfa : mg "law" = some (.ref fa)) (ce : exs K = true) (cf : fss K = fvs) (topsup : (PySem.Challenge.pw_offeredentry_k10_patterns_compared.main.scope.names.lookup ("super" : Str)).isSome = false)
    : ∃ fd : FuncData, (∀ (s : Shared) (v : Value), BindsTo s fd ⟨[v], []⟩ [("_law_script", v)]) ∧ ∀ base : Heap, K.In base → base.Ns mainGlobals mg → FnG PySem.Challenge.rw_offeredentry_k10_patterns_compared.prog w K mg base 7 fa fd ["_law_script"] (spR K mg false 1 FN.m_law_d63f) := by
  obtain ⟨ce0, ce_1⟩ := He.ba ce
  obtain ⟨ce1, ce_2⟩ := He.ba ce_1
  obtain ⟨ce2, ce_3⟩ := He.ba ce_2
  obtain ⟨ce3, ce_4⟩ := He.ba ce_3
  obtain ⟨ce4, ce_5⟩ := He.ba ce_4
  obtain ⟨ce5, ce6⟩ := He.ba ce_5
  obtain ⟨b_n0, b_f0⟩ := He.ba ce0
  obtain ⟨b_f1, ce1_1⟩ := He.ba ce1
  obtain ⟨b_su14, b_sb14⟩ := He.ba ce1_1
  obtain ⟨b_su18, ce2_1⟩ := He.ba ce2
  obtain ⟨b_sb18, ce2_2⟩ := He.ba ce2_1
  obtain ⟨b_su19, ce2_3⟩ := He.ba ce2_2
  obtain ⟨b_sb19, ce2_4⟩ := He.ba ce2_3
  obtain ⟨b_x_BadPattern, b_tp⟩ := He.ba ce2_4
  obtain ⟨b_cls, ce3_1⟩ := He.ba ce3
  obtain ⟨b_na_HostPattern, ce3_2⟩ := He.ba ce3_1
  obtain ⟨b_mk_HostPattern, ce3_3⟩ := He.ba ce3_2
  obtain ⟨b_na_LabelPattern, ce3_4⟩ := He.ba ce3_3
  obtain ⟨b_mk_LabelPattern, ce3_5⟩ := He.ba ce3_4
  obtain ⟨b_na_PathPattern, b_mk_PathPattern⟩ := He.ba ce3_5
  obtain ⟨b_qe_HostPattern, ce4_1⟩ := He.ba ce4
  obtain ⟨b_qe_LabelPattern, ce4_2⟩ := He.ba ce4_1
  obtain ⟨b_qe_PathPattern, ce4_3⟩ := He.ba ce4_2
  obtain ⟨b_er_HostPattern, ce4_4⟩ := He.ba ce4_3
  obtain ⟨b_er_LabelPattern, b_er_PathPattern⟩ := He.ba ce4_4
  obtain ⟨b_is_HostPattern, ce5_1⟩ := He.ba ce5
  obtain ⟨b_is_LabelPattern, ce5_2⟩ := He.ba ce5_1
  obtain ⟨b_is_PathPattern, ce5_3⟩ := He.ba ce5_2
  obtain ⟨b_st_HostPattern, ce5_4⟩ := He.ba ce5_3
  obtain ⟨b_st_LabelPattern, ce5_5⟩ := He.ba ce5_4
  obtain ⟨b_st_PathPattern, ce5_6⟩ := He.ba ce5_5
  obtain ⟨b_zs, ce5_7⟩ := He.ba ce5_6
  obtain ⟨b_g_CHARACTERS, b_g_GAP⟩ := He.ba ce5_7
  obtain ⟨b_g_HOST, ce6_1⟩ := He.ba ce6
  obtain ⟨b_g_HOST_LIMITS, ce6_2⟩ := He.ba ce6_1
  obtain ⟨b_g_LABEL, ce6_3⟩ := He.ba ce6_2
  obtain ⟨b_g_LONGEST_TEXT, ce6_4⟩ := He.ba ce6_3
  obtain ⟨b_g_PATH, b_g_PATH_LIMITS⟩ := He.ba ce6_4
  obtain ⟨cfA, cfB⟩ := List.append_inj (show fssA K ++ fssB K = fvsA ++ fvsB from cf) rfl
  have cg0 := cfA
  have cg1 := cfB
  obtain ⟨n_0, b_n0_1⟩ := He.ba b_n0
  obtain ⟨n_1, b_n0_2⟩ := He.ba b_n0_1
  obtain ⟨n_2, b_n0_3⟩ := He.ba b_n0_2
  obtain ⟨n_3, b_n0_4⟩ := He.ba b_n0_3
  obtain ⟨n_11, b_n0_5⟩ := He.ba b_n0_4
  obtain ⟨n_12, b_n0_6⟩ := He.ba b_n0_5
  obtain ⟨n_13, b_n0_7⟩ := He.ba b_n0_6
  obtain ⟨n_15, b_n0_8⟩ := He.ba b_n0_7
  obtain ⟨n_16, b_n0_9⟩ := He.ba b_n0_8
  obtain ⟨n_17, b_n0_10⟩ := He.ba b_n0_9
  obtain ⟨n_20, b_n0_11⟩ := He.ba b_n0_10
  obtain ⟨n_21, b_n0_12⟩ := He.ba b_n0_11
  have cf0 : FL K (fa0 K) fv0 := ⟨cg0, b_f0⟩
  obtain ⟨f0, F0, cf0_1⟩ := cf0.fn
  obtain ⟨f1, F1, cf0_2⟩ := cf0_1.fn
  obtain ⟨f2, F2, cf0_3⟩ := cf0_2.fn
  obtain ⟨f3, F3, cf0_4⟩ := cf0_3.fn
  obtain ⟨f4, F4, cf0_5⟩ := cf0_4.fn
  obtain ⟨f5, F5, cf0_6⟩ := cf0_5.fn
  obtain ⟨f6, F6, cf0_7⟩ := cf0_6.fn
  obtain ⟨f7, F7, cf0_8⟩ := cf0_7.fn
  obtain ⟨f8, F8, cf0_9⟩ := cf0_8.fn
  obtain ⟨f9, F9, cf0_10⟩ := cf0_9.fn
  obtain ⟨f10, F10, cf0_11⟩ := cf0_10.fn
  obtain ⟨f11, F11, cf0_12⟩ := cf0_11.fn
  have cf1 : FL K (fa1 K) fv1 := ⟨cg1, b_f1⟩
  obtain ⟨f12, F12, cf1_1⟩ := cf1.fn
  obtain ⟨f13, F13, cf1_2⟩ := cf1_1.fn
  obtain ⟨⟨f14, F14, B14⟩, cf1_3⟩ := cf1_2.sup (P := PySem.Challenge.pw_offeredentry_k10_patterns_compared) X G F4 b_su14 b_sb14 (all_of b_zs (by decide)) topsup b_tp
  obtain ⟨f15, F15, cf1_4⟩ := cf1_3.fn
  obtain ⟨f16, F16, cf1_5⟩ := cf1_4.fn
  obtain ⟨f17, F17, cf1_6⟩ := cf1_5.fn
  obtain ⟨⟨f18, F18, B18⟩, cf1_7⟩ := cf1_6.sup (P := PySem.Challenge.pw_offeredentry_k10_patterns_compared) X G F4 b_su18 b_sb18 (all_of b_zs (by decide)) topsup b_tp
  obtain ⟨⟨f19, F19, B19⟩, cf1_8⟩ := cf1_7.sup (P := PySem.Challenge.pw_offeredentry_k10_patterns_compared) X G F4 b_su19 b_sb19 (all_of b_zs (by decide)) topsup b_tp
  obtain ⟨f20, F20, cf1_9⟩ := cf1_8.fn
  obtain ⟨kV21, dc21, pm21, an21, cd21, ct21, F21, cf1_10⟩ := cf1_9.fs
  obtain ⟨x_BadPattern, cf1_11⟩ := cf1_10.own X G b_x_BadPattern (by decide) (by decide) (fun _ _ _ _ _ _ _ _ _ _ _ _ _ => rfl)
  have e := hfa.symm.trans (ng_ok X G n_21)
  cases e
  clear ce cf b_n0 b_n0_1 b_n0_2 b_n0_3 b_n0_4 b_n0_5 b_n0_6 b_n0_7 b_n0_8 b_n0_9 b_n0_10 b_n0_11 b_n0_12 cf0 cf0_1 cf0_2 cf0_3 cf0_4 cf0_5 cf0_6 cf0_7 cf0_8 cf0_9 cf0_10 cf0_11 cf1 cf1_1 cf1_2 cf1_3 cf1_4 cf1_5 cf1_6 cf1_7 cf1_8 cf1_9 cf1_10 cf0_12 cf1_11 ce_1 ce_2 ce_3 ce_4 ce_5 ce0 ce1 ce1_1 ce2 ce2_1 ce2_2 ce2_3 ce2_4 ce3 ce3_1 ce3_2 ce3_3 ce3_4 ce3_5 ce4 ce4_1 ce4_2 ce4_3 ce4_4 ce5 ce5_1 ce5_2 ce5_3 ce5_4 ce5_5 ce5_6 ce5_7 ce6 ce6_1 ce6_2 ce6_3 ce6_4 cfB cfA
  have T : Txt PySem.Challenge.rw_offeredentry_k10_patterns_compared.prog K mg ⟨_, _, _, _, _, _, _, _, _, _, _, _, _, _, _, _, _, _, _, _, _, _, _, _, _, _, _, _, _, _, _, _, _, _, _, _, _, _, _, _, _, _, _, _, _, _, _, _, _⟩ := ⟨(ng_ok X G n_0), F0, (F0.binds fun _ _ _ _ _ _ us hl => match us, hl with | [_], _ => rfl), (ng_ok X G n_1), F1, (F1.binds fun _ _ _ _ _ _ us hl => match us, hl with | [_], _ => rfl), (ng_ok X G n_2), F2, (F2.binds fun _ _ _ _ _ _ us hl => match us, hl with | [_, _], _ => rfl), (ng_ok X G n_3), F3, (F3.binds fun _ _ _ _ _ _ us hl => match us, hl with | [_, _], _ => rfl), F4, (F4.binds fun _ _ _ _ _ _ us hl => match us, hl with | [_, _, _, _], _ => rfl), F5, (F5.binds fun _ _ _ _ _ _ us hl => match us, hl with | [_, _], _ => rfl), F6, (F6.binds fun _ _ _ _ _ _ us hl => match us, hl with | [_], _ => rfl), F7, (F7.binds fun _ _ _ _ _ _ us hl => match us, hl with | [_, _], _ => rfl), F8, (F8.binds fun _ _ _ _ _ _ us hl => match us, hl with | [_], _ => rfl), F9, (F9.binds fun _ _ _ _ _ _ us hl => match us, hl with | [_, _], _ => rfl), F10, (F10.binds fun _ _ _ _ _ _ us hl => match us, hl with | [_], _ => rfl), (ng_ok X G n_11), F11, (F11.binds fun _ _ _ _ _ _ us hl => match us, hl with | [_, _], _ => rfl), (ng_ok X G n_12), F12, (F12.binds fun _ _ _ _ _ _ us hl => match us, hl with | [_, _], _ => rfl), (ng_ok X G n_13), F13, (F13.binds fun _ _ _ _ _ _ us hl => match us, hl with | [_, _], _ => rfl), F14, (B14 _ fun _ _ _ _ _ _ _ us hl => match us, hl with | [_, _], _ => rfl), (ng_ok X G n_15), F15, (F15.binds fun _ _ _ _ _ _ us hl => match us, hl with | [_], _ => rfl), (ng_ok X G n_16), F16, (F16.binds fun _ _ _ _ _ _ us hl => match us, hl with | [_], _ => rfl), (ng_ok X G n_17), F17, (F17.binds fun _ _ _ _ _ _ us hl => match us, hl with | [_, _, _], _ => rfl), F18, (B18 _ fun _ _ _ _ _ _ _ us hl => match us, hl with | [_, _], _ => rfl), F19, (B19 _ fun _ _ _ _ _ _ _ us hl => match us, hl with | [_, _], _ => rfl), (ng_ok X G n_20), F20, (F20.binds fun _ _ _ _ _ _ us hl => match us, hl with | [_, _], _ => rfl), (ng_ok X G n_21), F21, (F21.binds fun _ _ _ _ _ _ us hl => match us, hl with | [_], _ => rfl), (cl_ok X G (all_of b_cls (by decide +kernel : ("HostPattern" : Str) ∈ clsL))), (na_ok b_na_HostPattern), (mk_ok b_mk_HostPattern), (cl_ok X G (all_of b_cls (by decide +kernel : ("LabelPattern" : Str) ∈ clsL))), (na_ok b_na_LabelPattern), (mk_ok b_mk_LabelPattern), (cl_ok X G (all_of b_cls (by decide +kernel : ("PathPattern" : Str) ∈ clsL))), (na_ok b_na_PathPattern), (mk_ok b_mk_PathPattern), (eqC_ok X G b_cls (by decide +kernel) b_qe_HostPattern), (eqC_ok X G b_cls (by decide +kernel) b_qe_LabelPattern), (eqC_ok X G b_cls (by decide +kernel) b_qe_PathPattern), (er_ok b_er_HostPattern), (er_ok b_er_LabelPattern), (er_ok b_er_PathPattern), (isC_ok X G b_cls (by decide +kernel) b_is_HostPattern), (isC_ok X G b_cls (by decide +kernel) b_is_LabelPattern), (isC_ok X G b_cls (by decide +kernel) b_is_PathPattern), (mt_ok b_st_HostPattern), (mt_ok b_st_LabelPattern), (mt_ok b_st_PathPattern), x_BadPattern, (nn_ok X G (all_of b_zs (by decide +kernel : ("abs" : Str) ∈ zsL))), (nn_ok X G (all_of b_zs (by decide +kernel : ("enumerate" : Str) ∈ zsL))), (nn_ok X G (all_of b_zs (by decide +kernel : ("int" : Str) ∈ zsL))), (nn_ok X G (all_of b_zs (by decide +kernel : ("isinstance" : Str) ∈ zsL))), (nn_ok X G (all_of b_zs (by decide +kernel : ("len" : Str) ∈ zsL))), (nn_ok X G (all_of b_zs (by decide +kernel : ("list" : Str) ∈ zsL))), (nn_ok X G (all_of b_zs (by decide +kernel : ("max" : Str) ∈ zsL))), (nn_ok X G (all_of b_zs (by decide +kernel : ("min" : Str) ∈ zsL))), (nn_ok X G (all_of b_zs (by decide +kernel : ("range" : Str) ∈ zsL))), (nn_ok X G (all_of b_zs (by decide +kernel : ("repr" : Str) ∈ zsL))), (nn_ok X G (all_of b_zs (by decide +kernel : ("str" : Str) ∈ zsL))), (nn_ok X G (all_of b_zs (by decide +kernel : ("tuple" : Str) ∈ zsL))), (gs_ok X G b_g_CHARACTERS (by decide +kernel) (by decide)), (gs_ok X G b_g_GAP (by decide +kernel) (by decide)), (gs_ok X G b_g_HOST (by decide +kernel) (by decide)), (gt_ok X G (vs := [.int 1, .int 4, .int 3, .int 2]) b_g_HOST_LIMITS (.cons (is_int _) (.cons (is_int _) (.cons (is_int _) (.cons (is_int _) .nil)))) (by decide)), (gs_ok X G b_g_LABEL (by decide +kernel) (by decide)), (gi_ok X G b_g_LONGEST_TEXT), (gs_ok X G b_g_PATH (by decide +kernel) (by decide)), (gt_ok X G (vs := [.int 0, .int 3, .int 2, .int 2]) b_g_PATH_LIMITS (.cons (is_int _) (.cons (is_int _) (.cons (is_int _) (.cons (is_int _) .nil)))) (by decide))⟩
  exact ⟨_, fun s v => .of_eq rfl, fun base _ _ => g_law T⟩
end K10
open PySem PySem.W PyProof.Rows in
set_option maxRecDepth 100000 in
set_option maxHeartbeats 0 in
theorem PySem.Challenge.cw_offeredentry_k10_patterns_compared_holds : PySem.Challenge.rw_offeredentry_k10_patterns_compared.Holds := by
  refine K10.lawE fun said => ?_
  refine HandSHeadRun.head_any (r := OpenLaw.row PySem.Challenge.rw_offeredentry_k10_patterns_compared) (q := view (OpenLaw.row PySem.Challenge.rw_offeredentry_k10_patterns_compared).prog [40]) (H := DL.hookH K10.gxs K10.fss K10.fvs) (ob := DL.obH K10.gxs K10.fss) (M := 40000) (loose := K10.names) (d := HandSHeadRun.topDef (OpenLaw.row PySem.Challenge.rw_offeredentry_k10_patterns_compared).prog 40) (kwd := []) DL.obH_eq
    (by kernel_rfl) (fun s => by kernel_rfl) K10.run (by kernel_rfl) (by kernel_rfl) (by kernel_rfl) (by rfl) (by first | assumption | decide +kernel) (by decide +kernel) K10.bareE ?hw ?hc
  case hw => w_witness2
  case hc =>
    refine DL.walk_gE (l := PySem.Challenge.rw_offeredentry_k10_patterns_compared) (n := 63) (k := 7) (x := "_law_script") (g := FN.m_law_d63f) rfl (by decide) (by kernel_rfl) ⟨rfl, by decide, by decide⟩ ?F FN.law_d63f_true
    intro w mg fa h Y G hmg0
    obtain ⟨K, KX, ce, cf⟩ := Y
    have hmg : mg ("law" : PySem.Str) = some (.ref fa) := by
      have e : (HandSHeadRun.topDef (OpenLaw.row PySem.Challenge.rw_offeredentry_k10_patterns_compared).prog 40).name = ("law" : PySem.Str) := by kernel_rfl
      rw [← e]
      exact hmg0
    obtain ⟨fd, hb, hF⟩ := K10.facts (w := w) KX G hmg (K10.gxs_all ce) cf (by first | rfl | decide +kernel | kernel_rfl)
    exact ⟨K, fd, KX, hb, hF⟩
