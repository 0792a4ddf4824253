import PyProof.Rows.All
import Wide.All
import OpenK.AllK
import Wide.FinOn
import HandS.HeadEnd
import HandS.HeadHook1
import HandS.HeadHook2
import HandS.Head0
import HandS.Head1
import HandS.Head2
import HandS.Words
import HandS.EndTab
import KE.KStateDown
import HandS.ForMost
import HandS.ForExc
import HandS.Flow
import HandS.Wide
import HandS.NestedK
import KE.KeyNested
import HandS.Exc
import HandS.ExcOwn
import HandS.ExcCtx
import HandS.Star
import PyProof.ListNew
import HandS.TupAny
import HandS.Deep
import HandS.Style
import HandS.IsInst
import KE.DataCmp
import HandS.Comp
import KE.GoesComp
import HandS.Conv
import HandS.Ends
import HandS.TryOnly
import HandS.TryMany
import KE.KExcInit
import PyProof.ExcBaseAll.ValueError
import PyProof.ExcBaseAll.LookupError
import PyProof.ExcBaseAll.OverflowError
import PyProof.ExcBaseAll.RuntimeError
import HandS.More
import HandS.Zip
import KE.KExcIs
import HandS.ExcIs
import HandS.Property
import HandS.MakeKwOnly
import HandS.SlotsOwn
import PyProof.InstEq
import HandS.RaiseMore
import HandS.FStr
import HandS.Codes
import HandS.ClsMeth
import HandS.Replace
import PyProof.AssignAttr
import PyProof.ReprLen
import HandS.Text
import HandS.ReplaceLit
import HandS.ReplaceDef
import HandS.ReplaceList
import HandS.Nested
import KE.KSuper
import KE.KDictZip
import HandS.Zip0
import HandS.Iter
import HandS.StrMore
import KE.GoesEnum
import KE.GoesEnumKw
import HandS.TupMul
import PyProof.EqAt
import PyProof.NeKinds
import PyProof.CollectStr
import KE.SortKeyHeap
import KE.SortData
import HandS.SortKw
import HandS.DictComp
import HandS.RaiseFrom
import HandS.SuiteRaise
import PyProof.RulesAs
import KE.KStar
import HandS.IterVal
import HandS.OwnIter
import HandS.Hot
import HandS.HotCalls
import HandS.GenList
import HandS.OwnEq
import HandS.Dict
import KE.DatumOrd
import PyProof.FString3
import HandS.Lambda
import HandS.SetTxt0
import HandS.Set
import HandS.SetFor
import HandS.TupSets
import HandS.SetBool
import HandS.SetKeys
import KE.KDictKeyed
import KE.KDictDisplayH
import HandS.DictTup
import HandS.WideBits
import KE.KDictItemsList
import PySem.Challenge.RW_offeredentry_k06_label_patterns
set_option Elab.async false
set_option linter.all false
set_option maxRecDepth 100000
set_option maxHeartbeats 4000000
namespace PySem
namespace OwnX
open PySem.W
inductive XB where
  | ve | le | oe | re
def XB.tail : XB → List Value
  | .ve => [.type "ValueError", .type "Exception", .type "BaseException", .type "object"]
  | .le => [.type "LookupError", .type "Exception", .type "BaseException", .type "object"]
  | .oe => [.type "OverflowError", .type "ArithmeticError", .type "Exception", .type "BaseException", .type "object"]
  | .re => [.type "RuntimeError", .type "Exception", .type "BaseException", .type "object"]
def XB.nw : XB → String
  | .ve => "ValueError.__new__"
  | .le => "LookupError.__new__"
  | .oe => "OverflowError.__new__"
  | .re => "RuntimeError.__new__"
def XB.nm : XB → String
  | .ve => "ValueError"
  | .le => "LookupError"
  | .oe => "OverflowError"
  | .re => "RuntimeError"
def XB.it : XB → String
  | .ve => "ValueError.__init__"
  | .le => "LookupError.__init__"
  | .oe => "OverflowError.__init__"
  | .re => "RuntimeError.__init__"
def overB (b : XB) : List Value → Bool
  | .ref _ :: r => overB b r
  | l => l == b.tail
def iA (f : Str) (p1 p2 : Pos) : Arguments := { posonlyargs := [], args := [{ arg := "self", annotation := none, pos := p1 }, { arg := f, annotation := none, pos := p2 }], vararg := none, kwonlyargs := [], kw_defaults := [], kwarg := none, defaults := [] }
def iB (f : Str) (q1 q2 q3 q4 : Pos) : List Stmt := [.Assign [.Attribute (.Name "self" q1) f q2] (.Name f q3) q4]
def iS (f : Str) : Scope := { kind := .function, names := [(PySem.Str.ofString "self", .local), (f, .local)], isGenerator := false, isCoroutine := false, more := [] }
end OwnX
end PySem
namespace DL
open PySem PySem.Spec PyProof.Rows L2
abbrev FnV : Type := Option (Str × Str × Arguments × FuncBody × Scope × Addr × List Str × Addr)
def fnV (K : PySem.W.Frag) (a : Addr) : FnV := match K.lookup a with
  | some ⟨_, _, .func fd, _⟩ => some (fd.name, fd.qualname, fd.params, fd.body, fd.scope, fd.globals, fd.closure.map (·.1), fd.builtins)
  | _ => none
abbrev fnT (x qual : Str) (st : Stmt) (cl : List Str) : FnV := some (x, qual, defArgs st, .stmts (defBody st), defScope st, mainGlobals, cl, builtinsNs)
def isNoneV : Value → Bool
  | .none => true
  | _ => false
theorem isNoneV_ok {v : Value} (h : isNoneV v = true) : v = .none := by cases v <;> first | rfl | cases h
def codB (K : PySem.W.Frag) (a : Addr) (q : Str) : Bool := match K.lookup a with
  | some ⟨_, _, .func fd, _⟩ => PySem.W.codeIn K fd.code q && isNoneV fd.defaults
  | _ => false
section
variable {K : PySem.W.Frag}
theorem fun_of {a : Addr} {x qual : Str} {pa : Arguments} {bo : List Stmt} {sc : Scope} (e : fnV K a = some (x, qual, pa, .stmts bo, sc, mainGlobals, [], builtinsNs)) (c : codB K a qual = true) : ∃ oc od kV doc pm an cd ct sl,
    K.lookup a = some ⟨oc, od, .func (PySem.W.fnOf x qual pa bo sc .none kV doc pm an cd ct), sl⟩ ∧ PySem.W.codeIn K cd qual = true := by
  unfold fnV at e
  unfold codB at c
  cases q : K.lookup a with
  | none => rw [q] at c; cases c
  | some o =>
    obtain ⟨oc, od, dt, osl⟩ := o
    rw [q] at c e
    cases dt with
    | func fd =>
      obtain ⟨n1, n2, n3, n4, n5, n6, n7, n8, n9, n10, n11, n12, n13, n14, n15⟩ := fd
      have e2 : (some (n1, n2, n3, n4, n5, n6, n7.map (·.1), n15) : FnV) = some (x, qual, pa, .stmts bo, sc, mainGlobals, [], builtinsNs) := e
      simp only [Option.some.injEq, Prod.mk.injEq, List.map_eq_nil_iff] at e2
      obtain ⟨h1, h2, h3, h4, h5, h6, h7, h8⟩ := e2
      subst h1 h2 h3 h4 h5 h6 h7 h8
      have c2 : (PySem.W.codeIn K n13 n2 && isNoneV n8) = true := c
      rw [Bool.and_eq_true] at c2
      have h9 := isNoneV_ok c2.2
      subst h9
      exact ⟨oc, od, n9, n10, n11, n12, n13, n14, osl, rfl, c2.1⟩
    | _ => cases c
def ccA (K : PySem.W.Frag) (a : Addr) : Addr := match K.lookup a with
  | some ⟨_, _, .func fd, _⟩ => (match fd.closure with
    | [q] => q.2
    | _ => 0)
  | _ => 0
def supB (K : PySem.W.Frag) (a C : Addr) (file : Str) : Bool := match K.lookup a with
  | some ⟨_, _, .func fd, _⟩ => (match fd.code with
    | .ref c => (match K.lookup c with
      | some ⟨_, _, .fields vs, _⟩ => (match (vs[2]? : Option Value) with
        | some (.str f _) => file == f
        | _ => false)
      | _ => false)
    | _ => false) && (match K.lookup (ccA K a) with
    | some ⟨_, _, .cell (some (.ref D)), _⟩ => D == C
    | _ => false)
  | _ => false
theorem funX_of {a C : Addr} {x qual file : Str} {st : Stmt} (e : fnV K a = fnT x qual st ["__class__"]) (c : codB K a qual = true) (s : supB K a C file = true) : ∃ (oc : Value) (od : Option Addr) (kV doc pm : Value) (an : Option Addr) (cda : Addr) (ct : Value) (sl : Array (Option Value)) (cc : Addr) (ccl : Value) (cdd : Option Addr) (vs : Array Value) (ccs : Array (Option Value)) (f : Str) (tf : Tok) (cl : Value) (cld : Option Addr) (csl : Array (Option Value)),
    K.lookup a = some ⟨oc, od, .func (PySem.W.fnX x qual (defArgs st) (defBody st) (defScope st) [("__class__", cc)] .none kV doc pm an (.ref cda) ct), sl⟩ ∧ PySem.W.codeIn K (.ref cda) qual = true ∧
    K.lookup cda = some ⟨ccl, cdd, .fields vs, ccs⟩ ∧ vs[2]? = some (.str f tf) ∧ (file == f) = true ∧ K.lookup cc = some ⟨cl, cld, .cell (some (.ref C)), csl⟩ := by
  unfold fnV at e
  unfold codB at c
  unfold supB at s
  cases q : K.lookup a with
  | none => rw [q] at c; cases c
  | some o =>
    obtain ⟨oc, od, dt, osl⟩ := o
    rw [q] at c e s
    cases dt with
    | func fd =>
      obtain ⟨n1, n2, n3, n4, n5, n6, n7, n8, n9, n10, n11, n12, n13, n14, n15⟩ := fd
      have e2 : (some (n1, n2, n3, n4, n5, n6, n7.map (·.1), n15) : FnV) = fnT x qual st ["__class__"] := e
      simp only [Option.some.injEq, Prod.mk.injEq] at e2
      obtain ⟨h1, h2, h3, h4, h5, h6, h7, h8⟩ := e2
      subst h1 h2 h3 h4 h5 h6 h8
      have c2 : (PySem.W.codeIn K n13 n2 && isNoneV n8) = true := c
      rw [Bool.and_eq_true] at c2
      have h9 := isNoneV_ok c2.2
      subst h9
      match n7, h7 with
      | [], h => exact absurd (congrArg List.length h) (by simp)
      | _ :: _ :: _, h => exact absurd (congrArg List.length h) (by simp)
      | [(nm, cc)], h =>
        have en : nm = "__class__" := (List.cons.inj h).1
        subst en
        have ea : ccA K a = cc := by
          unfold ccA
          rw [q]
        have s2 := s
        rw [ea] at s2
        rw [Bool.and_eq_true] at s2
        obtain ⟨s3, s4⟩ := s2
        cases n13 with
        | ref cda =>
          have s3' : (match K.lookup cda with
            | some ⟨_, _, .fields vs, _⟩ => (match (vs[2]? : Option Value) with
              | some (.str f _) => file == f
              | _ => false)
            | _ => false) = true := s3
          cases qc : K.lookup cda with
          | none => rw [qc] at s3'; cases s3'
          | some oc2 =>
            obtain ⟨ccl, cdd, dt2, ccs⟩ := oc2
            rw [qc] at s3'
            cases dt2 with
            | fields vs =>
              have s5 : (match (vs[2]? : Option Value) with
                | some (.str f _) => file == f
                | _ => false) = true := s3'
              cases qv : vs[2]? with
              | none => rw [qv] at s5; cases s5
              | some v =>
                rw [qv] at s5
                cases v with
                | str f tf =>
                  cases qk : K.lookup cc with
                  | none => rw [qk] at s4; cases s4
                  | some o3 =>
                    obtain ⟨cl, cld, dt3, csl⟩ := o3
                    rw [qk] at s4
                    cases dt3 with
                    | cell v3 =>
                      cases v3 with
                      | none => cases s4
                      | some v3 =>
                        cases v3 with
                        | ref D =>
                          have eD : D = C := beq_iff_eq.mp s4
                          subst eD
                          exact ⟨oc, od, n9, n10, n11, n12, cda, n14, osl, cc, ccl, cdd, vs, ccs, f, tf, cl, cld, csl, rfl, c2.1, qc, qv, s5, qk⟩
                        | _ => cases s4
                    | _ => cases s4
                | _ => cases s5
            | _ => cases s3'
        | _ => cases s3
    | _ => cases c
def xcB (K : PySem.W.Frag) (C : Addr) (b : PySem.OwnX.XB) : Bool := match K.lookup C with
  | some ⟨.type "type", _, .cls cd, sl⟩ => (match cd.mro, sl.toList with
    | .ref C' :: bm, [_, _, _, _, some (.builtin n), _] => (C' == C && n == b.nw) && (!cd.hasDel && (cd.hasDict && PySem.OwnX.overB b bm))
    | _, _ => false)
  | _ => false
def kwN (K : PySem.W.Frag) (a : Addr) : Bool := match K.lookup a with
  | some ⟨_, _, .func fd, _⟩ => isNoneV fd.kwdefaults
  | _ => false
theorem funN_of {a : Addr} {x qual : Str} {pa : Arguments} {bo : List Stmt} {sc : Scope} (e : fnV K a = some (x, qual, pa, .stmts bo, sc, mainGlobals, [], builtinsNs)) (c : codB K a qual = true) (n : kwN K a = true) : ∃ oc od doc pm an cd ct sl,
    K.lookup a = some ⟨oc, od, .func (PySem.W.fnOf x qual pa bo sc .none .none doc pm an cd ct), sl⟩ ∧ PySem.W.codeIn K cd qual = true := by
  obtain ⟨oc, od, kV, doc, pm, an, cd, ct, sl, l, q⟩ := fun_of e c
  have e1 : kV = .none := by
    unfold kwN at n
    rw [l] at n
    exact isNoneV_ok n
  subst e1
  exact ⟨oc, od, doc, pm, an, cd, ct, sl, l, q⟩
def hdA : Option (List Value) → Addr
  | some (.ref f :: _) => f
  | _ => 0
def hdB : Option (List Value) → Bool
  | some (.ref _ :: _) => true
  | _ => false
theorem hdB_ok {o : Option (List Value)} (h : hdB o = true) : ∃ rs, o = some (.ref (hdA o) :: rs) := by
  unfold hdB at h
  split at h
  · exact ⟨_, rfl⟩
  · cases h
def strB (o : Option (Option Value)) (z : Str) : Bool := match o with
  | some (some (.str y _)) => decide (y = z)
  | _ => false
theorem strB_ok {o : Option (Option Value)} {z : Str} (h : strB o z = true) : ∃ t, o = some (some (.str z t)) := by
  unfold strB at h
  split at h
  · exact ⟨_, by rw [of_decide_eq_true h]⟩
  · cases h
def intB (o : Option (Option Value)) (z : Int) : Bool := match o with
  | some (some (.int y _)) => decide (y = z)
  | _ => false
theorem intB_ok {o : Option (Option Value)} {z : Int} (h : intB o z = true) : ∃ t, o = some (some (.int z t)) := by
  unfold intB at h
  split at h
  · exact ⟨_, by rw [of_decide_eq_true h]⟩
  · cases h
end
def isClsO (o : Obj) : Bool := match o.data with
  | .cls _ => true
  | _ => false
def refsF (o : Obj) : List Addr := match o.data with
  | .func fd => He.refV fd.code ++ (He.refV fd.kwdefaults ++ fd.closure.map (·.2))
  | .cls cd => cd.ns :: cd.mro.tail.flatMap He.refV
  | .dict es _ => es.toList.flatMap fun e => He.refV e.val
  | .fields vs => (match o.cls with
    | .type "code" => []
    | _ => vs.toList.flatMap He.refV)
  | _ => []
def nxF (g : Addr → Option Obj) (as : List Addr) : List Addr := as.flatMap fun a => match g a with
  | some o => refsF o
  | none => []
def clF (g : Addr → Option Obj) (b : Bool) (as : List Addr) : List Addr := as.filter fun a => match g a with
  | some o => isClsO o == b
  | none => false
def frA {α : Type} : List Addr → (List Addr → α) → α
  | [], k => k []
  | a :: r, k => HandSHeadRun.frNat a fun a => frA r fun r => k (a :: r)
theorem frA_eq {α : Type} : ∀ (as : List Addr) (k : List Addr → α), frA as k = k as
  | [], _ => rfl
  | a :: r, k => by
    show HandSHeadRun.frNat a (fun a => frA r fun r => k (a :: r)) = _
    rw [HandSHeadRun.frNat_eq, frA_eq r]
def frK {α : Type} (g : Addr → Option Obj) : List Addr → (PySem.W.Frag → α) → α
  | [], k => k []
  | a :: r, k => HandSHeadRun.frNat a fun a => match g a with
    | some o => frK g r fun K => k ((a, o) :: K)
    | none => frK g r k
theorem frK_eq {α : Type} (g : Addr → Option Obj) : ∀ (as : List Addr) (k : PySem.W.Frag → α), frK g as k = k (He.frG g as)
  | [], _ => rfl
  | a :: r, k => by
    show HandSHeadRun.frNat a (fun a => match g a with
      | some o => frK g r fun K => k ((a, o) :: K)
      | none => frK g r k) = _
    rw [HandSHeadRun.frNat_eq]
    unfold He.frG
    rw [List.filterMap_cons]
    cases h : g a with
    | none => exact frK_eq g r k
    | some o => exact frK_eq g r fun K => k ((a, o) :: K)
def asF {α : Type} (g : Addr → Option Obj) (k : List Addr → α) : α :=
  frA (nxF g [mainGlobals]) fun l1 => frA (clF g true l1) fun lc => frA (clF g false l1) fun lf => frA (nxF g lc) fun ln => frA (nxF g ln) fun lm => frA (nxF g lm) fun lx => frA (nxF g lf) fun lk => frA (nxF g lx) fun ly =>
    k (mainGlobals :: cStatics :: (lc ++ (ln ++ (lm ++ (lf ++ (lx ++ (lk ++ ly)))))))
def asL (g : Addr → Option Obj) : List Addr := asF g fun as => as
theorem asF_eq {α : Type} (g : Addr → Option Obj) (k : List Addr → α) : asF g k = k (asL g) := by
  unfold asL asF
  simp only [frA_eq]
def obF {β : Type} (f : PySem.W.Frag → β) (g : Addr → Option Obj) : β := asF g fun as => frK g as f
theorem obF_eq {β : Type} (f : PySem.W.Frag → β) (g : Addr → Option Obj) : obF f g = f (He.frG g (asL g)) := by
  unfold obF
  rw [asF_eq, frK_eq]
abbrev AlH : Type := Bool × List FnV
def hookH (ex : PySem.W.Frag → Bool) (fs : PySem.W.Frag → List FnV) (vs : List FnV) : PySem.W.Hook where
  α := AlH
  obs := fun s => (ex (He.frG s.heap.get? (asL s.heap.get?)), fs (He.frG s.heap.get? (asL s.heap.get?)))
  val := fun _ => (true, vs)
  says := fun _ h => ∃ K : PySem.W.Frag, K.In h ∧ ex K = true ∧ fs K = vs
  of := fun _ _ e => ⟨_, He.frG_in, congrArg (fun z : AlH => z.1) e, congrArg (fun z : AlH => z.2) e⟩
  keeps := fun _ _ _ ⟨K, hK, c⟩ k => ⟨K, PySem.W.Frag.In.keeps hK k, c⟩
def obH (ex : PySem.W.Frag → Bool) (fs : PySem.W.Frag → List FnV) (s : PySem.W.SharedT) : AlH := (obF ex (HandSHeadRun.getT s), obF fs (HandSHeadRun.getT s))
theorem obH_eq {ex : PySem.W.Frag → Bool} {fs : PySem.W.Frag → List FnV} {vs : List FnV} (s : PySem.W.SharedT) : obH ex fs s = (hookH ex fs vs).obs s.abs := by
  have e : HandSHeadRun.getT s = s.abs.heap.get? := funext (HandSHeadRun.getT_eq s)
  unfold obH
  rw [obF_eq, obF_eq, e]
  rfl
open HandSHeadRun in
def PartEq (r : PySem.W.OpenRow) (M : Nat) (w : World) {β : Type} (f : PySem.W.SharedT → β) (v : β) : Prop := ∀ os : OsState, (endF (stepQ (denQ tabQ) r.prog w) M r.prog w os).map f = some v
section
variable {r : PySem.W.OpenRow} {M : Nat} {w : World}
theorem PartEq.pair {β γ : Type} {f : PySem.W.SharedT → β} {g : PySem.W.SharedT → γ} {v : β} {u : γ} (a : PartEq r M w f v) (b : PartEq r M w g u) : PartEq r M w (fun s => (f s, g s)) (v, u) := fun os => by
  have h1 := a os
  have h2 := b os
  cases e : HandSHeadRun.endF (HandSHeadRun.stepQ (HandSHeadRun.denQ HandSHeadRun.tabQ) r.prog w) M r.prog w os with
  | none => rw [e] at h1; cases h1
  | some s =>
    rw [e] at h1 h2
    have e1 := Option.some.inj h1
    have e2 := Option.some.inj h2
    show some (f s, g s) = some (v, u)
    rw [e1, e2]
theorem PartEq.app {f g : PySem.W.Frag → List FnV} {vs us : List FnV} (a : PartEq r M w (fun s => obF f (HandSHeadRun.getT s)) vs) (b : PartEq r M w (fun s => obF g (HandSHeadRun.getT s)) us) : PartEq r M w (fun s => obF (fun K => f K ++ g K) (HandSHeadRun.getT s)) (vs ++ us) := fun os => by
  have h1 := a os
  have h2 := b os
  cases e : HandSHeadRun.endF (HandSHeadRun.stepQ (HandSHeadRun.denQ HandSHeadRun.tabQ) r.prog w) M r.prog w os with
  | none => rw [e] at h1; cases h1
  | some s =>
    rw [e] at h1 h2
    have e1 : obF f (HandSHeadRun.getT s) = vs := Option.some.inj h1
    have e2 : obF g (HandSHeadRun.getT s) = us := Option.some.inj h2
    show some (obF (fun K => f K ++ g K) (HandSHeadRun.getT s)) = some (vs ++ us)
    rw [obF_eq] at e1 e2 ⊢
    show some (f _ ++ g _) = some (vs ++ us)
    rw [e1, e2]
open PySem.W PySem.Calls PyProof.Rows in
theorem PartEq.run {q : Program} {loose : List PySem.Str} {ex : PySem.W.Frag → Bool} {fs : PySem.W.Frag → List FnV} {vs : List FnV}
    (a : PartEq r M w (fun s => (HandSHeadRun.looksF r.prog (boot_heap w.params) s.abs, HandSHeadRun.seenQ q loose (importedModules r.prog.main.body) (fun s => xlAt q [] s && recOk r.toRowW.records s) s.abs)) (true, openGood q loose))
    (b : PartEq r M w (fun s => obF ex (HandSHeadRun.getT s)) true) (c : PartEq r M w (fun s => obF fs (HandSHeadRun.getT s)) vs) : HandSHeadRun.RunEq r q (hookH ex fs vs) (obH ex fs) M loose w := fun os => by
  have h := (a.pair (b.pair c)) os
  cases e : HandSHeadRun.endF (HandSHeadRun.stepQ (HandSHeadRun.denQ HandSHeadRun.tabQ) r.prog w) M r.prog w os with
  | none => rw [e] at h; cases h
  | some s =>
    rw [e] at h
    have h1 := Option.some.inj h
    simp only [Prod.mk.injEq] at h1
    obtain ⟨⟨a1, a2⟩, b1, c1⟩ := h1
    exact congrArg some (Prod.ext a1 (Prod.ext a2 (Prod.ext b1 c1)))
end
abbrev gA (K : PySem.W.Frag) (x : Str) : Addr := He.ga K x
abbrev mA (K : PySem.W.Frag) (c m : Str) : Addr := He.ma K (He.ga K c) m
def ngB (K : PySem.W.Frag) (x : Str) : Bool := decide (PySem.W.nsIn K mainGlobals x = some (some (.ref (gA K x))))
def nnB (K : PySem.W.Frag) (x : Str) : Bool := decide (PySem.W.nsIn K mainGlobals x = some none)
def fcB (K : PySem.W.Frag) (a : Addr) : Bool := match K.lookup a with
  | some ⟨_, _, .func fd, _⟩ => (PySem.W.codeIn K fd.code fd.qualname && isNoneV fd.defaults) && PySem.W.keepIn K (.ref a)
  | _ => false
def clB (K : PySem.W.Frag) (c : Str) : Bool := ngB K c && (PySem.W.plainGet K (gA K c) Str.empty && (PySem.W.hasDictIn K (gA K c) && (PySem.W.plainOver K (gA K c) && (decide (PySem.W.findIn K (.ref (gA K c)) "__setattr__" = some (some (.builtin "object.__setattr__"))) && (decide (PySem.W.findIn K (.ref (gA K c)) "__class__" = some (some (.builtin "object.__class__"))) &&
  (decide (PySem.W.specialIn K (.builtin "object.__class__") "__get__" = some (some (.builtin "getset_descriptor.__get__"))) && (decide (PySem.W.takesIn K (.builtin "object.__class__") = some true) && decide (PySem.W.mroIn K (gA K c) (.type "object") = some true))))))))
def naB (K : PySem.W.Frag) (c : Str) (fs : List Str) : Bool := fs.all fun f => decide (PySem.W.findIn K (.ref (gA K c)) f = some none)
def mtB (K : PySem.W.Frag) (c m : Str) (a : Addr) : Bool := decide (PySem.W.findIn K (.ref (gA K c)) m = some (some (.ref a))) && PySem.W.isFn K (.ref a)
def mkB (K : PySem.W.Frag) (c : Str) : Bool := mtB K c "__init__" (mA K c "__init__") && (PySem.W.makesIn K (gA K c) && PySem.W.keepIn K (.ref (gA K c)))
abbrev prA (K : PySem.W.Frag) (c m : Str) : Addr := hdA (PySem.W.recIn K (mA K c m) "property")
def prB (K : PySem.W.Frag) (c m : Str) : Bool := decide (PySem.W.findIn K (.ref (gA K c)) m = some (some (.ref (mA K c m)))) && (decide (PySem.W.specialIn K (.ref (mA K c m)) "__get__" = some (some (.builtin "property.__get__"))) && (decide (PySem.W.takesIn K (.ref (mA K c m)) = some true) && hdB (PySem.W.recIn K (mA K c m) "property")))
def xB (K : PySem.W.Frag) (x f : Str) (b : PySem.OwnX.XB) : Bool := ngB K x && (xcB K (gA K x) b && (decide (PySem.W.findIn K (.ref (gA K x)) "__setattr__" = some (some (.builtin "object.__setattr__"))) && (decide (PySem.W.findIn K (.ref (gA K x)) "__getattribute__" = some (some (.builtin "BaseException.__getattribute__"))) &&
  (decide (PySem.W.findIn K (.ref (gA K x)) "__getattr__" = some none) && (decide (PySem.W.findIn K (.ref (gA K x)) f = some none) && (decide (PySem.W.findIn K (.ref (gA K x)) "__init__" = some (some (.ref (mA K x "__init__")))) && (decide (PySem.W.typeIn K (.ref (mA K x "__init__")) = some (.type "function")) &&
  (PySem.W.keepIn K (.ref (gA K x)) && (decide (PySem.W.subIn K (.ref (gA K x)) (.type "BaseException") = some true) && (decide (PySem.W.typeIn K (.ref (gA K x)) = some (.type "type")) && (PySem.W.hasDictIn K (gA K x) && (PySem.W.isClsIn K (gA K x) && (decide (PySem.W.subIn K (.ref (gA K x)) (.ref (gA K x)) = some true) && kwN K (mA K x "__init__"))))))))))))))
def suB (K : PySem.W.Frag) (c : Str) (a : Addr) : Bool := PySem.W.isClsIn K (gA K c) && (decide (PySem.W.mroIn K (gA K c) (.ref (gA K c)) = some true) && (decide (PySem.W.typeIn K (.ref a) = some (.type "function")) && decide (PySem.W.ks_superIn K (gA K c) (gA K c) "__init__" = some (some (.ref a)))))
def gsB (K : PySem.W.Frag) (c s : Str) : Bool := strB (PySem.W.nsIn K mainGlobals c) s
def giB (K : PySem.W.Frag) (c : Str) (i : Int) : Bool := intB (PySem.W.nsIn K mainGlobals c) i
end DL
namespace DL
open PySem PySem.Spec PyProof.Rows L2
end DL
namespace FN
end FN
namespace K06
open PySem L2 DL FN
def top (i : Nat) : Stmt := PySem.Challenge.pw_offeredentry_k06_label_patterns.main.body.getD i (.Pass ⟨0, 0, 0, 0⟩)
def topC (i j : Nat) : Stmt := match top i with
  | .ClassDef _ _ _ body _ _ _ _ _ _ _ => body.getD j (.Pass ⟨0, 0, 0, 0⟩)
  | _ => .Pass ⟨0, 0, 0, 0⟩
abbrev s_is_label : Stmt := top 6
abbrev s_label_shape : Stmt := top 9
abbrev s_label_fits : Stmt := top 10
abbrev s_is_label_text : Stmt := top 13
abbrev s__law_bag : Stmt := top 17
abbrev s__law_take : Stmt := top 18
abbrev s__law_fits : Stmt := top 23
abbrev s_Pattern_init : Stmt := topC 14 0
abbrev s_LabelPattern_str : Stmt := topC 15 3
abbrev s_LabelPattern_has_gap : Stmt := topC 15 4
abbrev s_LabelPattern_fixed : Stmt := topC 15 5
abbrev s__law_of : Stmt := top 19
abbrev s__law_signs : Stmt := top 20
abbrev s_LabelPattern_init : Stmt := topC 15 0
abbrev s_LabelPattern_contains : Stmt := topC 15 1
abbrev s__law_label : Stmt := top 21
abbrev s__law_glob : Stmt := top 22
abbrev s__law_grown : Stmt := top 24
abbrev s__law_is_right : Stmt := top 25
abbrev s_law : Stmt := top 26
def nm0L : List Str := ["is_label", "label_shape", "label_fits", "is_label_text", "_law_bag", "_law_take", "_law_fits", "_law_of", "_law_signs", "_law_label", "_law_glob", "_law_grown", "_law_is_right", "law"]
def zsL : List Str := ["abs", "any", "enumerate", "int", "isinstance", "len", "list", "max", "min", "range", "repr", "str", "super", "tuple"]
def clsL : List Str := ["LabelPattern"]
def fa0 (K : PySem.W.Frag) : List Addr := [(gA K "is_label"), (gA K "label_shape"), (gA K "label_fits"), (gA K "is_label_text"), (gA K "_law_bag"), (gA K "_law_take"), (gA K "_law_fits"), (mA K "Pattern" "__init__"), (mA K "LabelPattern" "__str__"), (prA K "LabelPattern" "has_gap"), (prA K "LabelPattern" "fixed")]
def fv0 : List FnV := [fnT "is_label" "is_label" s_is_label [], fnT "label_shape" "label_shape" s_label_shape [], fnT "label_fits" "label_fits" s_label_fits [], fnT "is_label_text" "is_label_text" s_is_label_text [], fnT "_law_bag" "_law_bag" s__law_bag [], fnT "_law_take" "_law_take" s__law_take [], fnT "_law_fits" "_law_fits" s__law_fits [], fnT "__init__" "Pattern.__init__" s_Pattern_init [], fnT "__str__" "LabelPattern.__str__" s_LabelPattern_str [], fnT "has_gap" "LabelPattern.has_gap" s_LabelPattern_has_gap [], fnT "fixed" "LabelPattern.fixed" s_LabelPattern_fixed []]
def fa1 (K : PySem.W.Frag) : List Addr := [(gA K "_law_of"), (gA K "_law_signs"), (mA K "LabelPattern" "__init__"), (mA K "LabelPattern" "__contains__"), (gA K "_law_label"), (gA K "_law_glob"), (gA K "_law_grown"), (gA K "_law_is_right"), (gA K "law"), (mA K "BadPattern" "__init__")]
def fv1 : List FnV := [fnT "_law_of" "_law_of" s__law_of [], fnT "_law_signs" "_law_signs" s__law_signs [], fnT "__init__" "LabelPattern.__init__" s_LabelPattern_init ["__class__"], fnT "__contains__" "LabelPattern.__contains__" s_LabelPattern_contains [], fnT "_law_label" "_law_label" s__law_label [], fnT "_law_glob" "_law_glob" s__law_glob [], fnT "_law_grown" "_law_grown" s__law_grown [], fnT "_law_is_right" "_law_is_right" s__law_is_right [], fnT "law" "law" s_law [], some ("__init__", "BadPattern.__init__", PySem.OwnX.iA "pattern" ⟨7, 17, 7, 21⟩ ⟨7, 23, 7, 30⟩, .stmts (PySem.OwnX.iB "pattern" ⟨8, 8, 8, 12⟩ ⟨8, 8, 8, 20⟩ ⟨8, 23, 8, 30⟩ ⟨8, 8, 8, 30⟩), PySem.OwnX.iS "pattern", mainGlobals, [], builtinsNs)]
def ex0 (K : PySem.W.Frag) : Bool := nm0L.all (ngB K) && ((fa0 K).all (fcB K))
def ex1 (K : PySem.W.Frag) : Bool := (fa1 K).all (fcB K) && (supB K (mA K "LabelPattern" "__init__") (gA K "LabelPattern") PySem.Challenge.pw_offeredentry_k06_label_patterns.main.file && (suB K "LabelPattern" (mA K "Pattern" "__init__")))
def ex2 (K : PySem.W.Frag) : Bool := xB K "BadPattern" "pattern" .ve && (decide (PySem.W.nsIn K cStatics "thirdparty.any" = some none) && (clsL.all (clB K) && (naB K "LabelPattern" ["text", "level", "head", "tail", "gap"] && (mkB K "LabelPattern" && ((prB K "LabelPattern" "fixed" && (prA K "LabelPattern" "fixed" == (prA K "LabelPattern" "fixed"))) && ((prB K "LabelPattern" "has_gap" && (prA K "LabelPattern" "has_gap" == (prA K "LabelPattern" "has_gap"))) && (mtB K "LabelPattern" "__contains__" (mA K "LabelPattern" "__contains__") && (mtB K "LabelPattern" "__str__" (mA K "LabelPattern" "__str__")))))))))
def ex3 (K : PySem.W.Frag) : Bool := zsL.all (nnB K) && (gsB K "CHARACTERS" "0123456789abcdefghijklmnopqrstuvwxyz" && (gsB K "LABEL" "label" && (giB K "LONGEST_LABEL" (20) && (giB K "LONGEST_TEXT" (8)))))
def exs (K : PySem.W.Frag) : Bool := ex0 K && (ex1 K && (ex2 K && (ex3 K)))
end K06
namespace K06
open PySem PySem.W PySem.Calls PyProof.Rows
def names0 : List PySem.Str := ["_wall", "__name__", "BadPattern", "CHARACTERS", "LONGEST_LABEL", "is_label", "LABEL", "label_shape", "label_fits", "LONGEST_TEXT", "is_label_text", "Pattern", "LabelPattern", "_law_bag", "_law_take", "_law_of", "_law_signs", "_law_label", "_law_glob", "_law_fits", "_law_grown", "_law_is_right"]
def names : List PySem.Str := names0
abbrev RR : OpenRow := OpenLaw.row PySem.Challenge.rw_offeredentry_k06_label_patterns
theorem run0a (w : World) : DL.PartEq RR 40000 w (fun s => HandSHeadRun.looksF RR.prog (boot_heap w.params) s.abs) true := by
  intro os
  kernel_rfl
theorem run0b (w : World) : DL.PartEq RR 40000 w (fun s => HandSHeadRun.seenQ (view RR.prog [26]) names (importedModules RR.prog.main.body) (fun s => xlAt (view RR.prog [26]) [] s && recOk RR.toRowW.records s) s.abs) (openGood (view RR.prog [26]) names) := by
  intro os
  kernel_rfl
def fssA (K : PySem.W.Frag) : List DL.FnV := (fa0 K).map (DL.fnV K)
def fvsA : List DL.FnV := fv0
theorem runFA (w : World) : DL.PartEq RR 40000 w (fun s => DL.obF fssA (HandSHeadRun.getT s)) fvsA := by
  intro os
  kernel_rfl
def fssB (K : PySem.W.Frag) : List DL.FnV := (fa1 K).map (DL.fnV K)
def fvsB : List DL.FnV := fv1
theorem runFB (w : World) : DL.PartEq RR 40000 w (fun s => DL.obF fssB (HandSHeadRun.getT s)) fvsB := by
  intro os
  kernel_rfl
def fss (K : PySem.W.Frag) : List DL.FnV := fssA K ++ fssB K
def fvs : List DL.FnV := fvsA ++ fvsB
def gx0 (K : PySem.W.Frag) : Bool := ex0 K && (ex1 K && (ex2 K && (ex3 K)))
theorem runG0 (w : World) : DL.PartEq RR 40000 w (fun s => DL.obF gx0 (HandSHeadRun.getT s)) true := by
  intro os
  kernel_rfl
def gxs (K : PySem.W.Frag) : Bool := gx0 K
theorem run (w : World) : HandSHeadRun.RunEq RR (view RR.prog [26]) (DL.hookH gxs fss fvs) (DL.obH gxs fss) 40000 names w := DL.PartEq.run ((run0a w).pair (run0b w)) (runG0 w) ((runFA w).app (runFB w))
theorem gxs_all {K : PySem.W.Frag} (c : gxs K = true) : exs K = true := by
  unfold gxs gx0 at c
  simp only [Bool.and_eq_true] at c
  unfold exs
  simp only [Bool.and_eq_true, c, and_self]
theorem bareE : RR.prog.bare := ⟨rfl, rfl, rfl, rfl, rfl, by decide +kernel⟩
theorem lawE (h : RR.wellSaid = true → RR.Holds) : PySem.Challenge.rw_offeredentry_k06_label_patterns.Holds := by
  w_on; o_law
  exact h (by assumption)
end K06
namespace DL
open PySem L2
inductive D where
  | non
  | bl (b : Bool)
  | int (i : Int)
  | str (s : List Nat)
  | tup (ds : List D)
  | lst (ds : List D)
  | dic (ks vs : List D)
  | ndc (ks vs : List D)
  | ins (c : Str) (ns : List Str) (ds : List D)
  | scr (is : List Int)
  | xc (a dd : Addr) (f : Str) (d : D)
instance : Inhabited D := ⟨.non⟩
structure Exn where
  c : Str
  f : Str
  d : D
inductive R (α : Type) where
  | ok (a : α)
  | ex (e : Exn)
  | stuck
@[simp] def R.bd {α β : Type} : R α → (α → R β) → R β
  | .ok a, f => f a
  | .ex e, _ => .ex e
  | .stuck, _ => .stuck
instance : Monad R where
  pure := .ok
  bind := R.bd
@[simp] theorem R.pure_eq {α : Type} (a : α) : (pure a : R α) = .ok a := rfl
@[simp] theorem R.bind_eq {α β : Type} (x : R α) (f : α → R β) : (x >>= f) = x.bd f := rfl
structure S where
  x : Int
  y : Int
  z : Int
  l : List Int
  w : Bool
inductive MO (α : Type) where
  | ok (a : α) (s : S)
  | ex (e : Exn) (s : S)
  | stuck
def M (α : Type) : Type := S → MO α
@[simp] def MO.bd {α β : Type} : MO α → (α → M β) → MO β
  | .ok a s, f => f a s
  | .ex e s, _ => .ex e s
  | .stuck, _ => .stuck
instance : Monad M where
  pure := fun a s => .ok a s
  bind := fun x f s => (x s).bd f
theorem M.bind_ap {α β : Type} (x : M α) (f : α → M β) (s : S) : (x >>= f) s = (x s).bd f := rfl
class Mo (m : Type → Type) extends Monad m where
  lift : {α : Type} → R α → m α
  wp : {α : Type} → m α → S → (α → S → Prop) → (Exn → S → Prop) → Prop
  wp_mono : ∀ {α : Type} {x : m α} {s : S} {Q Q' : α → S → Prop} {E E' : Exn → S → Prop}, wp x s Q E → (∀ a s, Q a s → Q' a s) → (∀ e s, E e s → E' e s) → wp x s Q' E'
  wp_pure : ∀ {α : Type} {a : α} {s : S} {Q : α → S → Prop} {E : Exn → S → Prop}, wp (pure a) s Q E → Q a s
  wp_bind : ∀ {α β : Type} {x : m α} {f : α → m β} {s : S} {Q : β → S → Prop} {E : Exn → S → Prop}, wp (x >>= f) s Q E → wp x s (fun a s' => wp (f a) s' Q E) E
  tryC : {α : Type} → m α → (Exn → m α) → m α
  wp_try : ∀ {α : Type} {x : m α} {h : Exn → m α} {s : S} {Q : α → S → Prop} {E : Exn → S → Prop}, wp (tryC x h) s Q E → wp x s Q (fun e s' => wp (h e) s' Q E)
  noex : {α : Type} → m α → m α
  wp_noex : ∀ {α : Type} {x : m α} {s : S} {Q : α → S → Prop} {E : Exn → S → Prop}, wp (noex x) s Q E → wp x s Q (fun _ _ => False)
  wp_lift : ∀ {α : Type} {r : R α} {s : S} {Q : α → S → Prop} {E : Exn → S → Prop}, wp (lift r) s Q E → (match r with | .ok a => Q a s | .ex e => E e s | .stuck => False)
def R.wp {α : Type} (x : R α) (s : S) (Q : α → S → Prop) (E : Exn → S → Prop) : Prop := match x with
  | .ok a => Q a s
  | .ex e => E e s
  | .stuck => False
def MO.wp {α : Type} (x : MO α) (Q : α → S → Prop) (E : Exn → S → Prop) : Prop := match x with
  | .ok a s => Q a s
  | .ex e s => E e s
  | .stuck => False
@[simp] def R.nx {α : Type} : R α → R α
  | .ok a => .ok a
  | .ex _ => .stuck
  | .stuck => .stuck
@[simp] def MO.nx {α : Type} : MO α → MO α
  | .ok a s => .ok a s
  | .ex _ _ => .stuck
  | .stuck => .stuck
def M.nx {α : Type} (x : M α) : M α := fun s => (x s).nx
@[simp] def R.tr {α : Type} : R α → (Exn → R α) → R α
  | .ok a, _ => .ok a
  | .ex e, h => h e
  | .stuck, _ => .stuck
@[simp] def MO.tr {α : Type} : MO α → (Exn → M α) → MO α
  | .ok a s, _ => .ok a s
  | .ex e s, h => h e s
  | .stuck, _ => .stuck
def M.tr {α : Type} (x : M α) (h : Exn → M α) : M α := fun s => (x s).tr h
instance : Mo R where
  tryC := R.tr
  wp_try := fun {α x h s Q E} w => by
    cases x with
    | ok a => exact w
    | ex e => exact w
    | stuck => exact w
  noex := R.nx
  wp_noex := fun {α x s Q E} h => by
    cases x with
    | ok a => exact h
    | ex e => exact h
    | stuck => exact h
  lift := fun x => x
  wp := R.wp
  wp_mono := fun {α x s Q Q' E E'} h hq he => by
    cases x with
    | ok a => exact hq _ _ h
    | ex e => exact he _ _ h
    | stuck => exact h
  wp_pure := fun h => h
  wp_bind := fun {α β x f s Q E} h => by
    cases x with
    | ok a => exact h
    | ex e => exact h
    | stuck => exact h
  wp_lift := fun {α r s Q E} h => by cases r <;> exact h
def liftM' {α : Type} (r : R α) : M α := fun s => match r with
  | .ok a => .ok a s
  | .ex e => .ex e s
  | .stuck => .stuck
instance : Mo M where
  tryC := M.tr
  wp_try := fun {α x h s Q E} w => by
    have w' : ((x s).tr h).wp Q E := w
    show (x s).wp _ _
    cases e : x s with
    | ok a s' => rw [e] at w'; exact w'
    | ex ee s' => rw [e] at w'; exact w'
    | stuck => rw [e] at w'; exact w'
  noex := M.nx
  wp_noex := fun {α x s Q E} h => by
    have h' : ((x s).nx).wp Q E := h
    show (x s).wp _ _
    cases e : x s with
    | ok a s' => rw [e] at h'; exact h'
    | ex ee s' => rw [e] at h'; exact h'
    | stuck => rw [e] at h'; exact h'
  lift := liftM'
  wp := fun x s Q E => (x s).wp Q E
  wp_mono := fun {α x s Q Q' E E'} h hq he => by
    show (x s).wp Q' E'
    have h' : (x s).wp Q E := h
    cases e : x s with
    | ok a s' => rw [e] at h'; exact hq _ _ h'
    | ex ee s' => rw [e] at h'; exact he _ _ h'
    | stuck => rw [e] at h'; exact h'
  wp_pure := fun h => h
  wp_bind := fun {α β x f s Q E} h => by
    have h' : ((x s).bd f).wp Q E := h
    show (x s).wp _ _
    cases e : x s with
    | ok a s' => rw [e] at h'; exact h'
    | ex ee s' => rw [e] at h'; exact h'
    | stuck => rw [e] at h'; exact h'
  wp_lift := fun {α r s Q E} h => by cases r <;> exact h
end DL
namespace DL
open PySem L2
def Sub (H H' : Hp) : Prop := ∀ a o, H a = some o → H' a = some o
theorem Sub.refl (H : Hp) : Sub H H := fun _ _ h => h
theorem Sub.trans {H H1 H2 : Hp} (a : Sub H H1) (b : Sub H1 H2) : Sub H H2 := fun x o h => b x o (a x o h)
theorem Sub.rd {H H' : Hp} {a : Addr} {u : HO} (e : Sub H H') (h : Rd H a u) : Rd H' a u := by
  rcases h with h | ⟨o, h⟩
  · exact .inl (e a _ h)
  · exact .inr ⟨o, e a _ h⟩
theorem Sub.sql {K : PySem.W.Frag} {H H' : Hp} {a : Addr} {xs : List V} (e : Sub H H') (h : SqL K H a xs) : SqL K H' a xs := by
  rcases h with h | h
  · exact .inl (e.rd h)
  · exact .inr h
theorem Sub.sqt {K : PySem.W.Frag} {H H' : Hp} {a : Addr} {xs : List V} (e : Sub H H') (h : SqT K H a xs) : SqT K H' a xs := by
  rcases h with h | h
  · exact .inl (e.rd h)
  · exact .inr h
def ScL (K : PySem.W.Frag) (H : Hp) (a : Addr) (xs : List V) : Prop := (∃ o, H a = some (.frz o (.lst xs))) ∨ ∃ (o : Obj) (its : Array Value) (n : Nat), K.lookup a = some o ∧ o.cls = .type "list" ∧ o.dict = none ∧ o.data = .seq its n ∧ its.size ≤ sizeLine ∧ Vals xs its.toList
theorem ScL.sq {K : PySem.W.Frag} {H : Hp} {a : Addr} {xs : List V} : ScL K H a xs → SqL K H a xs
  | .inl h => .inl (.inr h)
  | .inr h => .inr h
theorem Sub.scl {K : PySem.W.Frag} {H H' : Hp} {a : Addr} {xs : List V} (e : Sub H H') : ScL K H a xs → ScL K H' a xs
  | .inl ⟨o, h⟩ => .inl ⟨o, e _ _ h⟩
  | .inr h => .inr h
class TC where
  T : List NdefX.NTab
  w : World
class WOk [TC] (w : World) : Prop where
  e : w = TC.w
instance [TC] : WOk TC.w := ⟨rfl⟩
mutual
def nkD : D → Option NestedKey
  | .non => some .none
  | .bl b => some (.num (if b = true then 1 else 0))
  | .int i => some (.num i)
  | .str s => some (.text ⟨s.toArray⟩)
  | .tup ds => (nkL ds).map .tup
  | .lst _ => none
  | .dic _ _ => none
  | .ndc _ _ => none
  | .ins _ _ _ => none
  | .scr _ => none
  | .xc _ _ _ _ => none
def nkL : List D → Option (List NestedKey)
  | [] => some []
  | d :: ds => (nkD d).bind fun k => (nkL ds).map fun ks => k :: ks
end
def nkTp : D → Bool
  | .tup _ => true
  | _ => false
def nkT (d : D) : Option NestedKey := match nkD d with
  | some k => if nkTp d = true ∧ k.depth ≤ 8 then some k else none
  | none => none
abbrev NX := NestedKey × Addr × Value
def nEnt (w : World) (x : NX) : DictEntry := ⟨x.1.hash w, .ref x.2.1, x.2.2⟩
def NdO (w : World) (a : Addr) (xs : List NX) (ep : Nat) : HO := .ext fun h => ∃ o es, h.get? a = some o ∧ o.ExactDict ∧ o.data = .dict es ep ∧ es.toList = xs.map (nEnt w)
section
variable (K : PySem.W.Frag) (mg : Str → Option Value) [TC]
mutual
def Is (H : Hp) : D → V → Prop
  | .non, v => v = .non
  | .bl b, v => v = .bl b
  | .int i, v => v = .int i
  | .str s, v => v = .str ⟨s.toArray⟩ ∧ s.length ≤ sizeLine
  | .tup ds, v => ds.length ≤ sizeLine ∧ ∃ a vs, v = .ref a ∧ SqT K H a vs ∧ IsL H ds vs
  | .lst ds, v => ds.length ≤ sizeLine ∧ ∃ a vs, v = .ref a ∧ H a = some (.lst vs) ∧ IsL H ds vs
  | .dic ks ds, v => ∃ a kvs, v = .ref a ∧ Rd H a (.dK kvs) ∧ IsL H ks (kvs.map fun p => kV p.1) ∧ IsL H ds (kvs.map fun p => p.2)
  | .ndc ks ds, v => ∃ a xs vs ep, v = .ref a ∧ H a = some (NdO TC.w a xs ep) ∧ (a == sysModules) = false ∧ xs.length ≤ sizeLine ∧ ks.map nkT = xs.map (fun x => some x.1) ∧ (xs.map (·.1)).Nodup ∧ IsL H ks (xs.map fun x => V.ref x.2.1) ∧ Vals vs (xs.map (·.2.2)) ∧ IsL H ds vs
  | .ins c ns ds, v => ∃ a C dx vs, v = .ref a ∧ mg c = some (.ref C) ∧ H a = some (.ins C dx (ns.zip vs)) ∧ ns.length = vs.length ∧ IsL H ds vs
  | .scr is, v => is.length ≤ sizeLine ∧ ∃ a, v = .ref a ∧ ScL K H a (is.map V.int)
  | .xc a dd f d, v => v = .ref a ∧ ∃ u, H dd = some (.xd [(f, u)]) ∧ Is H d u
def IsL (H : Hp) : List D → List V → Prop
  | [], vs => vs = []
  | d :: ds, vs => ∃ v r, vs = v :: r ∧ Is H d v ∧ IsL H ds r
end
end
section
variable {K : PySem.W.Frag} {mg : Str → Option Value} [TC]
mutual
theorem Is.mono {H H' : Hp} (s : Sub H H') : ∀ {d : D} {v : V}, Is K mg H d v → Is K mg H' d v
  | .non, _, h => h
  | .bl _, _, h => h
  | .int _, _, h => h
  | .str _, _, h => h
  | .tup ds, _, h => by
    obtain ⟨z, a, vs, e, t, l⟩ := h
    exact ⟨z, a, vs, e, s.sqt t, IsL.mono s l⟩
  | .lst ds, _, h => by
    obtain ⟨z, a, vs, e, t, l⟩ := h
    exact ⟨z, a, vs, e, s _ _ t, IsL.mono s l⟩
  | .dic ks ds, _, h => by
    obtain ⟨a, kvs, e, t, l, l'⟩ := h
    exact ⟨a, kvs, e, s.rd t, IsL.mono s l, IsL.mono s l'⟩
  | .ndc ks ds, _, h => by
    obtain ⟨a, xs, vs, ep, e, t, z, zl, n, nd, l, r, l'⟩ := h
    exact ⟨a, xs, vs, ep, e, s _ _ t, z, zl, n, nd, IsL.mono s l, r, IsL.mono s l'⟩
  | .ins c ns ds, _, h => by
    obtain ⟨a, C, dx, vs, e, m, t, n, l⟩ := h
    exact ⟨a, C, dx, vs, e, m, s _ _ t, n, IsL.mono s l⟩
  | .scr is, _, h => by
    obtain ⟨z, a, e, t⟩ := h
    exact ⟨z, a, e, s.scl t⟩
  | .xc a dd f d, _, h => by
    obtain ⟨e, u, q, i⟩ := h
    exact ⟨e, u, s _ _ q, Is.mono s i⟩
theorem IsL.mono {H H' : Hp} (s : Sub H H') : ∀ {ds : List D} {vs : List V}, IsL K mg H ds vs → IsL K mg H' ds vs
  | [], _, h => h
  | d :: ds, _, h => by
    obtain ⟨v, r, e, i, l⟩ := h
    exact ⟨v, r, e, Is.mono s i, IsL.mono s l⟩
end
theorem IsL.nil {H : Hp} : IsL K mg H [] [] := rfl
theorem IsL.cons {H : Hp} {d : D} {ds : List D} {v : V} {vs : List V} (h : Is K mg H d v) (l : IsL K mg H ds vs) : IsL K mg H (d :: ds) (v :: vs) := ⟨v, vs, rfl, h, l⟩
theorem IsL.len {H : Hp} : ∀ {ds : List D} {vs : List V}, IsL K mg H ds vs → ds.length = vs.length
  | [], _, h => by cases h; rfl
  | d :: ds, _, h => by
    obtain ⟨v, r, rfl, _, l⟩ := h
    simp [IsL.len l]
theorem IsL.app {H : Hp} : ∀ {ds es : List D} {vs ws : List V}, IsL K mg H ds vs → IsL K mg H es ws → IsL K mg H (ds ++ es) (vs ++ ws)
  | [], _, _, _, h, l => by cases h; exact l
  | d :: ds, _, _, _, h, l => by
    obtain ⟨v, r, rfl, i, t⟩ := h
    exact ⟨v, r ++ _, rfl, i, IsL.app t l⟩
theorem IsL.get {H : Hp} : ∀ {ds : List D} {vs : List V} {i : Nat} {d : D}, IsL K mg H ds vs → ds[i]? = some d → ∃ v, vs[i]? = some v ∧ Is K mg H d v
  | [], _, _, _, h, e => by simp at e
  | d :: ds, _, 0, _, h, e => by
    obtain ⟨v, r, rfl, i, t⟩ := h
    simp at e; subst e
    exact ⟨v, rfl, i⟩
  | d :: ds, _, i + 1, _, h, e => by
    obtain ⟨v, r, rfl, _, t⟩ := h
    simpa using IsL.get (i := i) t (by simpa using e)
theorem IsL.drop {H : Hp} : ∀ {ds : List D} {vs : List V} (n : Nat), IsL K mg H ds vs → IsL K mg H (ds.drop n) (vs.drop n)
  | _, _, 0, h => h
  | [], _, n + 1, h => by cases h; exact rfl
  | d :: ds, _, n + 1, h => by
    obtain ⟨v, r, rfl, _, t⟩ := h
    exact IsL.drop n t
theorem IsL.take {H : Hp} : ∀ {ds : List D} {vs : List V} (n : Nat), IsL K mg H ds vs → IsL K mg H (ds.take n) (vs.take n)
  | _, _, 0, h => rfl
  | [], _, n + 1, h => by cases h; exact rfl
  | d :: ds, _, n + 1, h => by
    obtain ⟨v, r, rfl, i, t⟩ := h
    exact ⟨v, _, rfl, i, IsL.take n t⟩
theorem IsL.set {H : Hp} {d' : D} {v' : V} (h' : Is K mg H d' v') : ∀ {ds : List D} {vs : List V} (n : Nat), IsL K mg H ds vs → IsL K mg H (ds.set n d') (vs.set n v')
  | [], _, _, h => by cases h; exact rfl
  | d :: ds, _, 0, h => by
    obtain ⟨v, r, rfl, _, t⟩ := h
    exact ⟨v', r, rfl, h', t⟩
  | d :: ds, _, n + 1, h => by
    obtain ⟨v, r, rfl, i, t⟩ := h
    exact ⟨v, _, rfl, i, IsL.set h' n t⟩
theorem IsL.eraseIdx {H : Hp} : ∀ {ds : List D} {vs : List V} (n : Nat), IsL K mg H ds vs → IsL K mg H (ds.eraseIdx n) (vs.eraseIdx n)
  | [], _, _, h => by cases h; exact rfl
  | d :: ds, _, 0, h => by
    obtain ⟨v, r, rfl, _, t⟩ := h
    exact t
  | d :: ds, _, n + 1, h => by
    obtain ⟨v, r, rfl, i, t⟩ := h
    exact ⟨v, _, rfl, i, IsL.eraseIdx n t⟩
theorem IsL.reverse {H : Hp} : ∀ {ds : List D} {vs : List V}, IsL K mg H ds vs → IsL K mg H ds.reverse vs.reverse
  | [], _, h => by cases h; exact rfl
  | d :: ds, _, h => by
    obtain ⟨v, r, rfl, i, t⟩ := h
    rw [List.reverse_cons, List.reverse_cons]
    exact (IsL.reverse t).app (.cons i .nil)
end
section
variable [TC]
def TabOk (H : Hp) : Prop := NdefX.TabsN TC.T H
theorem TabOk.ext {H H' : Hp} (t : TabOk H) (e : ∀ b o, H b = some o → H' b = some o) : TabOk H' := NdefX.TabsN.ext t e
theorem TabOk.new {H : Hp} {p : Addr} {o : HO} (t : TabOk H) (hp : H p = none) : TabOk (upd H p o) := t.ext fun b u e => by rw [upd_ne (ne_of_none e hp)]; exact e
theorem TabOk.ext2 {H H' : Hp} (t : TabOk H) (e : ∀ b o, H b = some o → ((∃ ps, o = .tbl ps) ∨ ∃ q, o = LamX.CodeO b q) → H' b = some o) : TabOk H' := fun q hq => by
  obtain ⟨ps, h1, h2, h3⟩ := t q hq
  refine ⟨ps, e _ _ h1 (.inl ⟨_, rfl⟩), h2, fun pos cv hc => ?_⟩
  obtain ⟨c, e1, e2⟩ := h3 pos cv hc
  exact ⟨c, e1, e _ _ e2 (.inr ⟨_, rfl⟩)⟩
theorem TabOk.upd {H : Hp} {p : Addr} {u o : HO} (t : TabOk H) (hp : H p = some u) (h1 : ∀ ps, u ≠ .tbl ps) (h2 : ∀ q, u ≠ LamX.CodeO p q) : TabOk (L2.upd H p o) := t.ext2 fun b v e k => by
  rw [upd_ne]
  · exact e
  · rintro rfl
    rw [hp] at e
    cases e
    rcases k with ⟨ps, z⟩ | ⟨q, z⟩
    · exact h1 _ z
    · exact h2 _ z
def Pl (H : Hp) (p : Addr) : Prop := ∀ u, H p = some u → (∀ ps, u ≠ .tbl ps) ∧ ∀ q, u ≠ LamX.CodeO p q
theorem nc_lst {p : Addr} {vs : List V} : (∀ ps, HO.lst vs ≠ .tbl ps) ∧ ∀ q, HO.lst vs ≠ LamX.CodeO p q := ⟨fun _ z => (by cases z), fun _ z => (by unfold LamX.CodeO at z; cases z)⟩
theorem nc_dK {p : Addr} {vs : List (Key × V)} : (∀ ps, HO.dK vs ≠ .tbl ps) ∧ ∀ q, HO.dK vs ≠ LamX.CodeO p q := ⟨fun _ z => (by cases z), fun _ z => (by unfold LamX.CodeO at z; cases z)⟩
theorem nc_ins {p C dx : Addr} {vs : List (Str × V)} : (∀ ps, HO.ins C dx vs ≠ .tbl ps) ∧ ∀ q, HO.ins C dx vs ≠ LamX.CodeO p q := ⟨fun _ z => (by cases z), fun _ z => (by unfold LamX.CodeO at z; cases z)⟩
theorem heap_of : ∀ n : Nat, ∃ h : Heap, h.objs.size = n
  | 0 => ⟨{}, rfl⟩
  | n + 1 => by
    obtain ⟨h, e⟩ := heap_of n
    exact ⟨h.push { cls := .none, data := .dict #[] }, by rw [Heap.size_push, e]⟩
theorem nc_nd {w : World} {p : Addr} {xs : List NX} {ep : Nat} : (∀ ps, NdO w p xs ep ≠ .tbl ps) ∧ ∀ q, NdO w p xs ep ≠ LamX.CodeO p q := ⟨fun _ z => (by unfold NdO at z; cases z), fun q z => by
  unfold LamX.CodeO NdO at z
  injection z with z
  obtain ⟨h, e⟩ := heap_of p
  have ho : (h.push ({ cls := .type "dict", data := .dict (xs.map (nEnt w)).toArray ep } : Obj)).get? p = some ({ cls := .type "dict", data := .dict (xs.map (nEnt w)).toArray ep } : Obj) := by
    rw [← e]
    exact Heap.get?_push_size _ rfl
  have z1 := congrFun z (h.push ({ cls := .type "dict", data := .dict (xs.map (nEnt w)).toArray ep } : Obj))
  have z2 : ∃ (oc : Obj) (vs : Array Value) (t : Tok), (h.push ({ cls := .type "dict", data := .dict (xs.map (nEnt w)).toArray ep } : Obj)).get? p = some oc ∧ oc.data = .fields vs ∧ vs[1]? = some (.str q t) := by
    rw [← z1]
    exact ⟨_, _, ho, ⟨rfl, rfl, rfl⟩, rfl, by simp⟩
  obtain ⟨oc, vs, t, e1, e2, _⟩ := z2
  rw [ho] at e1
  cases e1
  cases e2⟩
theorem Pl.none {H : Hp} {p : Addr} (h : H p = none) : Pl H p := fun u e => by rw [h] at e; cases e
theorem Pl.of {H : Hp} {p : Addr} {v : HO} (h : H p = some v) (h1 : ∀ ps, v ≠ .tbl ps) (h2 : ∀ q, v ≠ LamX.CodeO p q) : Pl H p := fun u e => by
  rw [h] at e
  cases e
  exact ⟨h1, h2⟩
theorem Pl.lst {H : Hp} {p : Addr} {vs : List V} (h : H p = some (.lst vs)) : Pl H p := .of h (nc_lst (p := 0)).1 nc_lst.2
theorem Pl.dK {H : Hp} {p : Addr} {vs : List (Key × V)} (h : H p = some (.dK vs)) : Pl H p := .of h (nc_dK (p := 0)).1 nc_dK.2
theorem Pl.nd {w : World} {H : Hp} {p : Addr} {xs : List NX} {ep : Nat} (h : H p = some (NdO w p xs ep)) : Pl H p := .of h nc_nd.1 nc_nd.2
theorem Pl.ins {H : Hp} {p C dx : Addr} {vs : List (Str × V)} (h : H p = some (.ins C dx vs)) : Pl H p := .of h (nc_ins (p := 0)).1 nc_ins.2
theorem TabOk.updP {H : Hp} {p : Addr} {o : HO} (t : TabOk H) (h : Pl H p) : TabOk (L2.upd H p o) := t.ext2 fun b v e k => by
  rw [upd_ne]
  · exact e
  · rintro rfl
    obtain ⟨h1, h2⟩ := h v e
    rcases k with ⟨ps, z⟩ | ⟨q, z⟩
    · exact (h1 _ z).elim
    · exact (h2 _ z).elim
theorem TabOk.ne {H : Hp} (t : TabOk H) {q : NdefX.NTab} (hq : q ∈ TC.T) {p : Addr} {u : HO} (hp : H p = some u) (h1 : ∀ ps, u ≠ .tbl ps) : q.1 ≠ p := fun z => by
  obtain ⟨ps, h, _⟩ := t q hq
  rw [z, hp] at h
  exact h1 _ (Option.some.inj h)
theorem TabOk.at {H : Hp} (t : TabOk H) {q : NdefX.NTab} (hq : q ∈ TC.T) : H q.1 ≠ none := fun z => by
  obtain ⟨ps, h, _⟩ := t q hq
  rw [z] at h
  cases h
def TbF (Hf H : Hp) : Prop := TabOk H ∧ ∀ q ∈ TC.T, Hf q.1 = none
structure SubT (Hf H : Hp) : Prop where
  s : Sub Hf H
  t : TbF Hf H
instance {Hf H : Hp} : CoeFun (SubT Hf H) (fun _ => ∀ a o, Hf a = some o → H a = some o) := ⟨fun x => x.s⟩
instance {Hf H : Hp} : CoeOut (SubT Hf H) (Sub Hf H) := ⟨fun x => x.s⟩
theorem SubT.sqt {K : PySem.W.Frag} {Hf H : Hp} {a : Addr} {xs : List V} (e : SubT Hf H) (h : SqT K Hf a xs) : SqT K H a xs := e.s.sqt h
theorem SubT.sql {K : PySem.W.Frag} {Hf H : Hp} {a : Addr} {xs : List V} (e : SubT Hf H) (h : SqL K Hf a xs) : SqL K H a xs := e.s.sql h
theorem SubT.rd {Hf H : Hp} {a : Addr} {u : HO} (e : SubT Hf H) (h : Rd Hf a u) : Rd H a u := e.s.rd h
theorem SubT.scl {K : PySem.W.Frag} {Hf H : Hp} {a : Addr} {xs : List V} (e : SubT Hf H) (h : ScL K Hf a xs) : ScL K H a xs := e.s.scl h
theorem TbF.upd {Hf H : Hp} {p : Addr} {u o : HO} (t : TbF Hf H) (hp : H p = some u) (h1 : ∀ ps, u ≠ .tbl ps) (h2 : ∀ q, u ≠ LamX.CodeO p q) : TbF Hf (L2.upd H p o) := ⟨t.1.upd hp h1 h2, t.2⟩
theorem TbF.updP {Hf H : Hp} {p : Addr} {o : HO} (t : TbF Hf H) (h : Pl H p) : TbF Hf (L2.upd H p o) := ⟨t.1.updP h, t.2⟩
theorem TbF.new {Hf H : Hp} {p : Addr} {o : HO} (t : TbF Hf H) (hp : H p = none) : TbF Hf (L2.upd H p o) := ⟨t.1.new hp, t.2⟩
theorem TbF.frz {Hf H : Hp} {p : Addr} {u o : HO} (t : TbF Hf H) (hp : H p = some u) (h1 : ∀ ps, u ≠ .tbl ps) : TbF (L2.upd Hf p o) H := ⟨t.1, fun q hq => by rw [upd_ne (t.1.ne hq hp h1)]; exact t.2 q hq⟩
end
def BagAt (bag : List Addr) (H : Hp) (s : S) : Prop := match bag with
  | [] => True
  | [b] => s.w = false ∧ H b = some (.lst [.int s.x, .int s.y])
  | b :: c :: _ => s.w = true ∧ b ≠ c ∧ H b = some (.lst [.ref c, .int s.y, .int s.z]) ∧ H c = some (.lst (s.l.map V.int))
section
variable [TC]
structure Ste (bag : List Addr) (Hf H Hf' H' : Hp) : Prop where
  sub : Sub Hf Hf'
  top : Sub Hf' H'
  keep : ∀ a o, H a = some o → a ∉ bag → (∀ ps, o ≠ .tbl ps) → H' a = some o
  dom : ∀ a, H a ≠ none → H' a ≠ none
  fresh : ∀ a o, Hf' a = some o → Hf a = some o ∨ H a = none
  tab : TabOk H → TabOk H'
theorem Ste.refl {bag : List Addr} {Hf H : Hp} (h : Sub Hf H) : Ste bag Hf H Hf H := ⟨.refl _, h, fun _ _ e _ _ => e, fun _ e => e, fun _ _ e => .inl e, id⟩
theorem Ste.trans {bag : List Addr} {Hf H Hf1 H1 Hf2 H2 : Hp} (a : Ste bag Hf H Hf1 H1) (b : Ste bag Hf1 H1 Hf2 H2) : Ste bag Hf H Hf2 H2 :=
  ⟨a.sub.trans b.sub, b.top, fun x o e n k => b.keep x o (a.keep x o e n k) n k, fun x e => b.dom x (a.dom x e), fun x o e => by
    rcases b.fresh x o e with h | h
    · exact a.fresh x o h
    · refine .inr ?_
      cases q : H x with
      | none => rfl
      | some u => exact absurd h (a.dom x (by rw [q]; simp)), fun t => b.tab (a.tab t)⟩
theorem Ste.wide {bag : List Addr} {Hf H Hf' H' : Hp} (a : Ste [] Hf H Hf' H') : Ste bag Hf H Hf' H' :=
  ⟨a.sub, a.top, fun x o e _ k => a.keep x o e (by simp) k, a.dom, a.fresh, a.tab⟩
theorem Ste.bag {bag : List Addr} {Hf H Hf' H' : Hp} {s : S} (a : Ste [] Hf H Hf' H') (h : BagAt bag H s) : BagAt bag H' s := by
  match bag, h with
  | [], _ => trivial
  | [b], ⟨hw, h⟩ => exact ⟨hw, a.keep _ _ h (by simp) nofun⟩
  | b :: c :: _, ⟨hw, h0, h1, h2⟩ => exact ⟨hw, h0, a.keep _ _ h1 (by simp) nofun, a.keep _ _ h2 (by simp) nofun⟩
theorem Ste.new {bag : List Addr} {Hf H : Hp} {p : Addr} {o : HO} (h : Sub Hf H) (hp : H p = none) : Ste bag Hf H (upd Hf p o) (upd H p o) := by
  have hf : Hf p = none := by
    cases q : Hf p with
    | none => rfl
    | some u => rw [h _ _ q] at hp; cases hp
  refine ⟨fun a u e => ?_, fun a u e => ?_, fun a u e _ _ => ?_, fun a e => ?_, fun a u e => ?_, fun t => t.new hp⟩
  · rw [upd_ne (ne_of_none e hf)]; exact e
  · by_cases q : a = p
    · subst q; rw [upd_same] at e ⊢; exact e
    · rw [upd_ne q] at e ⊢; exact h _ _ e
  · rw [upd_ne (ne_of_none e hp)]; exact e
  · by_cases q : a = p
    · subst q; exact absurd hp e
    · rw [upd_ne q]; exact e
  · by_cases q : a = p
    · subst q; exact .inr hp
    · rw [upd_ne q] at e; exact .inl e
theorem Ste.new' {bag : List Addr} {Hf H : Hp} {p : Addr} {o : HO} (h : Sub Hf H) (hp : H p = none) : Ste bag Hf H Hf (upd H p o) := by
  refine ⟨.refl _, fun a u e => ?_, fun a u e _ _ => ?_, fun a e => ?_, fun a u e => .inl e, fun t => t.new hp⟩
  · have : H a = some u := h _ _ e
    rw [upd_ne (ne_of_none this hp)]; exact this
  · rw [upd_ne (ne_of_none e hp)]; exact e
  · by_cases q : a = p
    · subst q; exact absurd hp e
    · rw [upd_ne q]; exact e
theorem Sub.none {Hf H : Hp} (h : Sub Hf H) {p : Addr} (hp : H p = none) : Hf p = none := by
  cases q : Hf p with
  | none => rfl
  | some u => rw [h _ _ q] at hp; cases hp
theorem SubT.of {Hs Hf H : Hp} (ss : Sub Hs Hf) (t : SubT Hf H) : SubT Hs H := ⟨ss.trans t.s, t.t.1, fun q hq => ss.none (t.t.2 q hq)⟩
theorem SubT.none {Hf H : Hp} (h : SubT Hf H) {p : Addr} (hp : H p = Option.none) : Hf p = Option.none := h.s.none hp
theorem SubT.trans {Hf H H1 : Hp} (h : SubT Hf H) (g : Sub H H1) : Sub Hf H1 := h.s.trans g
inductive Sl where
  | un
  | im (d : D)
  | ow (ds : List D)
  | bg
  | od (ks ds : List D)
  | nd (ks ds : List D)
  | ob (ns : List Str) (ds : List D)
  | rf (a : Addr)
  | o2 (ds es : List D)
  | rw (N : Nat) (ds : List D)
  | ra (N : Nat) (ds : List D)
structure Fx where
  bag : List Addr
  H0 : Hp
  Hf0 : Hp
  W : WX
  gx : Option (List Sl)
  nr : Bool
  me : List Addr
  nas : List Str
section
variable (K : PySem.W.Frag) (mg : Str → Option Value) [TC]
def TokIn (N : Nat) (u : Value) : Prop := ∃ x t, u = .str x t ∧ 0 < t ∧ t < N
def RwP (N : Nat) (vs : List V) (p : Addr) (h : Heap) : Prop := ∃ (its : List Value) (n : Nat), Vals vs its ∧ h.get? p = some { cls := .type "list", data := .seq its.toArray n } ∧ (∀ u ∈ its, TokIn N u) ∧ vs.length ≤ sizeLine
def RwO (N : Nat) (vs : List V) (p : Addr) : HO := .ext (RwP N vs p)
structure O2 (me : List Addr) (H0 : Hp) (bag : List Addr) (Hf H : Hp) (p : Addr) (ds es : List D) : Prop where
  ex : ∃ a b vs ws, me = [p, a, b] ∧ H p = some (.lst [.ref a, .ref b]) ∧ H a = some (.lst vs) ∧ H b = some (.lst ws) ∧ IsL K mg Hf ds vs ∧ IsL K mg Hf es ws
  nd : me.Nodup
  hf : ∀ q ∈ me, Hf q = none
  h0 : ∀ q ∈ me, ∃ l, H0 q = some (.lst l)
  nb : ∀ q ∈ me, q ∉ bag
  sz : ds.length ≤ sizeLine ∧ es.length ≤ sizeLine
def SlOk (fx : Fx) (Hf H : Hp) (o : Option (Option V)) : Sl → Prop
  | .un => True
  | .im d => ∃ v, o = some (some v) ∧ Is K mg Hf d v
  | .ow ds => ∃ p vs, o = some (some (.ref p)) ∧ H p = some (.lst vs) ∧ Hf p = none ∧ fx.H0 p = none ∧ p ∉ fx.bag ∧ IsL K mg Hf ds vs ∧ ds.length ≤ sizeLine
  | .bg => ∃ b r, fx.bag = b :: r ∧ o = some (some (.ref b))
  | .rf a => o = some (some (.ref a))
  | .rw N ds => ∃ p vs, o = some (some (.ref p)) ∧ H p = some (RwO N vs p) ∧ Hf p = none ∧ fx.H0 p = none ∧ p ∉ fx.bag ∧ IsL K mg Hf ds vs
  | .ra N ds => ∃ p vs, o = some (some (.ref p)) ∧ Hf p = some (RwO N vs p) ∧ IsL K mg Hf ds vs
  | .o2 ds es => ∃ p, o = some (some (.ref p)) ∧ O2 K mg fx.me fx.H0 fx.bag Hf H p ds es
  | .od ks ds => ∃ p kvs, o = some (some (.ref p)) ∧ H p = some (.dK kvs) ∧ Hf p = none ∧ fx.H0 p = none ∧ p ∉ fx.bag ∧ IsL K mg Hf ks (kvs.map fun p => kV p.1) ∧ IsL K mg Hf ds (kvs.map fun p => p.2) ∧ ks.length ≤ sizeLine
  | .nd ks ds => ∃ p xs vs ep, o = some (some (.ref p)) ∧ H p = some (NdO TC.w p xs ep) ∧ Hf p = none ∧ fx.H0 p = none ∧ p ∉ fx.bag ∧ (p == sysModules) = false ∧ xs.length ≤ sizeLine ∧ ks.map nkT = xs.map (fun x => some x.1) ∧ (xs.map (·.1)).Nodup ∧ IsL K mg Hf ks (xs.map fun x => V.ref x.2.1) ∧ Vals vs (xs.map (·.2.2)) ∧ IsL K mg Hf ds vs
  | .ob ns ds => ∃ p C dx vs, o = some (some (.ref p)) ∧ H p = some (.ins C dx (ns.zip vs)) ∧ Hf p = none ∧ (p ∈ fx.me ∧ ∃ f0, fx.H0 p = some (.ins C dx f0)) ∧ p ∉ fx.bag ∧ (Cls K C ∧ ∀ f ∈ fx.nas, NoAttr K C f) ∧ ns.length = vs.length ∧ IsL K mg Hf ds vs
def RtOk : Bool → Hp → Hp → Hp → D → V → Prop
  | false, _, Hf', _, d, v => Is K mg Hf' d v
  | true, H0, Hf', H', d, v => ∃ p vs ds, d = .lst ds ∧ v = .ref p ∧ H' p = some (.lst vs) ∧ Hf' p = none ∧ H0 p = none ∧ IsL K mg Hf' ds vs ∧ ds.length ≤ sizeLine
def isOw : Sl → Bool
  | .ow _ => true
  | .od _ _ => true
  | .nd _ _ => true
  | .ob _ _ => true
  | .o2 _ _ => true
  | .rw _ _ => true
  | _ => false
structure StS (fx : Fx) (Hf H : Hp) (σ : L2.St) (G : List Sl) (s : S) : Prop where
  ste : Ste (fx.me ++ fx.bag) fx.Hf0 fx.H0 Hf H
  bag : BagAt fx.bag H s
  bagg : ∀ b ∈ fx.me ++ fx.bag, Hf b = none ∧ H b ≠ none ∧ (b ∈ fx.me → fx.H0 b ≠ none)
  tb : TbF Hf H
  len : σ.length = G.length
  sl : ∀ (i : Nat) (x : Sl), G[i]? = some x → SlOk K mg fx Hf H σ[i]? x
  dis : ∀ (i j : Nat) (x y : Sl) (p : Addr), i ≠ j → G[i]? = some x → G[j]? = some y → isOw x = true → isOw y = true → σ[i]? = some (some (.ref p)) → σ[j]? = some (some (.ref p)) → False
end
section
variable {K : PySem.W.Frag} {mg : Str → Option Value} {fx : Fx} {Hf H Hf' H' : Hp} {σ : L2.St} {G G' : List Sl} {s s' : S} [TC]
theorem StS.bagf (st : StS K mg fx Hf H σ G s) : ∀ b ∈ fx.bag, Hf b = none ∧ H b ≠ none := fun b m => ⟨(st.bagg b (List.mem_append_right _ m)).1, (st.bagg b (List.mem_append_right _ m)).2.1⟩
theorem StS.owNb (st : StS K mg fx Hf H σ G s) {p : Addr} (h0 : fx.H0 p = none) (nb : p ∉ fx.bag) : p ∉ fx.me ++ fx.bag := fun m => by
  rcases List.mem_append.mp m with q | q
  · exact (st.bagg p m).2.2 q h0
  · exact nb q
theorem Ste.wider {bag bag' : List Addr} {Hf H Hf' H' : Hp} (a : Ste bag Hf H Hf' H') : Ste (bag' ++ bag) Hf H Hf' H' :=
  ⟨a.sub, a.top, fun x o e n k => a.keep x o e (fun z => n (List.mem_append_right _ z)) k, a.dom, a.fresh, a.tab⟩
theorem StS.top (st : StS K mg fx Hf H σ G s) : Sub Hf H := st.ste.top
theorem StS.topT (st : StS K mg fx Hf H σ G s) : SubT Hf H := ⟨st.ste.top, st.tb⟩
theorem Ste.stayNone {bag : List Addr} {Hf H Hf' H' : Hp} (a : Ste bag Hf H Hf' H') {p : Addr} (hf : Hf p = none) (h : H p ≠ none) : Hf' p = none := by
  cases q : Hf' p with
  | none => rfl
  | some u =>
    rcases a.fresh _ _ q with z | z
    · rw [hf] at z; cases z
    · exact absurd z h
theorem Ste.subT {bag : List Addr} {Hf H Hf1 H1 : Hp} (st : Ste bag Hf H Hf1 H1) (t : TbF Hf H) : SubT Hf1 H1 := ⟨st.top, st.tab t.1, fun q hq => st.stayNone (t.2 q hq) (t.1.at hq)⟩
theorem rwO_ne {N : Nat} {vs : List V} {p : Addr} : (∀ ps, RwO N vs p ≠ .tbl ps) ∧ ∀ q, RwO N vs p ≠ LamX.CodeO p q := ⟨fun _ z => (by unfold RwO at z; cases z), fun q z => by
  unfold LamX.CodeO RwO at z
  injection z with z
  obtain ⟨h, e⟩ := heap_of p
  have ho : (h.push ({ cls := .none, data := .fields #[.none, .str q 0] } : Obj)).get? p = some ({ cls := .none, data := .fields #[.none, .str q 0] } : Obj) := by
    rw [← e]
    exact Heap.get?_push_size _ rfl
  have z1 := congrFun z (h.push ({ cls := .none, data := .fields #[.none, .str q 0] } : Obj))
  have z2 : RwP N vs p (h.push ({ cls := .none, data := .fields #[.none, .str q 0] } : Obj)) := by
    rw [z1]
    exact ⟨_, _, 0, ho, rfl, by simp⟩
  obtain ⟨its, n, _, h1, _⟩ := z2
  rw [ho] at h1
  cases h1⟩
theorem O2.step (a : Ste fx.bag Hf H Hf' H') {p : Addr} {ds es : List D} (x : O2 K mg fx.me fx.H0 fx.bag Hf H p ds es) : O2 K mg fx.me fx.H0 fx.bag Hf' H' p ds es := by
  obtain ⟨⟨q, r, vs, ws, em, h1, h2, h3, l1, l2⟩, nd, hf, h0, nb, sz⟩ := x
  have m1 : p ∈ fx.me := by rw [em]; simp
  have m2 : q ∈ fx.me := by rw [em]; simp
  have m3 : r ∈ fx.me := by rw [em]; simp
  refine ⟨⟨q, r, vs, ws, em, a.keep _ _ h1 (nb _ m1) nofun, a.keep _ _ h2 (nb _ m2) nofun, a.keep _ _ h3 (nb _ m3) nofun, l1.mono a.sub, l2.mono a.sub⟩, nd, fun z m => ?_, h0, nb, sz⟩
  refine a.stayNone (hf z m) ?_
  rw [em] at m
  simp only [List.mem_cons, List.not_mem_nil, or_false] at m
  rcases m with rfl | rfl | rfl
  · rw [h1]; simp
  · rw [h2]; simp
  · rw [h3]; simp
theorem SlOk.step {o : Option (Option V)} (a : Ste fx.bag Hf H Hf' H') : ∀ {x : Sl}, SlOk K mg fx Hf H o x → SlOk K mg fx Hf' H' o x
  | .un, _ => trivial
  | .im d, ⟨v, e, i⟩ => ⟨v, e, i.mono a.sub⟩
  | .ow ds, ⟨p, vs, e, h, hf, h0, nb, l, z⟩ => ⟨p, vs, e, a.keep _ _ h nb nofun, a.stayNone hf (by rw [h]; simp), h0, nb, l.mono a.sub, z⟩
  | .bg, h => h
  | .rf _, h => h
  | .o2 ds es, ⟨p, e, x⟩ => ⟨p, e, x.step a⟩
  | .rw N ds, ⟨p, vs, e, h, hf, h0, nb, l⟩ => ⟨p, vs, e, a.keep _ _ h nb rwO_ne.1, a.stayNone hf (by rw [h]; simp), h0, nb, l.mono a.sub⟩
  | .ra N ds, ⟨p, vs, e, h, l⟩ => ⟨p, vs, e, a.sub _ _ h, l.mono a.sub⟩
  | .od ks ds, ⟨p, vs, e, h, hf, h0, nb, l, l', z⟩ => ⟨p, vs, e, a.keep _ _ h nb nofun, a.stayNone hf (by rw [h]; simp), h0, nb, l.mono a.sub, l'.mono a.sub, z⟩
  | .nd ks ds, ⟨p, xs, vs, ep, e, h, hf, h0, nb, z, zl, n, nn, l, r, l'⟩ => ⟨p, xs, vs, ep, e, a.keep _ _ h nb nc_nd.1, a.stayNone hf (by rw [h]; simp), h0, nb, z, zl, n, nn, l.mono a.sub, r, l'.mono a.sub⟩
  | .ob ns ds, ⟨p, C, dx, vs, e, h, hf, h0, nb, c, hn, l⟩ => ⟨p, C, dx, vs, e, a.keep _ _ h nb nofun, a.stayNone hf (by rw [h]; simp), h0, nb, c, hn, l.mono a.sub⟩
theorem StS.step (st : StS K mg fx Hf H σ G s) (a : Ste fx.bag Hf H Hf' H') (hb : BagAt fx.bag H' s') : StS K mg fx Hf' H' σ G s' :=
  ⟨st.ste.trans a.wider, hb, fun b m => ⟨a.stayNone (st.bagg b m).1 (st.bagg b m).2.1, a.dom _ (st.bagg b m).2.1, (st.bagg b m).2.2⟩, ⟨a.tab st.tb.1, fun q hq => a.stayNone (st.tb.2 q hq) (st.tb.1.at hq)⟩, st.len, fun i x e => (st.sl i x e).step a, st.dis⟩
def Wk : List Sl → List Sl → Prop
  | [], [] => True
  | x :: xs, y :: ys => (x = y ∨ y = .un) ∧ Wk xs ys
  | _, _ => False
theorem Wk.len : ∀ {G G' : List Sl}, Wk G G' → G.length = G'.length
  | [], [], _ => rfl
  | _ :: _, _ :: _, h => by simp [Wk.len h.2]
  | [], _ :: _, h => h.elim
  | _ :: _, [], h => h.elim
theorem Wk.get : ∀ {G G' : List Sl} {i : Nat} {y : Sl}, Wk G G' → G'[i]? = some y → ∃ x, G[i]? = some x ∧ (x = y ∨ y = .un)
  | [], [], _, _, _, e => by simp at e
  | x :: _, y :: _, 0, _, h, e => by simp at e; subst e; exact ⟨x, rfl, h.1⟩
  | _ :: _, _ :: _, i + 1, _, h, e => by simpa using Wk.get (i := i) h.2 (by simpa using e)
  | [], _ :: _, _, _, h, _ => h.elim
  | _ :: _, [], _, _, h, _ => h.elim
theorem Wk.refl : ∀ (G : List Sl), Wk G G
  | [] => trivial
  | x :: xs => ⟨.inl rfl, Wk.refl xs⟩
theorem StS.weak (st : StS K mg fx Hf H σ G s) (w : Wk G G') : StS K mg fx Hf H σ G' s :=
  ⟨st.ste, st.bag, st.bagg, st.tb, st.len.trans w.len, fun i y e => by
    obtain ⟨x, ex, h⟩ := w.get e
    rcases h with rfl | rfl
    · exact st.sl i x ex
    · trivial, fun i j x y p hij ex ey ox oy => by
    obtain ⟨x', ex', hx⟩ := w.get ex
    obtain ⟨y', ey', hy⟩ := w.get ey
    rcases hx with rfl | rfl
    · rcases hy with rfl | rfl
      · exact st.dis i j _ _ p hij ex' ey' ox oy
      · cases oy
    · cases ox⟩
theorem StS.set {i : Nat} {d : D} {v : V} (st : StS K mg fx Hf H σ G s) (h : Is K mg Hf d v) : StS K mg fx Hf H (σ.set i (some v)) (G.set i (.im d)) s := by
  refine ⟨st.ste, st.bag, st.bagg, st.tb, by simpa using st.len, fun j x e => ?_, fun j k x y p hjk ex ey ox oy e1 e2 => ?_⟩
  · by_cases q : i = j
    · subst q
      have hi : i < G.length := by
        have := (List.getElem?_eq_some_iff.mp e).1
        simpa using this
      rw [List.getElem?_set_self hi] at e
      cases e
      exact ⟨v, List.getElem?_set_self (by rw [st.len]; exact hi), h⟩
    · rw [List.getElem?_set_ne q] at e
      rw [List.getElem?_set_ne q]
      exact st.sl j x e
  · have nj : i ≠ j := by
      rintro rfl
      have hi : i < G.length := by
        have := (List.getElem?_eq_some_iff.mp ex).1
        simpa using this
      rw [List.getElem?_set_self hi] at ex
      cases ex; cases ox
    have nk : i ≠ k := by
      rintro rfl
      have hi : i < G.length := by
        have := (List.getElem?_eq_some_iff.mp ey).1
        simpa using this
      rw [List.getElem?_set_self hi] at ey
      cases ey; cases oy
    rw [List.getElem?_set_ne nj] at ex e1
    rw [List.getElem?_set_ne nk] at ey e2
    exact st.dis j k x y p hjk ex ey ox oy e1 e2
end
theorem BagAt.upd {bag : List Addr} {H : Hp} {s : S} {p : Addr} {o : HO} (h : BagAt bag H s) (nb : p ∉ bag) : BagAt bag (L2.upd H p o) s := by
  match bag, h, nb with
  | [], _, _ => trivial
  | [b], h, nb =>
    have e : H b = some (.lst [.int s.x, .int s.y]) := h.2
    refine ⟨h.1, ?_⟩
    rw [upd_ne (fun z => nb (by simp [z]))]
    exact e
  | b :: c :: r, ⟨hw, h0, h1, h2⟩, nb =>
    refine ⟨hw, h0, ?_, ?_⟩
    · rw [upd_ne (fun z => nb (by simp [z]))]; exact h1
    · rw [upd_ne (fun z => nb (by simp [z]))]; exact h2
section
variable {K : PySem.W.Frag} {mg : Str → Option Value} {fx : Fx} {Hf H : Hp} {σ : L2.St} {G : List Sl} {s : S} [TC]
theorem SlOk.ref {o : Option (Option V)} : ∀ {x : Sl}, isOw x = true → SlOk K mg fx Hf H o x → ∃ p, o = some (some (.ref p)) ∧ H p ≠ none ∧ Hf p = none ∧ p ∉ fx.bag ∧ (fx.H0 p = none ∨ p ∈ fx.me)
  | .un, h, _ => by cases h
  | .im d, h, _ => by cases h
  | .bg, h, _ => by cases h
  | .rf _, h, _ => by cases h
  | .ra _ _, h, _ => by cases h
  | .rw N ds, _, ⟨p, vs, e, h, hf, h0, nb, l⟩ => ⟨p, e, by rw [h]; simp, hf, nb, .inl h0⟩
  | .o2 ds es, _, ⟨p, e, x⟩ => by
    obtain ⟨⟨a, b, vs, ws, em, h1, _⟩, nd, hf, h0, nb, sz⟩ := x
    have m : p ∈ fx.me := by rw [em]; simp
    exact ⟨p, e, by rw [h1]; simp, hf p m, nb p m, .inr m⟩
  | .ow ds, _, ⟨p, vs, e, h, hf, h0, nb, l, z⟩ => ⟨p, e, by rw [h]; simp, hf, nb, .inl h0⟩
  | .od ks ds, _, ⟨p, vs, e, h, hf, h0, nb, l, l', z⟩ => ⟨p, e, by rw [h]; simp, hf, nb, .inl h0⟩
  | .nd ks ds, _, ⟨p, xs, vs, ep, e, h, hf, h0, nb, _⟩ => ⟨p, e, by rw [h]; simp, hf, nb, .inl h0⟩
  | .ob ns ds, _, ⟨p, C, dx, vs, e, h, hf, h0, nb, c, hn, l⟩ => ⟨p, e, by rw [h]; simp, hf, nb, .inr h0.1⟩
def Apart (fx : Fx) (p : Addr) : Prop := p ∉ fx.me ∨ fx.me.head? = some p ∨ (∃ C dx f, fx.H0 p = some (.ins C dx f)) ∨ p ∈ fx.bag
theorem O2.upd {q p : Addr} {u : HO} {ds es : List D} (ap : Apart fx p) (ne : q ≠ p) (x : O2 K mg fx.me fx.H0 fx.bag Hf H q ds es) : O2 K mg fx.me fx.H0 fx.bag Hf (L2.upd H p u) q ds es := by
  obtain ⟨⟨a, b, vs, ws, em, h1, h2, h3, l1, l2⟩, nd, hf, h0, nb, sz⟩ := x
  have np : p ∉ fx.me := by
    rcases ap with z | z | ⟨C, dx, f, z⟩ | z
    · exact z
    · rw [em] at z; cases z; exact absurd rfl ne
    · intro m
      obtain ⟨l, e⟩ := h0 p m
      rw [e] at z; cases z
    · exact fun m => nb p m z
  have n2 : a ≠ p := fun z => np (by rw [em, ← z]; simp)
  have n3 : b ≠ p := fun z => np (by rw [em, ← z]; simp)
  exact ⟨⟨a, b, vs, ws, em, by rw [upd_ne ne]; exact h1, by rw [upd_ne n2]; exact h2, by rw [upd_ne n3]; exact h3, l1, l2⟩, nd, hf, h0, nb, sz⟩
theorem O2.frz {q p : Addr} {u : HO} {ds es : List D} (sb : Sub Hf (L2.upd Hf p u)) (hp : fx.H0 p = none) (x : O2 K mg fx.me fx.H0 fx.bag Hf H q ds es) : O2 K mg fx.me fx.H0 fx.bag (L2.upd Hf p u) H q ds es := by
  obtain ⟨⟨a, b, vs, ws, em, h1, h2, h3, l1, l2⟩, nd, hf, h0, nb, sz⟩ := x
  refine ⟨⟨a, b, vs, ws, em, h1, h2, h3, l1.mono sb, l2.mono sb⟩, nd, fun z m => ?_, h0, nb, sz⟩
  rw [upd_ne fun e => by obtain ⟨l, h⟩ := h0 z m; rw [e, hp] at h; cases h]
  exact hf z m
theorem SlOk.apart {o : Option (Option V)} {p : Addr} (bg : ∀ b ∈ fx.me, fx.H0 b ≠ none) : ∀ {x : Sl}, isOw x = true → SlOk K mg fx Hf H o x → o = some (some (.ref p)) → Apart fx p
  | .un, h, _, _ => by cases h
  | .im d, h, _, _ => by cases h
  | .bg, h, _, _ => by cases h
  | .rf _, h, _, _ => by cases h
  | .ow ds, _, ⟨q, vs, e, h, hf, h0, _⟩, e2 => by rw [e] at e2; cases e2; exact .inl fun m => bg _ m h0
  | .od ks ds, _, ⟨q, vs, e, h, hf, h0, _⟩, e2 => by rw [e] at e2; cases e2; exact .inl fun m => bg _ m h0
  | .nd ks ds, _, ⟨q, xs, vs, ep, e, h, hf, h0, _⟩, e2 => by rw [e] at e2; cases e2; exact .inl fun m => bg _ m h0
  | .ob ns ds, _, ⟨q, C, dx, vs, e, h, hf, h0, _⟩, e2 => by
    rw [e] at e2; cases e2
    obtain ⟨_, f0, z⟩ := h0
    exact .inr (.inr (.inl ⟨C, dx, f0, z⟩))
  | .ra _ _, h, _, _ => by cases h
  | .rw N ds, _, ⟨q, vs, e, h, hf, h0, _⟩, e2 => by rw [e] at e2; cases e2; exact .inl fun m => bg _ m h0
  | .o2 ds es, _, ⟨q, e, x⟩, e2 => by
    rw [e] at e2; cases e2
    obtain ⟨a, b, vs, ws, em, _⟩ := x.ex
    exact .inr (.inl (by rw [em]; rfl))
theorem SlOk.upd {o : Option (Option V)} {p : Addr} {u : HO} (ap : Apart fx p) : ∀ {x : Sl}, (∀ q, isOw x = true → o = some (some (.ref q)) → q ≠ p) → SlOk K mg fx Hf H o x → SlOk K mg fx Hf (L2.upd H p u) o x
  | .un, _, _ => trivial
  | .im d, _, h => h
  | .bg, _, h => h
  | .rf _, _, h => h
  | .o2 ds es, w, ⟨q, e, x⟩ => ⟨q, e, x.upd ap (w q rfl e)⟩
  | .rw N ds, w, ⟨q, vs, e, h, hf, h0, nb, l⟩ => ⟨q, vs, e, by rw [upd_ne (w q rfl e)]; exact h, hf, h0, nb, l⟩
  | .ra N ds, _, h => h
  | .ow ds, w, ⟨q, vs, e, h, hf, h0, nb, l, z⟩ => ⟨q, vs, e, by rw [upd_ne (w q rfl e)]; exact h, hf, h0, nb, l, z⟩
  | .od ks ds, w, ⟨q, vs, e, h, hf, h0, nb, l, l', z⟩ => ⟨q, vs, e, by rw [upd_ne (w q rfl e)]; exact h, hf, h0, nb, l, l', z⟩
  | .nd ks ds, w, ⟨q, xs, vs, ep, e, h, hf, h0, nb, r⟩ => ⟨q, xs, vs, ep, e, by rw [upd_ne (w q rfl e)]; exact h, hf, h0, nb, r⟩
  | .ob ns ds, w, ⟨q, C, dx, vs, e, h, hf, h0, nb, c, hn, l⟩ => ⟨q, C, dx, vs, e, by rw [upd_ne (w q rfl e)]; exact h, hf, h0, nb, c, hn, l⟩
theorem SlOk.frz {o : Option (Option V)} {p : Addr} {u : HO} (sb : Sub Hf (L2.upd Hf p u)) (hp : fx.H0 p = none) : ∀ {x : Sl}, (∀ q, isOw x = true → o = some (some (.ref q)) → q ≠ p) → SlOk K mg fx Hf H o x → SlOk K mg fx (L2.upd Hf p u) H o x
  | .un, _, _ => trivial
  | .im d, _, ⟨v, a, b⟩ => ⟨v, a, b.mono sb⟩
  | .bg, _, h => h
  | .rf _, _, h => h
  | .o2 ds es, w, ⟨q, e, x⟩ => ⟨q, e, x.frz sb hp⟩
  | .rw N ds, w, ⟨q, vs, e, h, hf, h0, nb, l⟩ => ⟨q, vs, e, h, by rw [upd_ne (w q rfl e)]; exact hf, h0, nb, l.mono sb⟩
  | .ra N ds, _, ⟨q, vs, e, h, l⟩ => ⟨q, vs, e, sb _ _ h, l.mono sb⟩
  | .ow ds, w, ⟨q, vs, e, h, hf, h0, nb, l, z⟩ => ⟨q, vs, e, h, by rw [upd_ne (w q rfl e)]; exact hf, h0, nb, l.mono sb, z⟩
  | .od ks ds, w, ⟨q, vs, e, h, hf, h0, nb, l, l', z⟩ => ⟨q, vs, e, h, by rw [upd_ne (w q rfl e)]; exact hf, h0, nb, l.mono sb, l'.mono sb, z⟩
  | .nd ks ds, w, ⟨q, xs, vs, ep, e, h, hf, h0, nb, z, zl, n, nn, l, r, l'⟩ => ⟨q, xs, vs, ep, e, h, by rw [upd_ne (w q rfl e)]; exact hf, h0, nb, z, zl, n, nn, l.mono sb, r, l'.mono sb⟩
  | .ob ns ds, w, ⟨q, C, dx, vs, e, h, hf, h0, nb, c, hn, l⟩ => ⟨q, C, dx, vs, e, h, by rw [upd_ne (w q rfl e)]; exact hf, h0, nb, c, hn, l.mono sb⟩
theorem SlOk.kind {o : Option (Option V)} {p : Addr} : ∀ {x : Sl}, isOw x = true → SlOk K mg fx Hf H o x → o = some (some (.ref p)) → ∃ u, H p = some u ∧ (∀ ps, u ≠ .tbl ps) ∧ ∀ q, u ≠ LamX.CodeO p q
  | .un, h, _, _ => by cases h
  | .im d, h, _, _ => by cases h
  | .bg, h, _, _ => by cases h
  | .rf _, h, _, _ => by cases h
  | .ra _ _, h, _, _ => by cases h
  | .rw N ds, _, ⟨q, vs, e, h, _⟩, e2 => by
    rw [e] at e2
    cases e2
    exact ⟨_, h, rwO_ne⟩
  | .o2 ds es, _, ⟨q, e, x⟩, e2 => by
    rw [e] at e2
    cases e2
    obtain ⟨a, b, vs, ws, em, h1, _⟩ := x.ex
    exact ⟨_, h1, (nc_lst (p := 0)).1, nc_lst.2⟩
  | .ow ds, _, ⟨q, vs, e, h, _⟩, e2 => by
    rw [e] at e2
    cases e2
    exact ⟨_, h, (nc_lst (p := 0)).1, nc_lst.2⟩
  | .od ks ds, _, ⟨q, vs, e, h, _⟩, e2 => by
    rw [e] at e2
    cases e2
    exact ⟨_, h, (nc_dK (p := 0)).1, nc_dK.2⟩
  | .nd ks ds, _, ⟨q, xs, vs, ep, e, h, _⟩, e2 => by
    rw [e] at e2
    cases e2
    exact ⟨_, h, nc_nd.1, nc_nd.2⟩
  | .ob ns ds, _, ⟨q, C, dx, vs, e, h, _⟩, e2 => by
    rw [e] at e2
    cases e2
    exact ⟨_, h, (nc_ins (p := 0)).1, nc_ins.2⟩
theorem StS.updAt {i : Nat} {x x' : Sl} {p : Addr} {u : HO} (st : StS K mg fx Hf H σ G s) (hG : G[i]? = some x) (ox : isOw x = true) (hp : σ[i]? = some (some (.ref p))) (ox' : isOw x' = true) (new : SlOk K mg fx Hf (upd H p u) (some (some (.ref p))) x') :
    StS K mg fx Hf (upd H p u) σ (G.set i x') s := by
  obtain ⟨q, e, h, hf, nb, h0⟩ := (st.sl i _ hG).ref ox
  have eq : q = p := by rw [hp] at e; cases e; rfl
  subst eq
  have hi : i < G.length := (List.getElem?_eq_some_iff.mp hG).1
  obtain ⟨u0, hu0, ku1, ku2⟩ := (st.sl i _ hG).kind ox hp
  have tk : TabOk H → TabOk (upd H q u) := fun tt => tt.upd hu0 ku1 ku2
  clear e
  refine ⟨⟨st.ste.sub, fun a o e => ?_, fun a o e n k => ?_, fun a n => ?_, st.ste.fresh, fun tt => tk (st.ste.tab tt)⟩, st.bag.upd nb, fun b m => ⟨(st.bagg b m).1, ?_, (st.bagg b m).2.2⟩, ⟨tk st.tb.1, st.tb.2⟩, by simpa using st.len, fun j x ex => ?_, fun j k x y r hjk ex ey ox oy e1 e2 => ?_⟩
  · have ne : a ≠ q := fun z => by rw [z, hf] at e; cases e
    rw [upd_ne ne]
    exact st.top a o e
  · have ne : a ≠ q := fun z => by
      rcases h0 with y | y
      · rw [z, y] at e; cases e
      · exact n (List.mem_append_left _ (z ▸ y))
    rw [upd_ne ne]
    exact st.ste.keep a o e n k
  · by_cases ne : a = q
    · rw [ne, upd_same]; simp
    · rw [upd_ne ne]; exact st.ste.dom a n
  · by_cases ne : b = q
    · rw [ne, upd_same]; simp
    · rw [upd_ne ne]
      exact (st.bagg b m).2.1
  · by_cases c : i = j
    · subst c
      rw [List.getElem?_set_self hi] at ex
      cases ex
      rw [hp]
      exact new
    · rw [List.getElem?_set_ne c] at ex
      exact (st.sl j x ex).upd ((st.sl i _ hG).apart (fun b m => (st.bagg b (List.mem_append_left _ m)).2.2 m) ox hp) fun q2 o2 e2 z => st.dis i j _ _ q c hG ex ox o2 hp (by rw [e2, z])
  · have get : ∀ {n : Nat} {z : Sl}, (G.set i x')[n]? = some z → isOw z = true → ∃ z', G[n]? = some z' ∧ isOw z' = true := fun {n z} e o => by
      by_cases c : i = n
      · subst c; exact ⟨_, hG, by assumption⟩
      · rw [List.getElem?_set_ne c] at e; exact ⟨z, e, o⟩
    obtain ⟨x1, ex', ox1⟩ := get ex ox
    obtain ⟨y1, ey', oy1⟩ := get ey oy
    exact st.dis j k x1 y1 r hjk ex' ey' ox1 oy1 e1 e2
theorem StS.new0 (st : StS K mg fx Hf H σ G s) {p : Addr} (h : H p = none) : fx.H0 p = none ∧ p ∉ fx.bag ∧ Hf p = none := by
  refine ⟨?_, fun m => (st.bagf p m).2 h, st.top.none h⟩
  cases q : fx.H0 p with
  | none => rfl
  | some o => exact absurd h (st.ste.dom p (by rw [q]; simp))
theorem StS.owNe (st : StS K mg fx Hf H σ G s) {p : Addr} (h : H p = none) : ∀ (j : Nat) (q : Addr), σ[j]? = some (some (.ref q)) → (∀ x, G[j]? = some x → isOw x = true → q ≠ p) := fun j q e x ex ox z => by
  obtain ⟨q2, e2, h2, _⟩ := (st.sl j _ ex).ref ox
  rw [e] at e2
  cases e2
  rw [z] at h2
  exact h2 h
end
end
end DL
namespace DL
open PySem L2
section
variable (K : PySem.W.Frag) (mg : Str → Option Value) (fx : Fx) [DL.TC]
def ExIs (Hf H : Hp) (e : Exn) (cls : Value) (dd : Option Addr) : Prop :=
  ∃ C a v, mg e.c = some (.ref C) ∧ cls = .ref C ∧ dd = some a ∧ Hf a = some (.xd [(e.f, v)]) ∧ Is K mg Hf e.d v
def EX (G : List Sl) (σ : L2.St) : Exn → S → Prop := fun e s' => ∀ cls dd Hf' H', StS K mg fx Hf' H' σ G s' → ExIs K mg Hf' H' e cls dd → fx.W cls dd σ H'
variable {m : Type → Type} [Mo m] {α β : Type}
def tX (G : List Sl) (rl : Hp → α → β → Prop) (x : m α) (Hf : Hp) (s : S) (σ : L2.St) (H : Hp) (Q : β → Hp → Prop) : Prop :=
  StS K mg fx Hf H σ G s ∧ Mo.wp x s (fun a s' => ∀ b Hf' H', Ste fx.bag Hf H Hf' H' → BagAt fx.bag H' s' → rl Hf' a b → Q b H') (EX K mg fx G σ)
def tG (G : List Sl) (rl : Hp → α → β → Prop) (x : m α) : L2.St → Hp → (β → Hp → Prop) → Prop := fun σ H Q => ∃ Hf s, tX K mg fx G rl x Hf s σ H Q
abbrev tE (G : List Sl) (x : m D) : TE := tG K mg fx G (fun H d v => Is K mg H d v) x
abbrev tT (G : List Sl) (x : m Bool) : TT := tG K mg fx G (fun _ a b => b = a) x
abbrev tA (G : List Sl) (x : m (List D)) : TA := tG K mg fx G (fun H d v => IsL K mg H d v) x
end
section
variable {K : PySem.W.Frag} {mg : Str → Option Value} {fx : Fx} {m : Type → Type} [Mo m] {α β γ δ : Type} {G : List Sl} {rl : Hp → α → β → Prop} {rm : Hp → γ → δ → Prop} [DL.TC]
theorem tX.mono {x : m α} {Hf : Hp} {s : S} {σ : L2.St} {H : Hp} {Q Q' : β → Hp → Prop} (h : tX K mg fx G rl x Hf s σ H Q) (q : ∀ b H', Q b H' → Q' b H') : tX K mg fx G rl x Hf s σ H Q' :=
  ⟨h.1, Mo.wp_mono h.2 (fun a s' k b Hf' H' e bg r => q b H' (k b Hf' H' e bg r)) fun e s' k => k⟩
theorem tX.bind {x : m α} {k : α → m γ} {Hf : Hp} {s : S} {σ : L2.St} {H : Hp} {Q : δ → Hp → Prop} (h : tX K mg fx G rm (x >>= k) Hf s σ H Q) :
    tX K mg fx G rl x Hf s σ H (fun b H1 => ∃ a Hf1 s1, Sub Hf Hf1 ∧ rl Hf1 a b ∧ tX K mg fx G rm (k a) Hf1 s1 σ H1 Q) :=
  ⟨h.1, Mo.wp_mono (Mo.wp_bind h.2) (fun a s1 h1 b Hf1 H1 ste bag r => ⟨a, Hf1, s1, ste.sub, r, h.1.step ste bag,
      Mo.wp_mono h1 (fun c s2 h2 d Hf2 H2 ste2 bag2 r2 => h2 d Hf2 H2 (ste.trans ste2) bag2 r2) fun e s2 h2 => h2⟩)
    fun e s' k => k⟩
theorem tX.pure {a : α} {Hf : Hp} {s : S} {σ : L2.St} {H : Hp} {Q : β → Hp → Prop} (h : tX K mg fx G rl (Pure.pure a : m α) Hf s σ H Q) {b : β} (r : rl Hf a b) : Q b H :=
  (Mo.wp_pure h.2) b Hf H (.refl h.1.top) h.1.bag r
theorem tX.to {x : m α} {Hf : Hp} {s : S} {σ : L2.St} {H : Hp} {Q : β → Hp → Prop} (h : tX K mg fx G rl x Hf s σ H Q) : tG K mg fx G rl x σ H Q := ⟨Hf, s, h⟩
end
def ask {m : Type → Type} [Mo m] {α : Type} (o : Option α) : m α := Mo.lift (match o with | some a => .ok a | none => .stuck)
@[simp] theorem ask_some {α : Type} (a : α) : (ask (some a) : R α) = .ok a := rfl
@[simp] theorem ask_none {α : Type} : (ask (none : Option α) : R α) = .stuck := rfl
@[simp] theorem askM_some {α : Type} (a : α) (s : S) : (ask (some a) : M α) s = .ok a s := rfl
@[simp] theorem askM_none {α : Type} (s : S) : (ask (none : Option α) : M α) s = .stuck := rfl
section
variable {K : PySem.W.Frag} {mg : Str → Option Value} {fx : Fx} {m : Type → Type} [Mo m] {α β : Type} {G : List Sl} {rl : Hp → α → β → Prop} [DL.TC]
theorem tX.ask {o : Option α} {Hf : Hp} {s : S} {σ : L2.St} {H : Hp} {Q : β → Hp → Prop} (h : tX K mg fx G rl (DL.ask o : m α) Hf s σ H Q) :
    ∃ a, o = some a ∧ ∀ b Hf' H', Ste [] Hf H Hf' H' → rl Hf' a b → Q b H' := by
  have h2 := Mo.wp_lift h.2
  cases o with
  | none => exact h2.elim
  | some a => exact ⟨a, rfl, fun b Hf' H' e r => h2 b Hf' H' e.wide (e.bag h.1.bag) r⟩
end
section
variable {X : Cx} [DL.TC]
theorem peI {e : Expr} {t t' : TE} (h : PE X e t) (w : ∀ σ H Q, t' σ H Q → t σ H Q) : PE X e t' := ⟨fun pins s σ H Q I q => h.run pins s σ H Q I (w _ _ _ q)⟩
theorem ptI {e : Expr} {t t' : TT} (h : PT X e t) (w : ∀ σ H Q, t' σ H Q → t σ H Q) : PT X e t' := ⟨fun pins s σ H Q I q => h.run pins s σ H Q I (w _ _ _ q)⟩
theorem pwI {e : Expr} {t t' : TT} (h : PW X e t) (w : ∀ σ H Q, t' σ H Q → t σ H Q) : PW X e t' := ⟨fun wh pins s σ H Q I q => h.run wh pins s σ H Q I (w _ _ _ q)⟩
theorem paI {e : List Expr} {t t' : TA} (h : PA X e t) (w : ∀ σ H Q, t' σ H Q → t σ H Q) : PA X e t' := ⟨fun pos pins s σ H Q I q => h.run pos pins s σ H Q I (w _ _ _ q)⟩
theorem pssI {e : List Stmt} {t t' : TS} (h : PSs X e t) (w : ∀ D σ H, t' D σ H → t D σ H) : PSs X e t' := ⟨fun pins s σ H D I q => h.run pins s σ H D I (w _ _ _ q)⟩
end
section
variable (K : PySem.W.Frag) (mg : Str → Option Value) [DL.TC]
def rD2 (f : D → D → Option D) : R2 := fun x y H Q => ∃ Hf dx dy d, SubT Hf H ∧ Is K mg Hf dx x ∧ Is K mg Hf dy y ∧ f dx dy = some d ∧ ∀ u Hf' H', Ste [] Hf H Hf' H' → Is K mg Hf' d u → Q u H'
def rDs (f : List D → Option D) : List V → Hp → VK → Prop := fun xs H Q => ∃ Hf ds d, SubT Hf H ∧ IsL K mg Hf ds xs ∧ f ds = some d ∧ ∀ u Hf' H', Ste [] Hf H Hf' H' → Is K mg Hf' d u → Q u H'
end
section
variable {X : Cx} {fx : Fx} {m : Type → Type} [Mo m] {G : List Sl} {a b c : Expr} {es : List Expr} {pos : Pos} {x y z : m D} {ys : m (List D)} {f : D → D → Option D} [DL.TC]
theorem de_op {op : Operator} (ho : OpR X (binaryOp op) (rD2 X.K X.mg f)) (ha : PE X a (tE X.K X.mg fx G x)) (hb : PE X b (tE X.K X.mg fx G y)) :
    PE X (.BinOp a op b pos) (tE X.K X.mg fx G (do let u ← x; let v ← y; ask (f u v))) := peI (pe_op ho ha hb) fun σ H Q ⟨Hf, s, h⟩ =>
  (h.bind.mono fun v1 H1 ⟨d1, Hf1, s1, sb1, r1, h1⟩ => (h1.bind.mono fun v2 H2 ⟨d2, Hf2, s2, sb2, r2, h2⟩ => by
    obtain ⟨d, e, q⟩ := h2.ask
    exact ⟨Hf2, d1, d2, d, h2.1.topT, r1.mono sb2, r2, e, q⟩).to).to
theorem de_cmp {op : CmpOp} (ho : OpR X (compareOp op) (rD2 X.K X.mg f)) (ha : PE X a (tE X.K X.mg fx G x)) (hb : PE X b (tE X.K X.mg fx G y)) (hm : behindInMarks op b = false) :
    PE X (.Compare a [op] [b] pos) (tE X.K X.mg fx G (do let u ← x; let v ← y; ask (f u v))) := peI (pe_cmpR ho ha hb hm) fun σ H Q ⟨Hf, s, h⟩ =>
  (h.bind.mono fun v1 H1 ⟨d1, Hf1, s1, sb1, r1, h1⟩ => (h1.bind.mono fun v2 H2 ⟨d2, Hf2, s2, sb2, r2, h2⟩ => by
    obtain ⟨d, e, q⟩ := h2.ask
    exact ⟨Hf2, d1, d2, d, h2.1.topT, r1.mono sb2, r2, e, q⟩).to).to
def bOf : D → Option Bool
  | .bl b => some b
  | _ => none
theorem dt_cmp {op : CmpOp} (ho : OpR X (compareOp op) (rD2 X.K X.mg f)) (ha : PE X a (tE X.K X.mg fx G x)) (hb : PE X b (tE X.K X.mg fx G y)) (hm : behindInMarks op b = false) :
    PT X (.Compare a [op] [b] pos) (tT X.K X.mg fx G (do let u ← x; let v ← y; ask ((f u v).bind bOf))) := ptI (pt_cmpR ho ha hb hm) fun σ H Q ⟨Hf, s, h⟩ =>
  (h.bind.mono fun v1 H1 ⟨d1, Hf1, s1, sb1, r1, h1⟩ => (h1.bind.mono fun v2 H2 ⟨d2, Hf2, s2, sb2, r2, h2⟩ => by
    obtain ⟨k, e, q⟩ := h2.ask
    cases e' : f d1 d2 with
    | none => rw [e'] at e; cases e
    | some d =>
      rw [e'] at e
      cases d with
      | bl b' =>
        have : b' = k := Option.some.inj e
        subst this
        exact ⟨Hf2, d1, d2, _, h2.1.topT, r1.mono sb2, r2, e', fun u Hf' H' st i => ⟨b', i, q b' Hf' H' st rfl⟩⟩
      | _ => cases e).to).to
theorem da_nil : PA X [] (tA X.K X.mg fx G (pure [] : m (List D))) := paI pa_nil fun σ H Q ⟨Hf, s, h⟩ => h.pure rfl
theorem da_cons (ha : PE X a (tE X.K X.mg fx G x)) (hr : PA X es (tA X.K X.mg fx G ys)) (hs : starEach (a :: es) X.env = (false, eval a X.env) :: starEach es X.env := by rfl) :
    PA X (a :: es) (tA X.K X.mg fx G (do let d ← x; let ds ← ys; pure (d :: ds))) := paI (pa_cons ha hr hs) fun σ H Q ⟨Hf, s, h⟩ =>
  (h.bind.mono fun v1 H1 ⟨d1, Hf1, s1, sb1, r1, h1⟩ => (h1.bind.mono fun v2 H2 ⟨d2, Hf2, s2, sb2, r2, h2⟩ => h2.pure (IsL.cons (r1.mono sb2) r2)).to).to
theorem de_callB {g : List D → Option D} {id : String} {n : Str} {p : Pos} {e : Expr} (hc : CallR X (.builtin id) (rDs X.K X.mg g)) (hg : Gl X n) (hm : X.mg n = none) (hv : bootBuiltins n = some (.builtin id)) (ha : PA X (e :: es) (tA X.K X.mg fx G ys))
    (hn : n ≠ "__name__" := by decide) (hdb : (n == ("__debug__" : Str)) = false := by decide) (he : starEach (e :: es) X.env = (false, eval e X.env) :: starEach es X.env := by rfl) (hpl : (backTo pos (starEach es X.env)).any (·.1) = false := by rfl) :
    PE X (.Call (.Name n p) (e :: es) [] pos) (tE X.K X.mg fx G (do let ds ← ys; ask (g ds))) := peI (pe_callB hc hg hm hv ha hn hdb he hpl) fun σ H Q ⟨Hf, s, h⟩ =>
  (h.bind.mono fun v1 H1 ⟨d1, Hf1, s1, sb1, r1, h1⟩ => by
    obtain ⟨d, e, q⟩ := h1.ask
    exact ⟨Hf1, d1, d, h1.1.topT, r1, e, q⟩).to
theorem de_callTy {g : List D → Option D} {T : String} {n : Str} {p : Pos} {e : Expr} (hc : CallR X (.type T) (rDs X.K X.mg g)) (hg : Gl X n) (hm : X.mg n = none) (hv : bootBuiltins n = some (.type T)) (ha : PA X (e :: es) (tA X.K X.mg fx G ys))
    (hn : n ≠ "__name__" := by decide) (hdb : (n == ("__debug__" : Str)) = false := by decide) (he : starEach (e :: es) X.env = (false, eval e X.env) :: starEach es X.env := by rfl) (hpl : (backTo pos (starEach es X.env)).any (·.1) = false := by rfl) :
    PE X (.Call (.Name n p) (e :: es) [] pos) (tE X.K X.mg fx G (do let ds ← ys; ask (g ds))) := peI (pe_callTy hc hg hm hv ha hn hdb he hpl) fun σ H Q ⟨Hf, s, h⟩ =>
  (h.bind.mono fun v1 H1 ⟨d1, Hf1, s1, sb1, r1, h1⟩ => by
    obtain ⟨d, e, q⟩ := h1.ask
    exact ⟨Hf1, d1, d, h1.1.topT, r1, e, q⟩).to
theorem de_var (i : Nat) {d : D} {n : Str} (hG : G[i]? = some (.im d) := by rfl) (hN : X.N[i]? = some n := by rfl) (hv : Vis X.env.scope n := by first | exact Or.inl rfl | exact Or.inr (Or.inl rfl) | exact Or.inr (Or.inr rfl))
    (hd : (n == ("__debug__" : Str)) = false := by decide) (hcd : (n == ("__classdict__" : Str)) = false := by decide) : PE X (.Name n pos) (tE X.K X.mg fx G (pure d : m D)) :=
  peI (pe_var hN hv hd hcd) fun σ H Q ⟨Hf, s, h⟩ => by
    obtain ⟨v, e, i⟩ := h.1.sl i _ hG
    exact ⟨v, e, h.pure i⟩
theorem de_int {j : Nat} {i : Int} : PE X (.Constant (.int i) j pos) (tE X.K X.mg fx G (pure (.int i) : m D)) := peI pe_int fun σ H Q ⟨Hf, s, h⟩ => h.pure (by rw [Is])
theorem de_bl {j : Nat} {i : Bool} : PE X (.Constant (.bool i) j pos) (tE X.K X.mg fx G (pure (.bl i) : m D)) := peI pe_bl fun σ H Q ⟨Hf, s, h⟩ => h.pure (by rw [Is])
theorem de_non {j : Nat} : PE X (.Constant .none j pos) (tE X.K X.mg fx G (pure .non : m D)) := peI pe_non fun σ H Q ⟨Hf, s, h⟩ => h.pure (by rw [Is])
theorem de_str {j : Nat} {t : Str} (l : List Nat) (ht : t = ⟨l.toArray⟩ := by first | rfl | decide +kernel) (hl : l.length ≤ 1000 := by decide) : PE X (.Constant (.str t) j pos) (tE X.K X.mg fx G (pure (.str l) : m D)) :=
  peI pe_str fun σ H Q ⟨Hf, s, h⟩ => h.pure (by rw [Is, ht]; exact ⟨rfl, Nat.le_of_lt (small1000 hl)⟩)
theorem de_glob {n : Str} {u : Value} {v : V} {d : D} (hg : Gl X n) (hm : X.mg n = some u) (r : RelV v u) (hi : Is X.K X.mg (fun _ => none) d v) (hd : (n == ("__debug__" : Str)) = false := by decide) : PE X (.Name n pos) (tE X.K X.mg fx G (pure d : m D)) :=
  peI (pe_glob hg hm r hd) fun σ H Q ⟨Hf, s, h⟩ => h.pure (hi.mono fun a o e => by cases e)
end
end DL
namespace DL
open PySem PySem.Spec PyProof.Rows L2
def Cool (mg : Str → Option Value) (cls : Value) : Prop := mg "BadRule" ≠ some cls
def CXm (P : Program) (w : World) (mg : Str → Option Value) : CXT := fun outer H s E u s' =>
  L2.CX P w outer H s (fun cls d H' => E cls d H' ∧ ¬ Cool mg cls) u s' ∨ L2N.CX P w outer H s E u s'
structure Takes (X : Cx) (W : WX) : Prop where
  hot : L2.Takes X fun cls d σ H => W cls d σ H ∧ ¬ Cool X.mg cls
  new : L2N.Takes X W
section
variable {X : Cx} {W : WX} {E : XK} [DL.TC]
theorem takes_of (hs : X.stack = X.env :: X.outer) (hf : X.env.frame = some X.env.locals) (hex : X.ex = []) {E₁ : Value → Shared → Prop}
    (hx : X.xe = fun e s' => wpAny (model X.prog X.w) X.A (leaving X.env e) (fun _ s'' => CXm X.prog X.w X.mg X.outer X.H_0 X.s_0 E e s'') E₁ s') : Takes X (fun cls d _ H => E cls d H) := by
  refine ⟨fun u s' x => ?_, fun u s' x => ?_⟩
  · rw [hx]
    exact wpAny_mono (L2.XE.leave (W := fun cls d _ H => E cls d H ∧ ¬ Cool X.mg cls) (E := fun cls d H => E cls d H ∧ ¬ Cool X.mg cls) hs hf hex (fun _ _ _ _ h => h) x) (fun _ _ h => .inl h) fun _ _ h => h
  · rw [hx]
    exact wpAny_mono (L2N.XE.leave (W := fun cls d _ H => E cls d H) (E := E) hs hf hex (fun _ _ _ _ h => h) x) (fun _ _ h => .inr h) fun _ _ h => h
theorem passAt (tk : Takes X W) (σ : L2.St) : PassesAt (CXm X.prog X.w X.mg) X σ (WE W σ) := fun pins H s e s' I c => by
  rcases c with c | c
  · exact tk.hot e s' (L2.XE.of_call (E := fun cls d H' => WE W σ cls d H' ∧ ¬ Cool X.mg cls) I (fun _ _ _ h => h) c)
  · exact tk.new e s' (L2N.XE.of_call I (fun _ _ _ h => h) c)
theorem cxm_false {P : Program} {w : World} {mg : Str → Option Value} {outer : List Env} {H : Hp} {s s' : Shared} {e : Value} (h : CXm P w mg outer H s (fun _ _ _ => False) e s') : False := by
  rcases h with h | h
  · obtain ⟨_, _, _, _, _, _, _, _, _, _, _, _, z⟩ := h
    exact z.1
  · obtain ⟨_, _, _, _, _, _, _, _, _, _, _, _, z⟩ := h
    exact z
end
end DL
namespace DL
open PySem L2
inductive Fl (α β : Type) where
  | nx (a : α)
  | rt (d : D)
  | bk (b : β)
  | ct (b : β)
section
variable {m : Type → Type} [Mo m] {α β γ : Type}
def seqF (x : m (Fl α β)) (k : α → m (Fl γ β)) : m (Fl γ β) := do
  match ← x with
  | .nx a => k a
  | .rt d => pure (.rt d)
  | .bk b => pure (.bk b)
  | .ct b => pure (.ct b)
def forF (u : D → Option γ) (xb : α → γ → m (Fl α α)) : List D → α → m (Fl α β)
  | [], a => pure (.nx a)
  | d :: ds, a => do
    let c ← ask (u d)
    match ← xb a c with
    | .nx a' => forF u xb ds a'
    | .ct a' => forF u xb ds a'
    | .bk a' => pure (.nx a')
    | .rt d => pure (.rt d)
end
section
variable (K : PySem.W.Frag) (mg : Str → Option Value) (fx : Fx) [DL.TC]
def GxOk (G : List Sl) : Prop := match fx.gx with
  | none => True
  | some g => Wk G g
def XSt (Hf H : Hp) (σ : L2.St) (s : S) : Prop := match fx.gx with
  | none => Ste (fx.me ++ fx.bag) fx.Hf0 fx.H0 Hf H ∧ BagAt fx.bag H s
  | some g => StS K mg fx Hf H σ g s
def EXS : Exn → S → Prop := fun e s' => ∀ cls dd σ' Hf' H', XSt K mg fx Hf' H' σ' s' → ExIs K mg Hf' H' e cls dd → fx.W cls dd σ' H'
variable {α β : Type}
def FP (Hf : Hp) (ex : α → List Sl) (exb : β → List Sl) (De : Ends) : Fl α β → S → Prop := fun f s' => match f with
  | .nx a => ∀ Hf' H' σ', Sub Hf Hf' → StS K mg fx Hf' H' σ' (ex a) s' → De.nx σ' H'
  | .rt d => ∀ v Hf' H', Ste (fx.me ++ fx.bag) fx.Hf0 fx.H0 Hf' H' → BagAt fx.bag H' s' → RtOk K mg fx.nr fx.H0 Hf' H' d v → De.rt v H'
  | .bk b => ∀ Hf' H' σ', Sub Hf Hf' → StS K mg fx Hf' H' σ' (exb b) s' → De.bk σ' H'
  | .ct b => ∀ Hf' H' σ', Sub Hf Hf' → StS K mg fx Hf' H' σ' (exb b) s' → De.ct σ' H'
variable {m : Type → Type} [Mo m]
def tSX (G : List Sl) (ex : α → List Sl) (exb : β → List Sl) (x : m (Fl α β)) (Hf : Hp) (s : S) (De : Ends) (σ : L2.St) (H : Hp) : Prop :=
  StS K mg fx Hf H σ G s ∧ Mo.wp x s (FP K mg fx Hf ex exb De) (EXS K mg fx)
def tS (G : List Sl) (ex : α → List Sl) (exb : β → List Sl) (x : m (Fl α β)) : TS := fun De σ H => ∃ Hf s, tSX K mg fx G ex exb x Hf s De σ H
end
section
variable {K : PySem.W.Frag} {mg : Str → Option Value} {fx : Fx} {m : Type → Type} [Mo m] {α β γ δ ε : Type} {G G' : List Sl} {ex : α → List Sl} {exb : β → List Sl} {rm : Hp → γ → δ → Prop} [DL.TC]
theorem exs_ex {σ : L2.St} {e : Exn} {s : S} (hx : GxOk fx G) (h : EXS K mg fx e s) : EX K mg fx G σ e s := fun cls dd Hf' H' st xi => by
  refine h cls dd σ Hf' H' ?_ xi
  unfold XSt
  unfold GxOk at hx
  cases q : fx.gx with
  | none => exact ⟨st.ste, st.bag⟩
  | some g =>
    rw [q] at hx
    exact st.weak hx
theorem FP.up {Hf Hf1 : Hp} {De : Ends} {f : Fl α β} {s : S} (sb : Sub Hf Hf1) (h : FP K mg fx Hf ex exb De f s) : FP K mg fx Hf1 ex exb De f s := by
  cases f with
  | nx a => exact fun Hf' H' σ' sb' => h Hf' H' σ' (sb.trans sb')
  | rt d => exact h
  | bk b => exact fun Hf' H' σ' sb' => h Hf' H' σ' (sb.trans sb')
  | ct b => exact fun Hf' H' σ' sb' => h Hf' H' σ' (sb.trans sb')
theorem tSX.to {x : m (Fl α β)} {Hf : Hp} {s : S} {σ : L2.St} {H : Hp} {De : Ends} (h : tSX K mg fx G ex exb x Hf s De σ H) : tS K mg fx G ex exb x De σ H := ⟨Hf, s, h⟩
theorem tSX.bind {x : m γ} {k : γ → m (Fl α β)} {Hf : Hp} {s : S} {σ : L2.St} {H : Hp} {De : Ends} (h : tSX K mg fx G ex exb (x >>= k) Hf s De σ H) (hx : GxOk fx G) :
    tX K mg fx G rm x Hf s σ H (fun b H1 => ∃ a Hf1 s1, Sub Hf Hf1 ∧ rm Hf1 a b ∧ tSX K mg fx G ex exb (k a) Hf1 s1 De σ H1) :=
  ⟨h.1, Mo.wp_mono (Mo.wp_bind h.2) (fun a s1 h1 b Hf1 H1 ste bag r => ⟨a, Hf1, s1, ste.sub, r, h.1.step ste bag, Mo.wp_mono h1 (fun f s2 h2 => h2.up ste.sub) fun e s' k => k⟩) fun e s' k => exs_ex hx k⟩
theorem tSX.weak {x : m (Fl α β)} {Hf : Hp} {s : S} {σ : L2.St} {H : Hp} {De : Ends} (h : tSX K mg fx G ex exb x Hf s De σ H) (w : Wk G G') : tSX K mg fx G' ex exb x Hf s De σ H := ⟨h.1.weak w, h.2⟩
theorem tSX.seq {exA : ε → List Sl} {x : m (Fl ε β)} {k : ε → m (Fl α β)} {Hf : Hp} {s : S} {σ : L2.St} {H : Hp} {De : Ends} (h : tSX K mg fx G ex exb (seqF x k) Hf s De σ H) :
    tSX K mg fx G exA exb x Hf s { De with nx := fun σ' H' => ∃ a, tS K mg fx (exA a) ex exb (k a) De σ' H' } σ H :=
  ⟨h.1, Mo.wp_mono (Mo.wp_bind h.2) (fun f s1 h1 => by
    cases f with
    | nx a => exact fun Hf' H' σ' sb st => ⟨a, Hf', s1, st, Mo.wp_mono h1 (fun f s2 h2 => h2.up sb) fun e s' k => k⟩
    | rt d => have z := Mo.wp_pure h1; exact z
    | bk b => have z := Mo.wp_pure h1; exact z
    | ct b => have z := Mo.wp_pure h1; exact z) fun e s' k => k⟩
end
section
variable {X : Cx} [DL.TC]
theorem pss_ex {ι : Type} {sts : List Stmt} {t : ι → TS} (h : ∀ i, PSs X sts (t i)) : PSs X sts (fun D σ H => ∃ i, t i D σ H) := ⟨fun pins s σ H D I ⟨i, q⟩ => (h i).run pins s σ H D I q⟩
structure Cok [DL.TC] (X : Cx) (fx : Fx) (k : Nat) : Prop where
  calm : X.calm = true
  hp : X.stack = X.env :: X.outer → PassesOwn (model X.prog X.w) X.A X.env X.xe
  tk : Takes X fx.W
  rm : Room k X.A
  nd : X.N.Nodup
  gd : X.A.guards = some []
  hw : X.w = TC.w
end
section
variable {X : Cx} {fx : Fx} {m : Type → Type} [Mo m] {α β γ δ ε : Type} {G G' : List Sl} {ex : α → List Sl} {exb : β → List Sl} {exA : ε → List Sl} {rest A B : List Stmt} {pos : Pos} {kk : Nat} {x : m D} {k : D → m (Fl α β)} {e : Expr} {i : Nat} [DL.TC]
theorem dss_nil {a : α} (w : Wk G (ex a)) : PSs X [] (tS X.K X.mg fx G ex exb (pure (.nx a) : m (Fl α β))) := pssI pss_nil fun D σ H ⟨Hf, s, h⟩ =>
  (Mo.wp_pure h.2) Hf H σ (.refl _) (h.1.weak w)
theorem dss_asg (C : Cok X fx kk) {n : Str} {pos' : Pos} (i : Nat) (he : PE X e (tE X.K X.mg fx G x)) (hr : ∀ d, PSs X rest (tS X.K X.mg fx (G.set i (.im d)) ex exb (k d))) (hi : X.N[i]? = some n := by rfl) (hx : Loc X.env.scope n := by first | exact Or.inl rfl | exact Or.inr rfl)
    (hs : swapsWith e (some (.Name n pos')) pos.line X.env = pure false := by rfl) (hf : X.fn n = true ∨ X.env.scope.names.lookup n = some .local := by first | exact .inl rfl | exact .inr rfl) (hg : GxOk fx G := by first | exact True.intro | repeat' (first | exact True.intro | exact Or.inl rfl | exact Or.inr rfl | refine And.intro ?_ ?_)) :
    PSs X (.Assign [.Name n pos'] e pos :: rest) (tS X.K X.mg fx G ex exb (x >>= k)) := pssI (pss_cons (ps_set C.nd hi hx he hs hf) (pss_ex hr)) fun D σ H ⟨Hf, s, h⟩ =>
  ((h.bind hg).mono fun v H1 ⟨d, Hf1, s1, sb, r, h1⟩ => ⟨d, Hf1, s1, h1.1.set r, h1.2⟩).to
theorem dss_ret (he : PE X e (tE X.K X.mg fx G x)) (hnr : fx.nr = false := by rfl) (hg : GxOk fx G := by first | exact True.intro | repeat' (first | exact True.intro | exact Or.inl rfl | exact Or.inr rfl | refine And.intro ?_ ?_)) : PSs X (.Return (some e) pos :: rest) (tS X.K X.mg fx G ex exb (do let d ← x; pure (.rt d))) := pssI (pss_cons (ps_ret he) pss_never) fun D σ H ⟨Hf, s, h⟩ =>
  ((h.bind hg).mono fun v H1 ⟨d, Hf1, s1, sb, r, h1⟩ => (Mo.wp_pure h1.2) v Hf1 H1 h1.1.ste h1.1.bag (by rw [hnr]; exact r)).to
theorem dss_if {c : Expr} {xc : m Bool} {xa xb : m (Fl ε β)} {k : ε → m (Fl α β)} (hc : PT X c (tT X.K X.mg fx G xc)) (ha : PSs X A (tS X.K X.mg fx G exA exb xa)) (hb : PSs X B (tS X.K X.mg fx G exA exb xb)) (hr : ∀ a, PSs X rest (tS X.K X.mg fx (exA a) ex exb (k a))) (hg : GxOk fx G := by first | exact True.intro | repeat' (first | exact True.intro | exact Or.inl rfl | exact Or.inr rfl | refine And.intro ?_ ?_)) :
    PSs X (.If c A B pos :: rest) (tS X.K X.mg fx G ex exb (do let t ← xc; seqF (if t = true then xa else xb) k)) := pssI (pss_cons (ps_if hc ha hb) (pss_ex hr)) fun D σ H ⟨Hf, s, h⟩ =>
  ((h.bind hg).mono fun v H1 ⟨d, Hf1, s1, sb, r, h1⟩ => by
    cases r
    cases v with
    | true => exact h1.seq.to
    | false => exact h1.seq.to).to
end
section
variable (K : PySem.W.Frag) (mg : Str → Option Value) [DL.TC]
def Yl (J : It) (Hf0 : Hp) (ds : List D) : Prop := ds.length ≤ sizeLine ∧ ∀ Hf H, Sub Hf0 Hf → Sub Hf H → ∀ i : Nat,
  (∀ d, ds[i]? = some d → J.go i H ∧ ∀ x H', J.yld i H x H' → ∃ Hf', Ste [] Hf H Hf' H' ∧ Is K mg Hf' d x) ∧ (ds.length ≤ i → J.stop i H)
abbrev tI (fx : Fx) (G : List Sl) {m : Type → Type} [Mo m] (x : m (List D)) : TI := tG K mg fx G (fun Hf ds J => Yl K mg J Hf ds) x
end
section
variable {X : Cx} {fx : Fx} {m : Type → Type} [Mo m] {α β γ : Type} {G G' : List Sl} {ex : α → List Sl} {exb : β → List Sl} {rest body : List Stmt} {pos : Pos} {kk : Nat} [DL.TC]
def PGd (X : Cx) (fx : Fx) (tg : Expr) (g : TG) (u : D → Option γ) (st : List Sl → γ → List Sl) (is : List Nat) : Prop :=
  PG X tg g ∧ ∀ {G : List Sl} {Hf : Hp} {d : D} {v : V} {σ : L2.St} {H : Hp} {s : S} {c : γ} {Q : L2.St → Hp → Prop}, StS X.K X.mg fx Hf H σ G s → Is X.K X.mg Hf d v → u d = some c → (∀ σ', (∀ j, j ∉ is → σ'[j]? = σ[j]?) → σ'.length = σ.length → StS X.K X.mg fx Hf H σ' (st G c) s → Q σ' H) → g v σ H Q
theorem pgd_name (C : Cok X fx kk) (i : Nat) {n : Str} (hi : X.N[i]? = some n := by rfl) (hx : Loc X.env.scope n := by first | exact Or.inl rfl | exact Or.inr rfl) (hf : X.fn n = true ∨ X.env.scope.names.lookup n = some .local := by first | exact .inl rfl | exact .inr rfl) :
    PGd X fx (.Name n pos) (gName i) (fun d => some d) (fun G d => G.set i (.im d)) [i] :=
  ⟨pg_name C.nd hi hx hf, fun {G Hf d v σ H s c Q} st r e q => by
    cases e
    exact q _ (fun j hj => List.getElem?_set_ne (fun z => hj (by simp [z]))) (by simp) (st.set r)⟩
theorem dss_for {ε : Type} {exl : ε → List Sl} {tg iter : Expr} {g : TG} {u : D → Option γ} {st : List Sl → γ → List Sl} {xi : m (List D)} {xb : ε → γ → m (Fl ε ε)} {k : ε → m (Fl α β)} {is : List Nat} (a0 : ε) (C : Cok X fx kk) (hi : PI X tg iter (tI X.K X.mg fx G xi)) (hg : PGd X fx tg g u st is)
    (w : Wk G (exl a0)) (hb : ∀ a c, PSs X body (tS X.K X.mg fx (st (exl a) c) exl exl (xb a c))) (hr : ∀ a, PSs X rest (tS X.K X.mg fx (exl a) ex exb (k a))) (hs : ∀ x, foldedSetIterable iter X.env x = pure x := by intro _; rfl) (hst : X.stack = X.env :: X.outer := by rfl) (hx : GxOk fx G := by first | exact True.intro | repeat' (first | exact True.intro | exact Or.inl rfl | exact Or.inr rfl | refine And.intro ?_ ?_)) :
    PSs X (.For tg iter body [] pos :: rest) (tS X.K X.mg fx G ex exb (do let ds ← xi; seqF (forF u xb ds a0) k)) := by
  refine pssI (pss_cons (ps_for (C.hp hst) C.calm hi hg.1 (pss_ex (ι := ε × γ) (t := fun p => tS X.K X.mg fx (st (exl p.1) p.2) exl exl (xb p.1 p.2)) fun p => hb p.1 p.2) hs) (pss_ex hr)) fun D σ H ⟨Hf, s, h⟩ => ?_
  refine ((h.bind hx).mono fun J H1 ⟨ds, Hf1, s1, sb, yl, h1⟩ => ?_).to
  have h2 := h1.seq (exA := exl)
  obtain ⟨st1, w1⟩ := h2
  refine ⟨fun i m σ H => m = ds.length - i ∧ i ≤ ds.length ∧ ∃ a Hf s, Sub Hf1 Hf ∧ StS X.K X.mg fx Hf H σ (exl a) s ∧
    Mo.wp (forF (β := β) u xb (ds.drop i) a) s (FP X.K X.mg fx Hf exl exb { D with nx := fun σ' H' => ∃ a, tS X.K X.mg fx (exl a) ex exb (k a) D σ' H' }) (EXS X.K X.mg fx), ⟨ds.length, by simp, Nat.zero_le _, a0, Hf1, s1, .refl _, st1.weak w, w1⟩, ?_⟩
  rintro i m σ H ⟨rfl, hi, a, Hf2, s2, sb2, st2, w2⟩
  obtain ⟨y1, y2⟩ := yl.2 Hf2 H sb2 st2.top i
  by_cases hlt : i < ds.length
  · obtain ⟨go, yd⟩ := y1 ds[i] (List.getElem?_eq_getElem hlt)
    rw [List.drop_eq_getElem_cons hlt] at w2
    have w3 := Mo.wp_bind w2
    have w4 := Mo.wp_lift w3
    refine .inr ⟨go, fun σ' H' => i + 1 ≤ ds.length ∧ ∃ a Hf s, Sub Hf1 Hf ∧ StS X.K X.mg fx Hf H' σ' (exl a) s ∧
      Mo.wp (forF (β := β) u xb (ds.drop (i + 1)) a) s (FP X.K X.mg fx Hf exl exb { D with nx := fun σ' H' => ∃ a, tS X.K X.mg fx (exl a) ex exb (k a) D σ' H' }) (EXS X.K X.mg fx), fun σ' H' q => ⟨ds.length - (i + 1), by omega, rfl, q⟩, fun x H' y => ?_⟩
    obtain ⟨Hf3, e3, is3⟩ := yd x H' y
    cases q : u ds[i] with
    | none => rw [q] at w4; exact w4.elim
    | some c =>
      rw [q] at w4
      have st3 := st2.step e3.wide (e3.bag st2.bag)
      refine hg.2 st3 is3 q fun σ' _ _ st4 => ?_
      refine ⟨(a, c), Hf3, s2, st4, ?_⟩
      refine Mo.wp_mono (Mo.wp_bind w4) (fun f s5 h5 => ?_) fun e s' k => k
      cases f with
      | nx a' => exact fun Hf' H' σ' sb' st' => ⟨hlt, a', Hf', s5, (sb2.trans e3.sub).trans sb', st', Mo.wp_mono h5 (fun f s2 h2 => h2.up (e3.sub.trans sb')) fun e s' k => k⟩
      | ct a' => exact fun Hf' H' σ' sb' st' => ⟨hlt, a', Hf', s5, (sb2.trans e3.sub).trans sb', st', Mo.wp_mono h5 (fun f s2 h2 => h2.up (e3.sub.trans sb')) fun e s' k => k⟩
      | bk a' => have z := Mo.wp_pure h5; exact fun Hf' H' σ' sb' => z Hf' H' σ' (e3.sub.trans sb')
      | rt d => have z := Mo.wp_pure h5; exact z
  · have e : i = ds.length := by omega
    subst e
    refine .inl ⟨y2 (Nat.le_refl _), ?_⟩
    rw [List.drop_length] at w2
    exact (Mo.wp_pure w2) Hf2 H σ (.refl _) st2
end
end DL
namespace DL
open PySem L2
def runR (nr : Bool) : R (Fl Unit Empty) → R D
  | .ok (.nx _) => if nr = true then .stuck else .ok .non
  | .ok (.rt d) => .ok d
  | .ok (.bk b) => b.elim
  | .ok (.ct b) => b.elim
  | .ex e => .ex e
  | .stuck => .stuck
def runM (nr : Bool) (x : M (Fl Unit Empty)) : M D := fun s => match x s with
  | .ok (.nx _) s => if nr = true then .stuck else .ok .non s
  | .ok (.rt d) s => .ok d s
  | .ok (.bk b) _ => b.elim
  | .ok (.ct b) _ => b.elim
  | .ex e s => .ex e s
  | .stuck => .stuck
def unG (N : List Str) : List Sl := N.map fun _ => .un
def G0 (N : List Str) (ds : List D) : List Sl := ds.map Sl.im ++ List.replicate (N.length - ds.length) .un
def G1 (N : List Str) (ds : List D) : List Sl := .bg :: (ds.map Sl.im ++ List.replicate (N.length - ds.length - 1) .un)
abbrev fxE (bag : List Addr) (nr : Bool) (H Hf : Hp) (E : XK) : Fx := ⟨bag, H, Hf, fun cls d _ H' => E cls d H', none, nr, [], []⟩
section
variable (K : PySem.W.Frag) (mg : Str → Option Value) [DL.TC]
def spR (nr : Bool) (n : Nat) (g : List D → R D) : Sp := fun vs H Q E => vs.length = n ∧ ∃ Hf ds, SubT Hf H ∧ IsL K mg Hf ds vs ∧ (match g ds with
  | .ok d => ∀ v Hf' H', Ste [] Hf H Hf' H' → RtOk K mg nr H Hf' H' d v → Q v H'
  | .ex e => ∀ cls dd Hf' H', Ste [] Hf H Hf' H' → ExIs K mg Hf' H' e cls dd → E cls dd H'
  | .stuck => False)
def spM (nr : Bool) (n : Nat) (g : List D → M D) : Sp := fun vs H Q E => vs.length = n ∧ ∃ bag b r Hf ds vs' s, bag = b :: r ∧ vs = .ref b :: vs' ∧ SubT Hf H ∧ (∀ b ∈ bag, Hf b = none ∧ H b ≠ none) ∧ BagAt bag H s ∧ IsL K mg Hf ds vs' ∧ (match g ds s with
  | .ok d s' => ∀ v Hf' H', Ste bag Hf H Hf' H' → BagAt bag H' s' → RtOk K mg nr H Hf' H' d v → Q v H'
  | .ex e s' => ∀ cls dd Hf' H', Ste bag Hf H Hf' H' → BagAt bag H' s' → ExIs K mg Hf' H' e cls dd → E cls dd H'
  | .stuck => False)
end
theorem start_at {N : List Str} {vs : List V} {i : Nat} {v : V} (h : vs[i]? = some v) : (start N vs)[i]? = some (some v) := by
  unfold L2.start
  have hl : i < vs.length := (List.getElem?_eq_some_iff.mp h).1
  rw [List.getElem?_append_left (by simpa using hl), List.getElem?_map, h]
  rfl
theorem start_len {N : List Str} {vs : List V} (h : vs.length ≤ N.length) : (start N vs).length = N.length := by
  unfold L2.start
  simp
  omega
theorem isOw_im {ds : List D} {n i : Nat} {x : Sl} (h : (ds.map Sl.im ++ List.replicate n .un)[i]? = some x) (o : isOw x = true) : False := by
  have hm := List.mem_of_getElem? h
  rcases List.mem_append.mp hm with hm | hm
  · obtain ⟨d, _, rfl⟩ := List.mem_map.mp hm
    cases o
  · have := List.eq_of_mem_replicate hm
    subst this
    cases o
theorem rf_im {ds : List D} {n i : Nat} {a : Addr} (h : (ds.map Sl.im ++ List.replicate n .un)[i]? = some (.rf a)) : False := by
  rcases List.mem_append.mp (List.mem_of_getElem? h) with hm | hm
  · obtain ⟨d, _, z⟩ := List.mem_map.mp hm
    cases z
  · have := List.eq_of_mem_replicate hm
    cases this
theorem ra_im {ds : List D} {n i : Nat} {N : Nat} {es : List D} (h : (ds.map Sl.im ++ List.replicate n .un)[i]? = some (.ra N es)) : False := by
  rcases List.mem_append.mp (List.mem_of_getElem? h) with hm | hm
  · obtain ⟨d, _, z⟩ := List.mem_map.mp hm
    cases z
  · have := List.eq_of_mem_replicate hm
    cases this
section
variable {K : PySem.W.Frag} {mg : Str → Option Value} [DL.TC]
theorem slOk_G0 {fx : Fx} {Hf H : Hp} {ds : List D} {vs : List V} {N : List Str} {n : Nat} (l : IsL K mg Hf ds vs) {i : Nat} {x : Sl} (e : (ds.map Sl.im ++ List.replicate n .un)[i]? = some x) : SlOk K mg fx Hf H (vs[i]?.map some) x := by
  by_cases h : i < ds.length
  · rw [List.getElem?_append_left (by simpa using h), List.getElem?_map, List.getElem?_eq_getElem h] at e
    cases e
    obtain ⟨v, hv, hi⟩ := l.get (List.getElem?_eq_getElem h)
    exact ⟨v, by rw [hv]; rfl, hi⟩
  · rw [List.getElem?_append_right (by simpa using Nat.le_of_not_lt h)] at e
    have := List.eq_of_mem_replicate (List.mem_of_getElem? e)
    subst this
    trivial
theorem StS.init0 {nr : Bool} {Hf H : Hp} {E : XK} {ds : List D} {vs : List V} {N : List Str} {s : S} (sb : SubT Hf H) (l : IsL K mg Hf ds vs) (hn : vs.length ≤ N.length) : StS K mg (fxE [] nr H Hf E) Hf H (start N vs) (G0 N ds) s := by
  refine ⟨.refl sb.s, trivial, fun b hb => (by cases hb), sb.t, ?_, fun i x e => ?_, fun i j x y p _ ex _ ox _ => (isOw_im ex ox).elim⟩
  · rw [start_len hn]
    unfold G0
    have := l.len
    simp
    omega
  · have q := slOk_G0 (fx := fxE [] nr H Hf E) (H := H) (N := N) l e
    cases x with
    | un => trivial
    | im d =>
      obtain ⟨v, hv, hi⟩ := q
      refine ⟨v, ?_, hi⟩
      cases h : vs[i]? with
      | none => rw [h] at hv; cases hv
      | some w => rw [h] at hv; cases hv; exact start_at h
    | ow ds => exact (isOw_im e rfl).elim
    | od ks ds => exact (isOw_im e rfl).elim
    | nd ks ds => exact (isOw_im e rfl).elim
    | rf a => exact (rf_im e).elim
    | ob ns ds => exact (isOw_im e rfl).elim
    | o2 ds es => exact (isOw_im e rfl).elim
    | rw _ _ => exact (isOw_im e rfl).elim
    | ra _ _ => exact (ra_im e).elim
    | bg =>
      obtain ⟨b, r, e, _⟩ := q
      cases e
theorem StS.init1 {nr : Bool} {Hf H : Hp} {E : XK} {ds : List D} {vs : List V} {N : List Str} {s : S} {bag : List Addr} {b : Addr} {r : List Addr} (eb : bag = b :: r) (sb : SubT Hf H) (hb : ∀ b ∈ bag, Hf b = none ∧ H b ≠ none) (bg : BagAt bag H s) (l : IsL K mg Hf ds vs) (hn : vs.length + 1 ≤ N.length) :
    StS K mg (fxE bag nr H Hf E) Hf H (start N (.ref b :: vs)) (G1 N ds) s := by
  refine ⟨.refl sb.s, bg, fun b m => ⟨(hb b m).1, (hb b m).2, fun z => nomatch z⟩, sb.t, ?_, fun i x e => ?_, fun i j x y p _ ex _ ox _ => ?_⟩
  · rw [start_len (by simpa using hn)]
    unfold G1
    have := l.len
    simp
    omega
  · cases i with
    | zero =>
      cases e
      exact ⟨b, r, eb, start_at rfl⟩
    | succ i =>
      have e' : (ds.map Sl.im ++ List.replicate (N.length - ds.length - 1) .un)[i]? = some x := e
      have q := slOk_G0 (fx := fxE bag nr H Hf E) (H := H) (N := N) l e'
      cases x with
      | un => trivial
      | im d =>
        obtain ⟨v, hv, hi⟩ := q
        refine ⟨v, ?_, hi⟩
        cases h : vs[i]? with
        | none => rw [h] at hv; cases hv
        | some w => rw [h] at hv; cases hv; exact start_at (by simpa using h)
      | ow ds => exact (isOw_im e' rfl).elim
      | od ks ds => exact (isOw_im e' rfl).elim
      | nd ks ds => exact (isOw_im e' rfl).elim
      | rf a => exact (rf_im e').elim
      | ob ns ds => exact (isOw_im e' rfl).elim
      | o2 ds es => exact (isOw_im e' rfl).elim
      | rw _ _ => exact (isOw_im e' rfl).elim
      | ra _ _ => exact (ra_im e').elim
      | bg =>
        have hm := List.mem_of_getElem? e'
        rcases List.mem_append.mp hm with hm | hm
        · obtain ⟨d, _, z⟩ := List.mem_map.mp hm
          cases z
        · have := List.eq_of_mem_replicate hm
          cases this
  · cases i with
    | zero => cases ex; cases ox
    | succ i => exact (isOw_im (n := N.length - ds.length - 1) (ds := ds) (i := i) ex ox).elim
end
structure FnG (P : Program) (w : World) (K : PySem.W.Frag) (mg : Str → Option Value) (base : Heap) (k : Nat) (f : Addr) (fd : FuncData) (ps : List Str) (sp : Sp) : Prop where
  len : ∀ vs H Q E, sp vs H Q E → vs.length = ps.length
  run : ∀ (A : Around) (outer : List Env) (s : Shared) (H : Hp) (args : Args) (us : List Value) (vs : List V) (Q : VK) (E : XK), A.guards = some [] → Room k A → Env0 P w K mg base A outer s H → BindsTo s fd args (ps.zip us) → Vals vs us → sp vs H Q E →
    codeAny (model P w) A (.call (.ref f) args) (CR (CXm P w mg) outer P w H s Q E) s
theorem ends_call {X : Cx} {pins : List (Addr × Obj)} {σ : L2.St} {H : Hp} {s s' : Shared} {Q : VK} {E : XK} {r : PySem.Result} (I : Inv X pins σ H s) (hx : PassesAt (CXm X.prog X.w X.mg) X σ E) (hq : CR (CXm X.prog X.w X.mg) X.stack X.prog X.w H s Q E r s') :
    match r with
    | .ok (.ret u) => EP X pins σ Q u s'
    | .ok _ => False
    | .error e => X.xe e s' := by
  cases r with
  | error e => exact hx pins H s e s' I hq
  | ok fl => cases fl <;> first | exact I.after hq | exact hq
theorem run_g {X : Cx} {k : Nat} {f : Addr} {fd : FuncData} {ps : List Str} {sp : Sp} {dvs : List V} {ds : List Value} {E : L2.St → XK} {pins : List (Addr × Obj)} {σ : L2.St} {H : Hp} {s : Shared} {Q : VK} {us : List Value} {vs : List V} (F : FnG X.prog X.w X.K X.mg X.base k f fd ps sp) (hg : X.A.guards = some []) (hr : Room k X.A) (hb : Binds X.K fd ps ds) (hd : Vals dvs ds)
    (hx : PassesAt (CXm X.prog X.w X.mg) X σ (E σ)) (I : Inv X pins σ H s) (r : Vals vs us) (h : sp (vs ++ dvs) H Q (E σ)) : wpAny (model X.prog X.w) X.A (call (.ref f) us) (EP X pins σ Q) X.xe s := by
  have ra := r.append hd
  have hl := F.len _ _ _ _ h
  rw [ra.length] at hl
  refine wpAny_call (codeAny_mono (F.run X.A X.stack s H ⟨us, []⟩ (us ++ ds) (vs ++ dvs) Q (E σ) hg hr I.env0 (hb s us I.kIn hl) ra h) fun r s' hq => ?_)
  have z := ends_call I hx hq
  cases r with
  | error e => exact z
  | ok fl => cases fl <;> first | exact z | exact z.elim
theorem pe_callG {X : Cx} {k : Nat} {f : Addr} {fd : FuncData} {ps : List Str} {sp : Sp} {dvs : List V} {ds : List Value} {E : L2.St → XK} {x : Str} {p pos : Pos} {e : Expr} {es : List Expr} {t : TA} (F : FnG X.prog X.w X.K X.mg X.base k f fd ps sp) (hgd : X.A.guards = some []) (hr : Room k X.A) (hg : Gl X x) (hm : X.mg x = some (.ref f)) (hk : PySem.W.keepIn X.K (.ref f) = true) (hb : Binds X.K fd ps ds) (hd : Vals dvs ds)
    (hx : ∀ σ, PassesAt (CXm X.prog X.w X.mg) X σ (E σ)) (ha : PA X (e :: es) t) (hdb : (x == ("__debug__" : Str)) = false := by decide) (he : starEach (e :: es) X.env = (false, eval e X.env) :: starEach es X.env := by rfl) (hpl : (backTo pos (starEach es X.env)).any (·.1) = false := by rfl) :
    PE X (.Call (.Name x p) (e :: es) [] pos) (fun σ H Q => t σ H fun vs H1 => sp (vs ++ dvs) H1 Q (E σ)) := ⟨fun pins s σ H Q I h =>
  wpAny_Call_Name_kw (ld_glob I hg hm (PySem.W.callWith_K (h₀ := X.base) I.ok.mod.kin hk (thn (ha.run pos pins s σ H _ I h) fun us s1 ⟨vs, H1, I1, r, q⟩ => ⟨I1.kIn, run_g F hgd hr hb hd (hx σ) I1 r q⟩) he hpl) hdb)⟩
section
variable {P : Program} {w : World} {K : PySem.W.Frag} {mg : Str → Option Value} {base : Heap} [DL.TC]
open PyProof.Rows PySem.Spec in
theorem fn_g {x qual : Str} {st : Stmt} {f : Addr} {fd : FuncData} {N ps : List Str} {k : Nat} {sp : Sp} (F : Fun K x qual st f fd) (Sc : FnScope N ps (defScope st)) (len : ∀ vs H Q E, sp vs H Q E → vs.length = ps.length)
    (hbody : ∀ (cdv : Value) (A : Around) (outer : List Env) (s : Shared) (H : Hp) (vs : List V) (Q : VK) (E : XK), A.guards = some [] → Room k (A.deeper (envOfC qual (defScope st) s.heap.objs.size f cdv)) → sp vs H Q E →
      ∃ t, PSs (cxOf (CXm P w mg) P w K mg base N qual (defScope st) f cdv A outer s H E) (defBody st) t ∧ t { nx := fun _ H' => Q .non H', rt := Q } (start N vs) H) : FnG P w K mg base (k + 1) f fd ps sp := by
  refine ⟨len, fun A outer s H args us vs Q E gd hr e0 hb r hsp => ?_⟩
  obtain ⟨oc, od, kV, doc, pm, an, cdv, ct, osl, rfl, lk, hcd⟩ := F.ex
  have kp := fun b o e => (e0.bs b o e).1
  have hk : ∀ y ∈ ps.zip us, (defScope st).names.lookup y.1 = some .local ∨ ((defScope st).names.lookup y.1 = some .cell ∧ ((cellsFrom (s.heap.objs.size + 1) (defScope st).names []).lookup y.1).isSome = true) := fun y hy =>
    (Sc.par y.1 (List.of_mem_zip (a := y.1) (b := y.2) hy).1).imp (fun q => q) fun q => ⟨q, PySem.W.cellsFrom_some _ _ _ (.inl q)⟩
  refine codeAny_call_function hr.depth (e0.mod.kin.keeps kp _ _ lk) rfl Sc.co Sc.gen rfl (PySem.W.codeRec_of (e0.mod.kin.keeps kp) hcd) (hb _ _ _ _ (wpAny_newFunctionEnv_cells Sc.kind hk fun env he s1 x => ?_))
  subst he
  obtain ⟨t, ht, hq⟩ := hbody cdv A outer s H vs Q E gd (hr.deeper _) hsp
  have I : Inv (cxOf (CXm P w mg) P w K mg base N qual (defScope st) f cdv A outer s H E) [] (start N vs) H s1 := inv_start Sc hr.hd e0 (len _ _ _ _ hsp) r x
  refine ⟨(e0.mod.nolimit.keeps kp).keeps x.toInCall.keep, codeAny_func (wpAny_mono (ht.run [] s1 (start N vs) H _ I hq) (fun fl s' hs => ?_) fun e s' hs => hs)⟩
  cases fl with
  | ret u =>
    obtain ⟨v, σ', H', J, rv, q⟩ := hs
    exact ⟨v, H', J.os, J.bare, J.base, J.hok, rv, q⟩
  | next =>
    obtain ⟨σ', H', J, q⟩ := hs
    exact ⟨.non, H', J.os, J.bare, J.base, J.hok, rfl, q⟩
  | brk => exact hs.elim fun _ h => h.elim fun _ h => h.2.elim
  | cont => exact hs.elim fun _ h => h.elim fun _ h => h.2.elim
theorem fnR {nr : Bool} {x qual : Str} {st : Stmt} {f : Addr} {fd : FuncData} {N ps : List Str} {k n : Nat} {g : List D → R D} [hw : WOk w] (F : Fun K x qual st f fd) (Sc : FnScope N ps (defScope st)) (hn : ps.length = n) (hN : n ≤ N.length)
    (hb : ∀ (cdv : Value) (A : Around) (outer : List Env) (s : Shared) (H Hf : Hp) (E : XK) (ds : List D), Cok (cxOf (CXm P w mg) P w K mg base N qual (defScope st) f cdv A outer s H E) (fxE [] nr H Hf E) k → ds.length = n →
      ∃ body : R (Fl Unit Empty), PSs (cxOf (CXm P w mg) P w K mg base N qual (defScope st) f cdv A outer s H E) (defBody st)
        (tS (cxOf (CXm P w mg) P w K mg base N qual (defScope st) f cdv A outer s H E).K (cxOf (CXm P w mg) P w K mg base N qual (defScope st) f cdv A outer s H E).mg (fxE [] nr H Hf E) (G0 N ds) (fun _ => unG N) Empty.elim body) ∧ g ds = runR nr body) :
    FnG P w K mg base (k + 1) f fd ps (spR K mg nr n g) := by
  refine fn_g F Sc (fun vs H Q E h => h.1.trans hn.symm) (fun cdv A outer s H vs Q E gd hr h => ?_)
  obtain ⟨hl, Hf, ds, sb, l, q⟩ := h
  have C : Cok (cxOf (CXm P w mg) P w K mg base N qual (defScope st) f cdv A outer s H E) (fxE [] nr H Hf E) k := ⟨rfl, fun _ => passes_of rfl, takes_of rfl rfl rfl rfl, hr, Sc.nd, gd, hw.e⟩
  obtain ⟨body, hp, hg⟩ := hb cdv A outer s H Hf E ds C (l.len.trans hl)
  refine ⟨_, hp, Hf, ⟨0, 0, 0, [], false⟩, .init0 sb l (by omega), ?_⟩
  rw [hg] at q
  show R.wp body _ _ _
  cases body with
  | ok f =>
    cases f with
    | nx a =>
      cases nr with
      | true => exact (show False from q).elim
      | false => exact fun Hf' H' σ' _ st => q .non Hf' H' st.ste (rfl : V.non = V.non)
    | rt d => exact fun v Hf' H' st _ i => q v Hf' H' st i
    | bk b => exact b.elim
    | ct b => exact b.elim
  | ex e => exact fun cls dd σ' Hf' H' st x => q cls dd Hf' H' st.1 x
  | stuck => exact q
theorem fnM {nr : Bool} {x qual : Str} {st : Stmt} {f : Addr} {fd : FuncData} {N ps : List Str} {k n : Nat} {g : List D → M D} [hw : WOk w] (F : Fun K x qual st f fd) (Sc : FnScope N ps (defScope st)) (hn : ps.length = n + 1) (hN : n + 1 ≤ N.length)
    (hb : ∀ (cdv : Value) (A : Around) (outer : List Env) (s : Shared) (H Hf : Hp) (bag : List Addr) (E : XK) (ds : List D), Cok (cxOf (CXm P w mg) P w K mg base N qual (defScope st) f cdv A outer s H E) (fxE bag nr H Hf E) k → ds.length = n →
      ∃ body : M (Fl Unit Empty), PSs (cxOf (CXm P w mg) P w K mg base N qual (defScope st) f cdv A outer s H E) (defBody st)
        (tS (cxOf (CXm P w mg) P w K mg base N qual (defScope st) f cdv A outer s H E).K (cxOf (CXm P w mg) P w K mg base N qual (defScope st) f cdv A outer s H E).mg (fxE bag nr H Hf E) (G1 N ds) (fun _ => unG N) Empty.elim body) ∧ g ds = runM nr body) :
    FnG P w K mg base (k + 1) f fd ps (spM K mg nr (n + 1) g) := by
  refine fn_g F Sc (fun vs H Q E h => h.1.trans hn.symm) (fun cdv A outer s H vs Q E gd hr h => ?_)
  obtain ⟨hl, bag, b, r, Hf, ds, vs', s0, eb, rfl, sb, hbb, bg, l, q⟩ := h
  have C : Cok (cxOf (CXm P w mg) P w K mg base N qual (defScope st) f cdv A outer s H E) (fxE bag nr H Hf E) k := ⟨rfl, fun _ => passes_of rfl, takes_of rfl rfl rfl rfl, hr, Sc.nd, gd, hw.e⟩
  have hl' : vs'.length = n := by simpa using hl
  obtain ⟨body, hp, hg⟩ := hb cdv A outer s H Hf bag E ds C (l.len.trans hl')
  refine ⟨_, hp, Hf, s0, .init1 eb sb hbb bg l (by omega), ?_⟩
  rw [hg] at q
  show (body s0).wp _ _
  have e : runM nr body s0 = (match body s0 with
    | .ok (.nx _) s => if nr = true then .stuck else .ok .non s
    | .ok (.rt d) s => .ok d s
    | .ok (.bk b) _ => b.elim
    | .ok (.ct b) _ => b.elim
    | .ex e s => .ex e s
    | .stuck => .stuck) := rfl
  rw [e] at q
  cases z : body s0 with
  | ok f s1 =>
    rw [z] at q
    cases f with
    | nx a =>
      cases nr with
      | true => exact (show False from q).elim
      | false => exact fun Hf' H' σ' _ st => q .non Hf' H' st.ste st.bag (rfl : V.non = V.non)
    | rt d => exact fun v Hf' H' st bg i => q v Hf' H' st bg i
    | bk b => exact b.elim
    | ct b => exact b.elim
  | ex e s1 => rw [z] at q; exact fun cls dd σ' Hf' H' st x => q cls dd Hf' H' st.1 st.2 x
  | stuck => rw [z] at q; exact q
end
section
variable {X : Cx} {fx : Fx} {m : Type → Type} [Mo m] {G : List Sl} {es : List Expr} {pos : Pos} {ys : m (List D)} {kk j n : Nat} {g : List D → R D} {f : Addr} {fd : FuncData} {ps : List Str} {nm : Str} {p : Pos} {e : Expr} [DL.TC]
theorem fn_core {vs : List V} {ds : List D} {Hf : Hp} {s : S} {σ : L2.St} {H : Hp} {Q : VK} (hn : vs.length = n) (r : IsL X.K X.mg Hf ds vs) (h : tX X.K X.mg fx G (fun H d v => Is X.K X.mg H d v) (Mo.lift (g ds) : m D) Hf s σ H Q) : spR X.K X.mg false n g vs H Q (WE fx.W σ) := by
  have w := Mo.wp_lift h.2
  refine ⟨hn, Hf, ds, h.1.topT, r, ?_⟩
  cases z : g ds with
  | ok d => rw [z] at w; exact fun v Hf' H' st i => w v Hf' H' st.wide (st.bag h.1.bag) i
  | ex e => rw [z] at w; exact fun cls dd Hf' H' st x => w cls dd Hf' H' (h.1.step st.wide (st.bag h.1.bag)) x
  | stuck => rw [z] at w; exact w
theorem de_fn (C : Cok X fx kk) (F : FnG X.prog X.w X.K X.mg X.base j f fd ps (spR X.K X.mg false n g)) (hm : X.mg nm = some (.ref f)) (hk : PySem.W.keepIn X.K (.ref f) = true) (hb : Binds X.K fd ps []) (ha : PA X (e :: es) (tA X.K X.mg fx G ys)) (hn : ∀ ds : List D, g ds ≠ .stuck → ds.length = n)
    (hj : j ≤ kk := by decide) (hg : Gl X nm := by rfl) (hdb : (nm == ("__debug__" : Str)) = false := by decide) (he : starEach (e :: es) X.env = (false, eval e X.env) :: starEach es X.env := by rfl) (hpl : (backTo pos (starEach es X.env)).any (·.1) = false := by rfl) :
    PE X (.Call (.Name nm p) (e :: es) [] pos) (tE X.K X.mg fx G (do let ds ← ys; Mo.lift (g ds))) := peI (pe_callG (E := WE fx.W) F C.gd (C.rm.mono hj) hg hm hk hb .nil (fun σ => passAt C.tk σ) ha hdb he hpl) fun σ H Q ⟨Hf, s, h⟩ =>
  (h.bind.mono fun vs H1 ⟨ds, Hf1, s1, sb, r, h1⟩ => by
    rw [List.append_nil]
    exact fn_core (by
    have w := Mo.wp_lift h1.2
    rw [← r.len]
    refine hn ds fun z => ?_
    rw [z] at w
    exact w) r h1).to
end
section
variable {X : Cx} {fx : Fx} {G : List Sl} {es : List Expr} {pos : Pos} {ys : M (List D)} {kk j n : Nat} {g : List D → M D} {f : Addr} {fd : FuncData} {ps : List Str} {nm bn : Str} {p bp : Pos} [DL.TC]
theorem de_fnM (C : Cok X fx kk) (i : Nat) (F : FnG X.prog X.w X.K X.mg X.base j f fd ps (spM X.K X.mg false (n + 1) g)) (hm : X.mg nm = some (.ref f)) (hk : PySem.W.keepIn X.K (.ref f) = true) (hb : Binds X.K fd ps []) (ha : PA X es (tA X.K X.mg fx G ys)) (hn : ∀ ds s, g ds s ≠ .stuck → ds.length = n)
    (hG : G[i]? = some .bg := by rfl) (hN : X.N[i]? = some bn := by rfl) (hv : Vis X.env.scope bn := by first | exact Or.inl rfl | exact Or.inr (Or.inl rfl) | exact Or.inr (Or.inr rfl))
    (hj : j ≤ kk := by decide) (hg : Gl X nm := by rfl) (hdb : (nm == ("__debug__" : Str)) = false := by decide) (he : starEach (.Name bn bp :: es) X.env = (false, eval (.Name bn bp) X.env) :: starEach es X.env := by rfl) (hpl : (backTo pos (starEach es X.env)).any (·.1) = false := by rfl)
    (hd : (bn == ("__debug__" : Str)) = false := by decide) (hcd : (bn == ("__classdict__" : Str)) = false := by decide) :
    PE X (.Call (.Name nm p) (.Name bn bp :: es) [] pos) (tE X.K X.mg fx G (do let ds ← ys; g ds)) :=
  peI (pe_callG (E := WE fx.W) F C.gd (C.rm.mono hj) hg hm hk hb .nil (fun σ => passAt C.tk σ) (pa_cons (pe_var hN hv hd hcd) ha he) hdb he hpl) fun σ H Q ⟨Hf, s, h⟩ => by
    obtain ⟨b, r, eb, ev⟩ := h.1.sl i _ hG
    refine ⟨.ref b, ev, (h.bind.mono fun vs H1 ⟨ds, Hf1, s1, sb, rl, h1⟩ => ?_).to⟩
    show spM X.K X.mg false (n + 1) g ((.ref b :: vs) ++ []) H1 Q (WE fx.W σ)
    rw [List.append_nil]
    have w : (g ds s1).wp _ _ := h1.2
    have hlen : ds.length = n := hn ds s1 fun z => by rw [z] at w; exact w
    refine ⟨by rw [List.length_cons, ← rl.len, hlen], fx.bag, b, r, Hf1, ds, vs, s1, eb, rfl, h1.1.topT, h1.1.bagf, h1.1.bag, rl, ?_⟩
    cases z : g ds s1 with
    | ok d s' => rw [z] at w; exact fun v Hf' H' st bg i => w v Hf' H' st bg i
    | ex e s' => rw [z] at w; exact fun cls dd Hf' H' st bg x => w cls dd Hf' H' (h1.1.step st bg) x
    | stuck => rw [z] at w; exact w
end
end DL
namespace DL
open PySem PySem.Spec PyProof.Rows L2
def OnlyNew (S : Addr) (h0 h : Heap) : Prop := (∃ c, h.get? S = some { cls := .type "list", data := .seq #[] c }) ∧ ∀ b o, b ≠ S → h0.get? b = some o → h.get? b = some o
section
variable {prog : Program} {w : World} {A : Around} {E : Value → Shared → Prop} {s : Shared} {S : Addr} {h0 : Heap}
theorem only_upd (o : OnlyNew S h0 s.heap) {f : Array Value → Array Value} (hf : f #[] = #[]) : OnlyNew S h0 (s.heap.update S (Obj.mapSeq f)) := by
  obtain ⟨⟨c, q⟩, keep⟩ := o
  have u := Heap.get?_update_self (Obj.mapSeq f) q rfl
  simp only [Obj.mapSeq, hf] at u
  exact ⟨⟨_, u⟩, fun b o ne e => (Heap.get?_update_other _ _ (Ne.symm ne)).trans (keep b o ne e)⟩
theorem list_cleared {z : Value} {B : Around} {Q : Fin → Shared → Prop} (o : OnlyNew S h0 s.heap) (fill : ∀ h, OnlyNew S h0 h → wpAny (model prog w) B (Builtin.List.listExtendWith (.ref S) z .none) Q E { s with heap := h }) :
    wpAny (model prog w) B (Builtin.«list.__init__» ⟨[.ref S, z], []⟩) Q E s := by
  obtain ⟨⟨c, q⟩, -⟩ := id o
  refine wpAny_bind (m := Builtin.List.listItems (.ref S)) (wpAny_bind (wpAny_seqItems q rfl (wpAny_pure ?_)))
  refine wpAny_bind (m := updateSeq S fun _ => #[]) (wpAny_updateSeq q rfl (wpAny_bind (m := letGo []) (wpAny_pure ?_)))
  exact fill _ (only_upd o rfl)
end
end DL
namespace DL
open PySem L2
mutual
def toPy : D → Option PyData
  | .non => some .none
  | .bl b => some (.bool b)
  | .int i => some (.int i)
  | .str s => some (.str ⟨s.toArray⟩)
  | .tup ds => (toPyL ds).map .tuple
  | .lst ds => (toPyL ds).map .list
  | _ => none
def toPyL : List D → Option (List PyData)
  | [] => some []
  | d :: ds => do
    let x ← toPy d
    let xs ← toPyL ds
    return x :: xs
end
section
variable {K : PySem.W.Frag} {mg : Str → Option Value} [DL.TC]
mutual
theorem Is.dp {H : Hp} : ∀ {d : D} {v : V} {p : PyData}, Is K mg H d v → toPy d = some p → Dp K H v p
  | .non, _, _, h, e => by cases e; cases h; exact .non
  | .bl b, _, _, h, e => by cases e; cases h; exact .bl b
  | .int i, _, _, h, e => by cases e; cases h; exact .int i
  | .str s, _, _, h, e => by cases e; cases h.1; exact .str _
  | .tup ds, _, _, h, e => by
    obtain ⟨_, a, vs, rfl, t, l⟩ := h
    unfold toPy at e
    cases q : toPyL ds with
    | none => rw [q] at e; cases e
    | some ps => rw [q] at e; cases e; exact .tup t (IsL.dp l q)
  | .lst ds, _, _, h, e => by
    obtain ⟨_, a, vs, rfl, t, l⟩ := h
    unfold toPy at e
    cases q : toPyL ds with
    | none => rw [q] at e; cases e
    | some ps => rw [q] at e; cases e; exact .lst (.inl (.inl t)) (IsL.dp l q)
  | .dic _ _, _, _, h, e => by unfold toPy at e; cases e
  | .ndc _ _, _, _, h, e => by unfold toPy at e; cases e
  | .ins _ _ _, _, _, h, e => by unfold toPy at e; cases e
  | .scr _, _, _, h, e => by unfold toPy at e; cases e
  | .xc _ _ _ _, _, _, h, e => by unfold toPy at e; cases e
theorem IsL.dp {H : Hp} : ∀ {ds : List D} {vs : List V} {ps : List PyData}, IsL K mg H ds vs → toPyL ds = some ps → DpAll K H vs ps
  | [], _, _, h, e => by cases h; unfold toPyL at e; cases e; exact .nil
  | d :: ds, _, _, h, e => by
    obtain ⟨v, r, rfl, i, l⟩ := h
    unfold toPyL at e
    cases q : toPy d with
    | none => rw [q] at e; cases e
    | some x =>
      cases q2 : toPyL ds with
      | none => rw [q, q2] at e; cases e
      | some xs => rw [q, q2] at e; cases e; exact .cons (Is.dp i q) (IsL.dp l q2)
end
end
def eqS (a b : D) : Option Bool := match toPy a, toPy b with
  | some x, some y => if SeqAt.shaped x && SeqAt.shaped y then some (PyData.eqv x y) else none
  | _, _ => none
def eqP : D → D → Option Bool
  | .str x, .str y => some (decide (x = y))
  | .int x, .int y => some (decide (x = y))
  | .bl x, .bl y => some (decide (x = y))
  | .non, .non => some true
  | a, b => eqS a b
def eqD (a b : D) : Option D := (eqP a b).map .bl
def neD (a b : D) : Option D := (eqP a b).map fun x => .bl (!x)
def addD : D → D → Option D
  | .int i, .int j => some (.int (i + j))
  | .str a, .str b => if a.length + b.length ≤ sizeLine then some (.str (a ++ b)) else none
  | .lst a, .lst b => if a.length + b.length ≤ sizeLine then some (.lst (a ++ b)) else none
  | .tup a, .tup b => if a.length + b.length ≤ sizeLine then some (.tup (a ++ b)) else none
  | _, _ => none
def subD : D → D → Option D
  | .int i, .int j => some (.int (i - j))
  | _, _ => none
def mulD : D → D → Option D
  | .int i, .int j => if i.natAbs.log2 + j.natAbs.log2 < 1000000 then some (.int (i * j)) else none
  | .str a, .int k => if 0 ≤ k ∧ k < 1000000 ∧ a.length * k.toNat ≤ 1000000 then some (.str (List.replicate k.toNat a).flatten) else none
  | .lst a, .int k => if 0 ≤ k ∧ k < 1000000 ∧ a.length * k.toNat ≤ 1000000 then some (.lst (List.replicate k.toNat a).flatten) else none
  | _, _ => none
def fdivD : D → D → Option D
  | .int i, .int j => if 0 < j ∧ j.natAbs.log2 < 9000 then some (.int (i / j)) else none
  | _, _ => none
def modD : D → D → Option D
  | .int i, .int j => if 0 < j then some (.int (i % j)) else none
  | _, _ => none
def ltP (a b : D) : Option Bool := match toPy a, toPy b with
  | some x, some y => if PySem.W.alike x y && decide (x.depth ≤ 60) && (isNonP x == false) then some (PySem.W.dataLt x y) else none
  | _, _ => none
where isNonP : PyData → Bool
  | .none => true
  | _ => false
def ltD : D → D → Option D
  | .int i, .int j => some (.bl (decide (i < j)))
  | .str a, .str b => some (.bl (decide (a < b)))
  | a, b => (ltP a b).map .bl
def leD : D → D → Option D
  | .int i, .int j => some (.bl (decide (i ≤ j)))
  | a, b => (leP a b).map .bl
where leP (a b : D) : Option Bool := match toPy a, toPy b with
  | some x, some y => if PySem.W.alike x y && decide (x.depth ≤ 60) && (ltP.isNonP x == false) then some (!PySem.W.dataLt y x) else none
  | _, _ => none
def gtD : D → D → Option D
  | .int i, .int j => some (.bl (decide (j < i)))
  | a, b => (gtP a b).map .bl
where gtP (a b : D) : Option Bool := match toPy a, toPy b with
  | some x, some y => if PySem.W.alike x y && decide (x.depth ≤ 60) && (ltP.isNonP x == false) then some (PySem.W.dataLt y x) else none
  | _, _ => none
def geD : D → D → Option D
  | .int i, .int j => some (.bl (decide (j ≤ i)))
  | a, b => (geP a b).map .bl
where geP (a b : D) : Option Bool := match toPy a, toPy b with
  | some x, some y => if PySem.W.alike x y && decide (x.depth ≤ 60) && (ltP.isNonP x == false) then some (!PySem.W.dataLt x y) else none
  | _, _ => none
def isNone : D → Option Bool
  | .non => some true
  | .bl _ => some false
  | .int _ => some false
  | .str _ => some false
  | .tup _ => some false
  | .lst _ => some false
  | .dic _ _ => some false
  | .ndc _ _ => some false
  | .ins _ _ _ => some false
  | .scr _ => some false
  | .xc _ _ _ _ => some false
def isD : D → D → Option D
  | a, .non => (isNone a).map .bl
  | .bl a, .bl b => some (.bl (decide (a = b)))
  | _, _ => none
def isNotD : D → D → Option D
  | a, .non => (isNone a).map fun x => .bl (!x)
  | .bl a, .bl b => some (.bl (!decide (a = b)))
  | _, _ => none
def inP : D → D → Option Bool
  | .str [c], .str z => some (decide (c ∈ z))
  | d, .lst ds => match toPy d, toPy (.lst ds) with
    | some x, some (.list ys) => if SeqAt.shaped x && SeqAt.shaped (.list ys) then some (ys.any fun z => PyData.eqv z x) else none
    | _, _ => none
  | d, .tup ds => match toPy d, toPy (.tup ds) with
    | some x, some (.tuple ys) => if SeqAt.shaped x && SeqAt.shaped (.tuple ys) then some (ys.any fun z => PyData.eqv z x) else none
    | _, _ => none
  | _, _ => none
def inD (a b : D) : Option D := (inP a b).map .bl
def notInD (a b : D) : Option D := (inP a b).map fun x => .bl (!x)
section
variable {X : Cx} [DL.TC]
theorem str_tl (s : List Nat) : (⟨s.toArray⟩ : Str).cps.toList = s := by simp
theorem str_len (s : List Nat) : (⟨s.toArray⟩ : Str).length = s.length := by
  show s.toArray.size = s.length
  simp
theorem str_app (a b : List Nat) : (⟨a.toArray⟩ ++ ⟨b.toArray⟩ : Str) = ⟨(a ++ b).toArray⟩ := by
  show (⟨a.toArray ++ b.toArray⟩ : Str) = _
  simp
theorem dec_str {a b : List Nat} : decide (V.str ⟨a.toArray⟩ = V.str ⟨b.toArray⟩) = decide (a = b) := by
  by_cases h : a = b
  · subst h; simp
  · rw [decide_eq_false h, decide_eq_false]
    intro z
    apply h
    have z1 : (⟨a.toArray⟩ : Str) = ⟨b.toArray⟩ := V.str.inj z
    have z2 : a.toArray = b.toArray := Str.mk.inj z1
    simpa using z2
theorem eq_core (hu : X.A.units + 64 < cLine) {pins : List (Addr × Obj)} {s : Shared} {σ : L2.St} {H : Hp} {x y : V} {v u : Value} (I : Inv X pins σ H s) (rx : RelV x v) (ry : RelV y u) {Hf : Hp} {dx dy : D} {b : Bool} (sb : Sub Hf H) (ix : Is X.K X.mg Hf dx x) (iy : Is X.K X.mg Hf dy y) (e : eqP dx dy = some b) :
    (∀ Q : VK, Q (.bl b) H → wpAny (model X.prog X.w) X.A (compareOp .Eq v u) (EP X pins σ Q) X.xe s) ∧ (∀ Q : VK, Q (.bl (!b)) H → wpAny (model X.prog X.w) X.A (compareOp .NotEq v u) (EP X pins σ Q) X.xe s) := by
  unfold eqP at e
  split at e
  · obtain ⟨rfl, _⟩ := ix
    obtain ⟨rfl, _⟩ := iy
    cases e
    exact ⟨fun Q q => op_eq pins s σ H _ _ v u Q I rx ry ⟨rfl, by rw [dec_str]; exact q⟩, fun Q q => op_ne pins s σ H _ _ v u Q I rx ry ⟨rfl, by rw [dec_str]; exact q⟩⟩
  · cases ix; cases iy; cases e
    refine ⟨fun Q q => op_eq pins s σ H _ _ v u Q I rx ry ⟨rfl, ?_⟩, fun Q q => op_ne pins s σ H _ _ v u Q I rx ry ⟨rfl, ?_⟩⟩ <;> simpa using q
  · cases ix; cases iy; cases e
    refine ⟨fun Q q => op_eq pins s σ H _ _ v u Q I rx ry ⟨rfl, ?_⟩, fun Q q => op_ne pins s σ H _ _ v u Q I rx ry ⟨rfl, ?_⟩⟩ <;> simpa using q
  · cases ix; cases iy; cases e
    exact ⟨fun Q q => op_eq pins s σ H _ _ v u Q I rx ry ⟨rfl, by simpa using q⟩, fun Q q => op_ne pins s σ H _ _ v u Q I rx ry ⟨rfl, by simpa using q⟩⟩
  · unfold eqS at e
    cases e1 : toPy dx with
    | none => rw [e1] at e; cases e
    | some p1 =>
      cases e2 : toPy dy with
      | none => rw [e1, e2] at e; cases e
      | some p2 =>
        rw [e1, e2] at e
        by_cases c : (SeqAt.shaped p1 && SeqAt.shaped p2) = true
        · simp only [c, if_true, Option.some.injEq] at e
          subst e
          rw [Bool.and_eq_true] at c
          exact ⟨fun Q q => op_eqD hu pins s σ H x y v u Q I rx ry ⟨p1, p2, (ix.mono sb).dp e1, (iy.mono sb).dp e2, c.1, c.2, q⟩, fun Q q => op_neD hu pins s σ H x y v u Q I rx ry ⟨p1, p2, (ix.mono sb).dp e1, (iy.mono sb).dp e2, c.1, c.2, q⟩⟩
        · simp only [c, if_false] at e
          cases e
theorem od_eq (hu : X.A.units + 64 < cLine) : OpR X (compareOp .Eq) (rD2 X.K X.mg eqD) := by
  intro pins s σ H x y v u Q I rx ry h
  obtain ⟨Hf, dx, dy, d, sb, ix, iy, e, q⟩ := h
  unfold eqD at e
  cases e1 : eqP dx dy with
  | none => rw [e1] at e; cases e
  | some b => rw [e1] at e; cases e; exact (eq_core hu I rx ry sb ix iy e1).1 Q (q _ Hf H (.refl sb) (by cases b <;> rw [Is]))
theorem od_ne (hu : X.A.units + 64 < cLine) : OpR X (compareOp .NotEq) (rD2 X.K X.mg neD) := by
  intro pins s σ H x y v u Q I rx ry h
  obtain ⟨Hf, dx, dy, d, sb, ix, iy, e, q⟩ := h
  unfold neD at e
  cases e1 : eqP dx dy with
  | none => rw [e1] at e; cases e
  | some b => rw [e1] at e; cases e; exact (eq_core hu I rx ry sb ix iy e1).2 Q (q _ Hf H (.refl sb) (by cases b <;> rw [Is]))
theorem od_add : OpR X (binaryOp .Add) (rD2 X.K X.mg addD) := by
  intro pins s σ H x y v u Q I rx ry h
  obtain ⟨Hf, dx, dy, d, sb, ix, iy, e, q⟩ := h
  unfold addD at e
  split at e
  · cases e; cases ix; cases iy
    exact op_add pins s σ H _ _ v u Q I rx ry ⟨_, _, rfl, rfl, q _ Hf H (.refl sb) (by rw [Is])⟩
  · split at e
    · rename_i a b hz
      cases e; cases ix.1; cases iy.1
      exact op_add_str pins s σ H _ _ v u Q I rx ry ⟨_, _, rfl, rfl, by rw [str_len, str_len]; exact hz, q _ Hf H (.refl sb) (by rw [Is, str_app]; exact ⟨rfl, by rw [List.length_append]; exact hz⟩)⟩
    · cases e
  · split at e
    · rename_i a b hz
      cases e
      obtain ⟨z1, p1, v1, rfl, h1, l1⟩ := ix
      obtain ⟨z2, p2, v2, rfl, h2, l2⟩ := iy
      refine op_cat pins s σ H _ _ v u Q I rx ry ⟨_, _, _, _, rfl, rfl, sb _ _ h1, sb _ _ h2, by rw [← l1.len, ← l2.len]; exact hz, fun p hp => q _ _ _ (.new sb hp) ?_⟩
      exact ⟨by rw [List.length_append]; exact hz, p, _, rfl, upd_same, (l1.app l2).mono (Ste.new (bag := []) sb hp).sub⟩
    · cases e
  · split at e
    · rename_i a b hz
      cases e
      obtain ⟨z1, p1, v1, rfl, h1, l1⟩ := ix
      obtain ⟨z2, p2, v2, rfl, h2, l2⟩ := iy
      refine op_catA pins s σ H _ _ v u Q I rx ry ⟨_, _, _, _, rfl, rfl, sb.sqt h1, sb.sqt h2, by rw [← l1.len, ← l2.len]; exact hz, fun z => ?_, fun z3 z4 => ?_, fun _ _ p hp => q _ _ _ (.new sb hp) ?_⟩
      · subst z
        have := l1.len
        have ea : a = [] := List.eq_nil_of_length_eq_zero (by simpa using this)
        subst ea
        exact q _ _ _ (.refl sb) ⟨z2, p2, v2, rfl, h2, l2⟩
      · subst z4
        have := l2.len
        have eb : b = [] := List.eq_nil_of_length_eq_zero (by simpa using this)
        subst eb
        rw [List.append_nil] at q
        exact q _ _ _ (.refl sb) ⟨z1, p1, v1, rfl, h1, l1⟩
      · exact ⟨by rw [List.length_append]; exact hz, p, _, rfl, .inl (.inl upd_same), (l1.app l2).mono (Ste.new (bag := []) sb hp).sub⟩
    · cases e
  · cases e
theorem od_sub : OpR X (binaryOp .Sub) (rD2 X.K X.mg subD) := by
  intro pins s σ H x y v u Q I rx ry h
  obtain ⟨Hf, dx, dy, d, sb, ix, iy, e, q⟩ := h
  unfold subD at e
  split at e
  · cases e; cases ix; cases iy
    exact op_sub pins s σ H _ _ v u Q I rx ry ⟨_, _, rfl, rfl, q _ Hf H (.refl sb) (by rw [Is])⟩
  · cases e
theorem od_fdiv : OpR X (binaryOp .FloorDiv) (rD2 X.K X.mg fdivD) := by
  intro pins s σ H x y v u Q I rx ry h
  obtain ⟨Hf, dx, dy, d, sb, ix, iy, e, q⟩ := h
  unfold fdivD at e
  split at e
  · split at e
    · rename_i hz
      cases e; cases ix; cases iy
      exact op_fdivW pins s σ H _ _ v u Q I rx ry ⟨_, _, rfl, rfl, hz, q _ Hf H (.refl sb) (by rw [Is])⟩
    · cases e
  · cases e
theorem od_mod : OpR X (binaryOp .Mod) (rD2 X.K X.mg modD) := by
  intro pins s σ H x y v u Q I rx ry h
  obtain ⟨Hf, dx, dy, d, sb, ix, iy, e, q⟩ := h
  unfold modD at e
  split at e
  · split at e
    · rename_i hz
      cases e; cases ix; cases iy
      exact op_mod pins s σ H _ _ v u Q I rx ry ⟨_, _, rfl, rfl, hz, q _ Hf H (.refl sb) (by rw [Is])⟩
    · cases e
  · cases e
theorem od_lt (hu : X.A.units + 64 < cLine) : OpR X (compareOp .Lt) (rD2 X.K X.mg ltD) := by
  intro pins s σ H x y v u Q I rx ry h
  obtain ⟨Hf, dx, dy, d, sb, ix, iy, e, q⟩ := h
  unfold ltD at e
  split at e
  · cases e; cases ix; cases iy
    exact op_lt pins s σ H _ _ v u Q I rx ry ⟨_, _, rfl, rfl, q _ Hf H (.refl sb) (by rw [Is])⟩
  · cases e; cases ix.1; cases iy.1
    refine op_lt_str pins s σ H _ _ v u Q I rx ry ⟨_, _, rfl, rfl, ?_⟩
    rw [str_tl, str_tl]
    exact q _ Hf H (.refl sb) (by rw [Is])
  · cases e1 : ltP dx dy with
    | none => rw [e1] at e; cases e
    | some b =>
      rw [e1] at e; cases e
      unfold ltP at e1
      split at e1
      · rename_i p1 p2 f1 f2
        split at e1
        · rename_i hc
          cases e1
          simp only [Bool.and_eq_true, decide_eq_true_eq, beq_iff_eq] at hc
          obtain ⟨as, r1⟩ := Dp.reads I p1 x v ((ix.mono sb).dp f1) rx
          obtain ⟨bs, r2⟩ := Dp.reads I p2 y u ((iy.mono sb).dp f2) ry
          have hm : X.A.units + min p1.depth p2.depth < cLine := by
            have := Nat.min_le_left p1.depth p2.depth
            omega
          exact PySem.W.lt_data r1 r2 hc.1.1 (fun z => by rw [z] at hc; exact Bool.noConfusion hc.2) hm ⟨.bl _, H, I, rfl, q _ Hf H (.refl sb) (by cases (PySem.W.dataLt p1 p2) <;> cases (PySem.W.dataLt p2 p1) <;> rw [Is])⟩
        · cases e1
      · cases e1
theorem od_le (hu : X.A.units + 64 < cLine) : OpR X (compareOp .LtE) (rD2 X.K X.mg leD) := by
  intro pins s σ H x y v u Q I rx ry h
  obtain ⟨Hf, dx, dy, d, sb, ix, iy, e, q⟩ := h
  unfold leD at e
  split at e
  · cases e; cases ix; cases iy
    exact op_le pins s σ H _ _ v u Q I rx ry ⟨_, _, rfl, rfl, q _ Hf H (.refl sb) (by rw [Is])⟩
  · cases e1 : leD.leP dx dy with
    | none => rw [e1] at e; cases e
    | some b =>
      rw [e1] at e; cases e
      unfold leD.leP at e1
      split at e1
      · rename_i p1 p2 f1 f2
        split at e1
        · rename_i hc
          cases e1
          simp only [Bool.and_eq_true, decide_eq_true_eq, beq_iff_eq] at hc
          obtain ⟨as, r1⟩ := Dp.reads I p1 x v ((ix.mono sb).dp f1) rx
          obtain ⟨bs, r2⟩ := Dp.reads I p2 y u ((iy.mono sb).dp f2) ry
          have hm : X.A.units + min p1.depth p2.depth < cLine := by
            have := Nat.min_le_left p1.depth p2.depth
            omega
          exact PySem.W.le_data r1 r2 hc.1.1 (fun z => by rw [z] at hc; exact Bool.noConfusion hc.2) hm ⟨.bl _, H, I, rfl, q _ Hf H (.refl sb) (by cases (PySem.W.dataLt p1 p2) <;> cases (PySem.W.dataLt p2 p1) <;> rw [Is])⟩
        · cases e1
      · cases e1
theorem od_gt (hu : X.A.units + 64 < cLine) : OpR X (compareOp .Gt) (rD2 X.K X.mg gtD) := by
  intro pins s σ H x y v u Q I rx ry h
  obtain ⟨Hf, dx, dy, d, sb, ix, iy, e, q⟩ := h
  unfold gtD at e
  split at e
  · cases e; cases ix; cases iy
    exact op_gt pins s σ H _ _ v u Q I rx ry ⟨_, _, rfl, rfl, q _ Hf H (.refl sb) (by rw [Is])⟩
  · cases e1 : gtD.gtP dx dy with
    | none => rw [e1] at e; cases e
    | some b =>
      rw [e1] at e; cases e
      unfold gtD.gtP at e1
      split at e1
      · rename_i p1 p2 f1 f2
        split at e1
        · rename_i hc
          cases e1
          simp only [Bool.and_eq_true, decide_eq_true_eq, beq_iff_eq] at hc
          obtain ⟨as, r1⟩ := Dp.reads I p1 x v ((ix.mono sb).dp f1) rx
          obtain ⟨bs, r2⟩ := Dp.reads I p2 y u ((iy.mono sb).dp f2) ry
          have hm : X.A.units + min p1.depth p2.depth < cLine := by
            have := Nat.min_le_left p1.depth p2.depth
            omega
          exact PySem.W.gt_data r1 r2 hc.1.1 (fun z => by rw [z] at hc; exact Bool.noConfusion hc.2) hm ⟨.bl _, H, I, rfl, q _ Hf H (.refl sb) (by cases (PySem.W.dataLt p1 p2) <;> cases (PySem.W.dataLt p2 p1) <;> rw [Is])⟩
        · cases e1
      · cases e1
theorem od_ge (hu : X.A.units + 64 < cLine) : OpR X (compareOp .GtE) (rD2 X.K X.mg geD) := by
  intro pins s σ H x y v u Q I rx ry h
  obtain ⟨Hf, dx, dy, d, sb, ix, iy, e, q⟩ := h
  unfold geD at e
  split at e
  · cases e; cases ix; cases iy
    exact op_ge pins s σ H _ _ v u Q I rx ry ⟨_, _, rfl, rfl, q _ Hf H (.refl sb) (by rw [Is])⟩
  · cases e1 : geD.geP dx dy with
    | none => rw [e1] at e; cases e
    | some b =>
      rw [e1] at e; cases e
      unfold geD.geP at e1
      split at e1
      · rename_i p1 p2 f1 f2
        split at e1
        · rename_i hc
          cases e1
          simp only [Bool.and_eq_true, decide_eq_true_eq, beq_iff_eq] at hc
          obtain ⟨as, r1⟩ := Dp.reads I p1 x v ((ix.mono sb).dp f1) rx
          obtain ⟨bs, r2⟩ := Dp.reads I p2 y u ((iy.mono sb).dp f2) ry
          have hm : X.A.units + min p1.depth p2.depth < cLine := by
            have := Nat.min_le_left p1.depth p2.depth
            omega
          exact PySem.W.ge_data r1 r2 hc.1.1 (fun z => by rw [z] at hc; exact Bool.noConfusion hc.2) hm ⟨.bl _, H, I, rfl, q _ Hf H (.refl sb) (by cases (PySem.W.dataLt p1 p2) <;> cases (PySem.W.dataLt p2 p1) <;> rw [Is])⟩
        · cases e1
      · cases e1
end
end DL
namespace DL
open PySem L2
section
variable (K : PySem.W.Frag) (mg : Str → Option Value) (fx : Fx) [DL.TC]
def FrQ (Hf H : Hp) (Q : VK) : List D → S → Prop := fun ds s' => ∀ p vs Hf' H', Ste fx.bag Hf H Hf' H' → BagAt fx.bag H' s' → H' p = some (.lst vs) → Hf' p = none → H p = none → IsL K mg Hf' ds vs → ds.length ≤ sizeLine → Q (.ref p) H'
def tF (G : List Sl) {m : Type → Type} [Mo m] (x : m (List D)) : TE := fun σ H Q => ∃ Hf s, StS K mg fx Hf H σ G s ∧ Mo.wp x s (FrQ K mg fx Hf H Q) (EX K mg fx G σ)
end
def mkL {m : Type → Type} [Mo m] (x : m (List D)) : m D := do
  let ds ← x
  pure (.lst ds)
def szL (ds : List D) : Option (List D) := if ds.length ≤ sizeLine then some ds else none
theorem Ste.upd [DL.TC] {bag : List Addr} {Hf H Hf' H' : Hp} (e : Ste bag Hf H Hf' H') {p : Addr} {o : HO} (hp : H p = none) (hf : Hf' p = none) (hk : Pl H' p) : Ste bag Hf H Hf' (L2.upd H' p o) := by
  refine ⟨e.sub, fun a u q => ?_, fun a u q n k => ?_, fun a n => ?_, e.fresh, fun t => (e.tab t).updP hk⟩
  · have ne : a ≠ p := fun z => by rw [z, hf] at q; cases q
    rw [upd_ne ne]; exact e.top a u q
  · have ne : a ≠ p := fun z => by rw [z, hp] at q; cases q
    rw [upd_ne ne]; exact e.keep a u q n k
  · by_cases c : a = p
    · rw [c, upd_same]; simp
    · rw [upd_ne c]; exact e.dom a n
section
variable {K : PySem.W.Frag} {mg : Str → Option Value} {fx : Fx} {Hf H : Hp} {σ : L2.St} {G : List Sl} {s : S} [DL.TC]
theorem StS.other (st : StS K mg fx Hf H σ G s) {p : Addr} {o : HO} (hf : Hf p = none) (h0 : fx.H0 p = none) (nb : p ∉ fx.bag) (hk : Pl H p) (no : ∀ (j : Nat) (q : Addr), σ[j]? = some (some (.ref q)) → (∀ x, G[j]? = some x → isOw x = true → q ≠ p)) : StS K mg fx Hf (upd H p o) σ G s := by
  refine ⟨st.ste.upd h0 hf hk, st.bag.upd nb, fun b m => ⟨(st.bagg b m).1, ?_, (st.bagg b m).2.2⟩, st.tb.updP hk, st.len, fun j x ex => ?_, st.dis⟩
  · have ne : b ≠ p := fun z => st.owNb h0 nb (z ▸ m)
    rw [upd_ne ne]; exact (st.bagg b m).2.1
  · exact (st.sl j x ex).upd (.inl fun m => (st.bagg _ (List.mem_append_left _ m)).2.2 m h0) fun q o e => no j q e x ex o
end
section
variable {X : Cx} {fx : Fx} {m : Type → Type} [Mo m] {G : List Sl} {e : Expr} [DL.TC]
theorem de_frz {x : m (List D)} (h : PE X e (tF X.K X.mg fx G x)) : PE X e (tE X.K X.mg fx G (mkL x)) := peI h fun σ H Q ⟨Hf, s, st, w⟩ =>
  ⟨Hf, s, st, Mo.wp_mono (Mo.wp_bind w) (fun ds s' k p vs Hf' H' e bg hp hf hn l hz => by
    have k' := Mo.wp_pure k
    have sb : Sub Hf' (upd Hf' p (.lst vs)) := fun a o q => by
      have ne : a ≠ p := fun z => by rw [z, hf] at q; cases q
      rw [upd_ne ne]; exact q
    refine k' (.ref p) (upd Hf' p (.lst vs)) H' ⟨e.sub.trans sb, fun a o q => ?_, e.keep, e.dom, fun a o q => ?_, e.tab⟩ bg ⟨hz, p, vs, rfl, upd_same, l.mono sb⟩
    · by_cases c : a = p
      · subst c; rw [upd_same] at q; cases q; exact hp
      · rw [upd_ne c] at q; exact e.top a o q
    · by_cases c : a = p
      · subst c; exact .inr hn
      · rw [upd_ne c] at q; exact e.fresh a o q) fun e s' k => k⟩
theorem frq_new {Hf H : Hp} {σ : L2.St} {s : S} {ds : List D} {vs : List V} {Q : VK} (st : StS X.K X.mg fx Hf H σ G s) {Hf0 H0 : Hp} (e : Ste fx.bag Hf0 H0 Hf H) (h : FrQ X.K X.mg fx Hf0 H0 Q ds s) (l : IsL X.K X.mg Hf ds vs) (hz : ds.length ≤ sizeLine) (p : Addr) (hp : H p = none) : Q (.ref p) (upd H p (.lst vs)) := by
  have hn : H0 p = none := by
    cases q : H0 p with
    | none => rfl
    | some o => exact absurd hp (e.dom p (by rw [q]; simp))
  obtain ⟨_, nb, hf⟩ := st.new0 hp
  exact h p vs Hf _ (e.upd hn hf (.none hp)) (st.bag.upd nb) upd_same hf hn l hz
theorem df_list {es : List Expr} {pos : Pos} {ys : m (List D)} (h : PA X es (tA X.K X.mg fx G ys)) : PE X (.List es pos) (tF X.K X.mg fx G (do let ds ← ys; ask (szL ds))) := peI (pe_lst h) fun σ H Q ⟨Hf, s, st, w⟩ =>
  ⟨Hf, s, st, Mo.wp_mono (Mo.wp_bind w) (fun ds s1 k vs Hf1 H1 e bg l => by
    have k' := Mo.wp_lift k
    by_cases hz : ds.length ≤ sizeLine
    · have e1 : szL ds = some ds := if_pos hz
      rw [e1] at k'
      exact ⟨by rw [← l.len]; exact hz, fun p hp => frq_new (st.step e bg) e k' l hz p hp⟩
    · have e1 : szL ds = none := if_neg hz
      rw [e1] at k'
      exact k'.elim) fun e s' k => k⟩
theorem de_tup {es : List Expr} {pos : Pos} {x1 : Nat} {ys : m (List D)} (h : PA X es (tA X.K X.mg fx G ys)) : PE X (.Tuple es x1 pos) (tE X.K X.mg fx G (do let ds ← ys; let ds ← ask (szL ds); pure (.tup ds))) := peI (pe_tup h) fun σ H Q ⟨Hf, s, h⟩ =>
  (h.bind.mono fun vs H1 ⟨ds, Hf1, s1, sb, l, h1⟩ => by
    have k' := Mo.wp_lift (Mo.wp_bind h1.2)
    by_cases hz : ds.length ≤ sizeLine
    · have e1 : szL ds = some ds := if_pos hz
      rw [e1] at k'
      refine ⟨by rw [← l.len]; exact hz, fun p hp => (Mo.wp_pure k') _ _ _ (.new h1.1.top hp) (h1.1.bag.upd (h1.1.new0 hp).2.1) ?_⟩
      exact ⟨hz, p, vs, rfl, .inl (.inl upd_same), l.mono (Ste.new (bag := []) h1.1.top hp).sub⟩
    · have e1 : szL ds = none := if_neg hz
      rw [e1] at k'
      exact k'.elim).to
end
def truD : D → Option Bool
  | .non => some false
  | .bl b => some b
  | .int i => some (i != 0)
  | .str s => some (!s.isEmpty)
  | .tup ds => some (!ds.isEmpty)
  | .lst ds => some (!ds.isEmpty)
  | _ => none
theorem isEmpty_len {α β : Type} {a : List α} {b : List β} (h : a.length = b.length) : a.isEmpty = b.isEmpty := by
  cases a <;> cases b <;> simp at h ⊢
section
variable {K : PySem.W.Frag} {mg : Str → Option Value} [DL.TC]
theorem is_bl {H : Hp} (b : Bool) : Is K mg H (.bl b) (.bl b) := by
  cases b <;> rw [Is]
theorem is_int {H : Hp} (b : Int) : Is K mg H (.int b) (.int b) := by rw [Is]
theorem tru_is {Hf H : Hp} (sb : Sub Hf H) {d : D} {v : V} {b : Bool} (i : Is K mg Hf d v) (e : truD d = some b) : TruV K v H b := by
  cases d with
  | non => cases i; cases e; exact rfl
  | bl c => cases i; cases e; exact rfl
  | int c => cases i; cases e; exact rfl
  | str c =>
    obtain ⟨rfl, hz⟩ := i
    cases e
    refine ⟨by rw [str_len]; exact hz, ?_⟩
    rw [str_len]
    cases c with
    | nil => rfl
    | cons x r =>
      show (!(x :: r).isEmpty) = ((((x :: r).length : Nat) : Int) != 0)
      simp
      omega
  | tup ds =>
    obtain ⟨_, a, vs, rfl, t, l⟩ := i
    cases e
    exact .inr (.inl ⟨vs, sb.sqt t, by rw [isEmpty_len l.len]⟩)
  | lst ds =>
    obtain ⟨_, a, vs, rfl, t, l⟩ := i
    cases e
    exact .inl ⟨vs, .inl (.inl (sb _ _ t)), by rw [isEmpty_len l.len]⟩
  | dic _ _ => cases e
  | ndc _ _ => cases e
  | ins _ _ _ => cases e
  | scr _ => cases e
  | xc _ _ _ _ => cases e
end
section
variable {X : Cx} {fx : Fx} {m : Type → Type} [Mo m] {G : List Sl} {a b c : Expr} {rest : List Expr} {pos : Pos} {x y : m D} {t u : m Bool} [DL.TC]
def andM (t u : m Bool) : m Bool := do
  let b ← t
  if b = true then u else pure false
def orM (t u : m Bool) : m Bool := do
  let b ← t
  if b = true then pure true else u
def notM (t : m Bool) : m Bool := do
  let b ← t
  pure (!b)
def iteM {α : Type} (t : m Bool) (x y : m α) : m α := do
  let b ← t
  if b = true then x else y
def andV (x y : m D) : m D := do
  let d ← x
  let b ← ask (truD d)
  if b = true then y else pure d
def orV (x y : m D) : m D := do
  let d ← x
  let b ← ask (truD d)
  if b = true then pure d else y
def notV (x : m D) : m D := do
  let d ← x
  let b ← ask (truD d)
  pure (.bl (!b))
theorem dt_tru (ha : PE X a (tE X.K X.mg fx G x)) (he : ∀ whole, isTrue a X.env whole = (do let v ← whole; standAt a.pos; holding [v] (truthy v)) := by intro _; rfl) :
    PT X a (tT X.K X.mg fx G (do let d ← x; ask (truD d))) := ptI (pt_truth ha he) fun σ H Q ⟨Hf, s, h⟩ =>
  (h.bind.mono fun v H1 ⟨d, Hf1, s1, sb, r, h1⟩ => by
    obtain ⟨k, e, q⟩ := h1.ask
    exact ⟨k, tru_is h1.1.top r e, q k Hf1 H1 (.refl h1.1.top) rfl⟩).to
theorem dw_and1 (ha : PT X a (tT X.K X.mg fx G t)) : PW X (.BoolOp .And [a] pos) (tT X.K X.mg fx G t) := pw_and1 ha
theorem dw_or1 (ha : PT X a (tT X.K X.mg fx G t)) : PW X (.BoolOp .Or [a] pos) (tT X.K X.mg fx G t) := pw_or1 ha
theorem dw_and (ha : PT X a (tT X.K X.mg fx G t)) (hb : PW X (.BoolOp .And (b :: rest) pos) (tT X.K X.mg fx G u)) : PW X (.BoolOp .And (a :: b :: rest) pos) (tT X.K X.mg fx G (andM t u)) := pwI (pw_and ha hb) fun σ H Q ⟨Hf, s, h⟩ =>
  (h.bind.mono fun v H1 ⟨d, Hf1, s1, sb, r, h1⟩ => by
    subst r
    cases v with
    | true => exact h1.to
    | false => exact h1.pure rfl).to
theorem dw_or (ha : PT X a (tT X.K X.mg fx G t)) (hb : PW X (.BoolOp .Or (b :: rest) pos) (tT X.K X.mg fx G u)) : PW X (.BoolOp .Or (a :: b :: rest) pos) (tT X.K X.mg fx G (orM t u)) := pwI (pw_or ha hb) fun σ H Q ⟨Hf, s, h⟩ =>
  (h.bind.mono fun v H1 ⟨d, Hf1, s1, sb, r, h1⟩ => by
    subst r
    cases v with
    | true => exact h1.pure rfl
    | false => exact h1.to).to
theorem dt_not (ha : PT X a (tT X.K X.mg fx G t)) : PT X (.UnaryOp .Not a pos) (tT X.K X.mg fx G (notM t)) := ptI (pt_not ha) fun σ H Q ⟨Hf, s, h⟩ =>
  (h.bind.mono fun v H1 ⟨d, Hf1, s1, sb, r, h1⟩ => by
    subst r
    exact h1.pure rfl).to
theorem de_not (ha : PE X a (tE X.K X.mg fx G x)) : PE X (.UnaryOp .Not a pos) (tE X.K X.mg fx G (notV x)) := peI (pe_notT ha) fun σ H Q ⟨Hf, s, h⟩ =>
  (h.bind.mono fun v H1 ⟨d, Hf1, s1, sb, r, h1⟩ => by
    have h2 := h1.bind (rl := fun _ a b => b = a) (β := Bool)
    have k := Mo.wp_lift (Mo.wp_bind h1.2)
    cases e : truD d with
    | none => rw [e] at k; exact k.elim
    | some b =>
      rw [e] at k
      exact ⟨b, tru_is h1.1.top r e, (Mo.wp_pure k) _ Hf1 H1 (.refl h1.1.top) h1.1.bag (is_bl _)⟩).to
theorem de_and (ha : PE X a (tE X.K X.mg fx G x)) (hb : PE X (.BoolOp .And (b :: rest) pos) (tE X.K X.mg fx G y)) : PE X (.BoolOp .And (a :: b :: rest) pos) (tE X.K X.mg fx G (andV x y)) := peI (pe_andT ha hb) fun σ H Q ⟨Hf, s, h⟩ =>
  (h.bind.mono fun v H1 ⟨d, Hf1, s1, sb, r, h1⟩ => by
    have k := Mo.wp_lift (Mo.wp_bind h1.2)
    cases e : truD d with
    | none => rw [e] at k; exact k.elim
    | some b =>
      rw [e] at k
      refine ⟨b, tru_is h1.1.top r e, ?_⟩
      cases b with
      | true => exact ⟨Hf1, s1, h1.1, k⟩
      | false => exact (Mo.wp_pure k) _ Hf1 H1 (.refl h1.1.top) h1.1.bag r).to
theorem de_or (ha : PE X a (tE X.K X.mg fx G x)) (hb : PE X (.BoolOp .Or (b :: rest) pos) (tE X.K X.mg fx G y)) : PE X (.BoolOp .Or (a :: b :: rest) pos) (tE X.K X.mg fx G (orV x y)) := peI (pe_orT ha hb) fun σ H Q ⟨Hf, s, h⟩ =>
  (h.bind.mono fun v H1 ⟨d, Hf1, s1, sb, r, h1⟩ => by
    have k := Mo.wp_lift (Mo.wp_bind h1.2)
    cases e : truD d with
    | none => rw [e] at k; exact k.elim
    | some b =>
      rw [e] at k
      refine ⟨b, tru_is h1.1.top r e, ?_⟩
      cases b with
      | false => exact ⟨Hf1, s1, h1.1, k⟩
      | true => exact (Mo.wp_pure k) _ Hf1 H1 (.refl h1.1.top) h1.1.bag r).to
theorem de_one {op : BoolOp} (ha : PE X a (tE X.K X.mg fx G x)) : PE X (.BoolOp op [a] pos) (tE X.K X.mg fx G x) := pe_one ha
theorem de_ifExp (hc : PT X c (tT X.K X.mg fx G t)) (ha : PE X a (tE X.K X.mg fx G x)) (hb : PE X b (tE X.K X.mg fx G y)) : PE X (.IfExp c a b pos) (tE X.K X.mg fx G (iteM t x y)) := peI (pe_ifExp hc ha hb) fun σ H Q ⟨Hf, s, h⟩ =>
  (h.bind.mono fun v H1 ⟨d, Hf1, s1, sb, r, h1⟩ => by
    subst r
    cases v with
    | true => exact h1.to
    | false => exact h1.to).to
def chainM (f g : D → D → Option D) (x y z : m D) : m D := do
  let u ← x
  let v ← y
  let p ← ask ((f u v).bind bOf)
  if p = true then do
    let w ← z
    ask (g v w)
  else pure (.bl false)
theorem chain_read {op op' : CmpOp} {f g : D → D → Option D} {z : m D} {σ : L2.St} {H : Hp} {Q : VK} (h : tE X.K X.mg fx G (chainM f g x y z) σ H Q) :
    tChain (rD2 X.K X.mg f) (rD2 X.K X.mg g) (tE X.K X.mg fx G x) (tE X.K X.mg fx G y) (tE X.K X.mg fx G z) σ H Q := by
  obtain ⟨Hf, s, h⟩ := h
  refine (h.bind.mono fun v1 H1 ⟨d1, Hf1, s1, sb1, r1, h1⟩ => (h1.bind.mono fun v2 H2 ⟨d2, Hf2, s2, sb2, r2, h2⟩ => ?_).to).to
  have k := Mo.wp_lift (Mo.wp_bind h2.2)
  cases e : f d1 d2 with
  | none => rw [e] at k; exact k.elim
  | some d =>
    cases d with
    | bl p =>
      rw [e] at k
      have k' : Mo.wp (if p = true then (do let w ← z; ask (g d2 w)) else pure (.bl false) : m D) s2 _ _ := k
      refine ⟨Hf2, d1, d2, .bl p, h2.1.topT, r1.mono sb2, r2, e, fun u Hf3 H3 e3 i3 => ⟨p, i3, ?_⟩⟩
      have st3 := h2.1.step e3.wide (e3.bag h2.1.bag)
      cases p with
      | true =>
        have h3 : tX X.K X.mg fx G (fun H d v => Is X.K X.mg H d v) (do let w ← z; ask (g d2 w) : m D) Hf3 s2 σ H3 Q :=
          ⟨st3, Mo.wp_mono k' (fun a s' q b Hf' H' e bg i => q b Hf' H' (e3.wide.trans e) bg i) fun e s' q => q⟩
        show tE X.K X.mg fx G z σ H3 _
        exact (h3.bind.mono fun v4 H4 ⟨d4, Hf4, s4, sb4, r4, h4⟩ => by
          obtain ⟨d, e, q⟩ := h4.ask
          exact ⟨Hf4, d2, d4, d, h4.1.topT, (r2.mono e3.sub).mono sb4, r4, e, q⟩).to
      | false => exact (Mo.wp_pure k') _ Hf3 H3 e3.wide (e3.bag h2.1.bag) (is_bl _)
    | _ => rw [e] at k; exact k.elim
theorem test_read {x : m D} {Hf : Hp} {s : S} {σ : L2.St} {H : Hp} {Q : Bool → Hp → Prop} (h : tX X.K X.mg fx G (fun _ a b => b = a) (do let d ← x; ask (bOf d)) Hf s σ H Q) : tE X.K X.mg fx G x σ H fun v H' => ∃ k, v = .bl k ∧ Q k H' :=
  (h.bind.mono fun v H1 ⟨d, Hf1, s1, sb, r, h1⟩ => by
    obtain ⟨k, e, q⟩ := h1.ask
    cases d with
    | bl b =>
      cases e
      exact ⟨_, r, q _ Hf1 H1 (.refl h1.1.top) rfl⟩
    | _ => cases e).to
theorem dt_chain {op op' : CmpOp} {f g : D → D → Option D} {z : m D} (ho : OpR X (compareOp op) (rD2 X.K X.mg f)) (ho' : OpR X (compareOp op') (rD2 X.K X.mg g)) (ha : PE X a (tE X.K X.mg fx G x)) (hb : PE X b (tE X.K X.mg fx G y)) (hc : PE X c (tE X.K X.mg fx G z))
    (hm : lastMarks [op, op'] [b, c] = false := by with_unfolding_all rfl) : PT X (.Compare a [op, op'] [b, c] pos) (tT X.K X.mg fx G (do let d ← chainM f g x y z; ask (bOf d))) := ptI (pt_chain ho ho' ha hb hc hm) fun σ H Q ⟨Hf, s, h⟩ => chain_read (op := op) (op' := op') (test_read h)
end
end DL
namespace DL
open PySem L2
section
variable {X : Cx} {tg l : Expr} {tl : TE} [DL.TC]
theorem iter_sq {tg : Expr} {pins : List (Addr × Obj)} {σ : L2.St} {H1 : Hp} {s1 : Shared} {R : It → Hp → Prop} {a : Addr} (I : L2.Inv X pins σ H1 s1) (hq : ((∃ xs, SqL X.K H1 a xs) ∧ R (Itl X.K a) H1) ∨ ((∃ xs, SqT X.K H1 a xs) ∧ R (Itt X.K a) H1)) :
    wpAny (model X.prog X.w) X.A (pyIter (.ref a)) (PIE X pins σ tg R) X.xe s1 :=
  hq.elim (fun ⟨⟨_, is⟩, q⟩ => let ⟨_, _, lies, _⟩ := I.list is
      wpAny_pyIter_list lies.isList (pi_one (tk := s1.toks) I _ (turn_list a _) ⟨_, Heap.get?_push_size _ rfl, rfl, rfl⟩ q))
    fun ⟨⟨_, is⟩, q⟩ => let ⟨its, _, lies, _⟩ := I.tuple is
      wpAny_pyIter_tuple (show s1.heap.IsTuple a its.toArray from lies) (pi_one (tk := s1.toks) I _ (turn_tuple a _) ⟨_, Heap.get?_push_size _ rfl, rfl, rfl⟩ q)
theorem piI {it : Expr} {t t' : TI} (h : PI X tg it t) (w : ∀ σ H Q, t' σ H Q → t σ H Q) : PI X tg it t' := ⟨fun pins s σ H Q I q => h.run pins s σ H Q I (w _ _ _ q)⟩
end
def sqOf : D → Option (List D)
  | .lst ds => some ds
  | .tup ds => some ds
  | _ => none
def intOf : D → Option Int
  | .int i => some i
  | _ => none
def rangeL (lo : Int) (n : Nat) : List D := (List.range n).map fun (k : Nat) => .int (lo + (k : Int))
def enumL (ds : List D) : List D := ds.mapIdx fun i d => .tup [.int (i : Int), d]
section
variable {K : PySem.W.Frag} {mg : Str → Option Value} [DL.TC]
theorem yl_list {Hf : Hp} {ds : List D} {a : Addr} {vs : List V} (hz : ds.length ≤ sizeLine) (h : Hf a = some (.lst vs)) (l : IsL K mg Hf ds vs) : Yl K mg (Itl K a) Hf ds := ⟨hz, fun Hf2 H s1 s2 i => by
  have hq : SqL K H a vs := .inl (.inl (s2 _ _ (s1 _ _ h)))
  refine ⟨fun d hd => ?_, fun hl => ⟨vs, hq, by rw [← l.len]; exact hl⟩⟩
  obtain ⟨v, hv, iv⟩ := l.get hd
  exact ⟨⟨vs, v, hq, hv⟩, fun x H' ⟨e, f⟩ => by
    subst e
    have := f vs hq
    rw [hv] at this
    cases this
    exact ⟨Hf2, .refl s2, iv.mono s1⟩⟩⟩
theorem yl_tup {Hf : Hp} {ds : List D} {a : Addr} {vs : List V} (hz : ds.length ≤ sizeLine) (h : SqT K Hf a vs) (l : IsL K mg Hf ds vs) : Yl K mg (Itt K a) Hf ds := ⟨hz, fun Hf2 H s1 s2 i => by
  have hq : SqT K H a vs := s2.sqt (s1.sqt h)
  refine ⟨fun d hd => ?_, fun hl => ⟨vs, hq, by rw [← l.len]; exact hl⟩⟩
  obtain ⟨v, hv, iv⟩ := l.get hd
  exact ⟨⟨vs, v, hq, hv⟩, fun x H' ⟨e, f⟩ => by
    subst e
    have := f vs hq
    rw [hv] at this
    cases this
    exact ⟨Hf2, .refl s2, iv.mono s1⟩⟩⟩
theorem yl_range (lo : Int) (n : Nat) {Hf : Hp} (hz : n ≤ sizeLine) : Yl K mg (Itr lo n) Hf (rangeL lo n) := ⟨by simpa [rangeL] using hz, fun Hf2 H s1 s2 i => by
  refine ⟨fun d hd => ?_, fun hl => ?_⟩
  rotate_left
  · have z : n ≤ i := by simpa [rangeL] using hl
    exact z
  have hi : i < n := by
    have := (List.getElem?_eq_some_iff.mp hd).1
    simpa [rangeL] using this
  have e : d = .int (lo + (i : Int)) := by
    unfold rangeL at hd
    rw [List.getElem?_map, List.getElem?_range hi] at hd
    cases hd
    rfl
  subst e
  exact ⟨hi, fun x H' ⟨e1, e2⟩ => by
    subst e1 e2
    exact ⟨Hf2, .refl s2, is_int _⟩⟩⟩
theorem yl_str (s : List Nat) {Hf : Hp} (hz : s.length ≤ sizeLine) : Yl K mg (Its ⟨s.toArray⟩) Hf (s.map fun c => .str [c]) := ⟨by simpa using hz, fun Hf2 H s1 s2 i => by
  refine ⟨fun d hd => ?_, fun hl => ?_⟩
  · have hi : i < s.length := by
      have := (List.getElem?_eq_some_iff.mp hd).1
      simpa using this
    rw [List.getElem?_map, List.getElem?_eq_getElem hi] at hd
    cases hd
    refine ⟨?_, fun x H' ⟨e1, c, e2, e3⟩ => ?_⟩
    · show i < s.toArray.size
      simpa using hi
    · subst e1 e3
      refine ⟨Hf2, .refl s2, ?_⟩
      have e2' : s.toArray[i]? = some c := e2
      rw [List.getElem?_toArray, List.getElem?_eq_getElem hi] at e2'
      cases e2'
      exact ⟨rfl, by show 1 ≤ sizeLine; decide⟩
  · show s.toArray.size ≤ i
    simpa using hl⟩
theorem yl_enum {Hf : Hp} {ds : List D} {a : Addr} {vs : List V} (hz : ds.length ≤ sizeLine) (h : Hf a = some (.lst vs)) (l : IsL K mg Hf ds vs) : Yl K mg (Ite K a) Hf (enumL ds) := ⟨by simpa [enumL] using hz, fun Hf2 H s1 s2 i => by
  have hq : SqL K H a vs := .inl (.inl (s2 _ _ (s1 _ _ h)))
  refine ⟨fun d hd => ?_, fun hl => ⟨vs, hq, by rw [← l.len]; simpa [enumL] using hl⟩⟩
  have hi : i < ds.length := by
    have := (List.getElem?_eq_some_iff.mp hd).1
    simpa [enumL] using this
  have ed : d = .tup [.int (i : Int), ds[i]] := by
    unfold enumL at hd
    rw [List.getElem?_mapIdx, List.getElem?_eq_getElem hi] at hd
    cases hd
    rfl
  subst ed
  obtain ⟨v, hv, iv⟩ := l.get (List.getElem?_eq_getElem hi)
  refine ⟨⟨vs, v, hq, hv⟩, fun x H' ⟨T, y, e1, hT, e2, f⟩ => ?_⟩
  subst e1 e2
  have := f vs hq
  rw [hv] at this
  cases this
  refine ⟨upd Hf2 T (.tup [.int (i : Nat), v]), .new s2 hT, ?_⟩
  exact ⟨by show 2 ≤ sizeLine; decide, T, _, rfl, .inl (.inl upd_same), .cons (is_int _) (.cons ((iv.mono s1).mono (Ste.new (bag := []) s2 hT).sub) .nil)⟩⟩
end
section
variable {X : Cx} {fx : Fx} {m : Type → Type} [Mo m] {G : List Sl} {tg l a b : Expr} {x y : m D} {ys : m (List D)} {pos : Pos} {kk : Nat} [DL.TC]
def strOf : D → Option (List Nat)
  | .str s => some s
  | _ => none
def chrs (s : List Nat) : List D := s.map fun c => .str [c]
def rng1 : List D → Option (List D)
  | [.int j] => if -(2 ^ 62) ≤ j ∧ j ≤ 1000000 then some (rangeL 0 j.toNat) else none
  | _ => none
theorem di_range1 {p : Pos} (hg : Gl X "range") (hm : X.mg "range" = none) (ha : PA X [a] (tA X.K X.mg fx G ys)) (hs : starEach [a] X.env = [(false, eval a X.env)] := by rfl) :
    PI X tg (.Call (.Name "range" p) [a] [] pos) (tI X.K X.mg fx G (do let ds ← ys; ask (rng1 ds))) := piI (pi_range1 hg hm ha hs) fun σ H Q ⟨Hf, s, h⟩ =>
  (h.bind.mono fun v H1 ⟨d, Hf1, s1, sb, r, h1⟩ => by
    obtain ⟨ds, e, q⟩ := h1.ask
    unfold rng1 at e
    split at e
    · rename_i j
      split at e
      · rename_i hj
        cases e
        obtain ⟨v1, r1, rfl, rfl, rfl⟩ := r
        exact ⟨j, rfl, hj.1, Int.lt_of_le_of_lt hj.2 (by decide), q _ Hf1 H1 (.refl h1.1.top) (yl_range _ _ (by rw [sizeLine_eq]; omega))⟩
      · cases e
    · cases e).to
def enumOf : List D → Option (List D)
  | [.lst ds] => some (enumL ds)
  | _ => none
theorem di_enumL {p tpos : Pos} {elts : List Expr} {k : Nat} (hg : Gl X "enumerate") (hm : X.mg "enumerate" = none) (ha : PA X [a] (tA X.K X.mg fx G ys)) (hs : starEach [a] X.env = [(false, eval a X.env)] := by rfl) :
    PI X (.Tuple elts k tpos) (.Call (.Name "enumerate" p) [a] [] pos) (tI X.K X.mg fx G (do let ds ← ys; ask (enumOf ds))) := piI (pi_enum hg hm ha hs) fun σ H Q ⟨Hf, s, h⟩ =>
  (h.bind.mono fun v H1 ⟨d, Hf1, s1, sb, r, h1⟩ => by
    obtain ⟨ds, e, q⟩ := h1.ask
    unfold enumOf at e
    split at e
    · rename_i es
      cases e
      obtain ⟨v1, r1, rfl, ⟨hz, a, vs, rfl, t, il⟩, rfl⟩ := r
      exact ⟨a, vs, rfl, .inl (.inl (h1.1.top _ _ t)), q _ Hf1 H1 (.refl h1.1.top) (yl_enum hz t il)⟩
    · cases e).to
def un2 : D → Option (D × D)
  | .tup [a, b] => some (a, b)
  | _ => none
def un3 : D → Option (D × D × D)
  | .tup [a, b, c] => some (a, b, c)
  | _ => none
theorem pgd_tup2 (C : Cok X fx kk) (i j : Nat) {n1 n2 : Str} {p1 p2 : Pos} {k : Nat} (hi : X.N[i]? = some n1 := by rfl) (hx : Loc X.env.scope n1 := by first | exact Or.inl rfl | exact Or.inr rfl) (hf : X.fn n1 = true ∨ X.env.scope.names.lookup n1 = some .local := by first | exact .inl rfl | exact .inr rfl)
    (hi2 : X.N[j]? = some n2 := by rfl) (hx2 : Loc X.env.scope n2 := by first | exact Or.inl rfl | exact Or.inr rfl) (hf2 : X.fn n2 = true ∨ X.env.scope.names.lookup n2 = some .local := by first | exact .inl rfl | exact .inr rfl) :
    PGd X fx (.Tuple [.Name n1 p1, .Name n2 p2] k pos) (gTup X.K 2 (gCons (gName i) (gCons (gName j) gNil))) un2 (fun G d => (G.set i (.im d.1)).set j (.im d.2)) [i, j] :=
  ⟨pg_tup C.calm (pgs_cons (pg_name C.nd hi hx hf) (pgs_cons (pg_name C.nd hi2 hx2 hf2) pgs_nil)), fun {G Hf d v σ H s c Q} st r e q => by
    cases d with
    | tup ds =>
      obtain ⟨hz, a, vs, rfl, t, l⟩ := r
      unfold un2 at e
      split at e
      · rename_i d1 d2 eq
        cases eq
        cases e
        obtain ⟨v1, r1, rfl, i1, v2, r2, rfl, i2, rfl⟩ := l
        refine ⟨a, _, rfl, st.top.sqt t, rfl, v1, _, rfl, v2, _, rfl, rfl, q _ (fun k hk => ?_) (by simp) ((st.set i1).set i2)⟩
        rw [List.getElem?_set_ne (fun z => hk (by simp [z])), List.getElem?_set_ne (fun z => hk (by simp [z]))]
      · cases e
    | _ => cases e⟩
theorem pgd_tup3 (C : Cok X fx kk) (i j l : Nat) {n1 n2 n3 : Str} {p1 p2 p3 : Pos} {k : Nat} (hi : X.N[i]? = some n1 := by rfl) (hx : Loc X.env.scope n1 := by first | exact Or.inl rfl | exact Or.inr rfl) (hf : X.fn n1 = true ∨ X.env.scope.names.lookup n1 = some .local := by first | exact .inl rfl | exact .inr rfl)
    (hi2 : X.N[j]? = some n2 := by rfl) (hx2 : Loc X.env.scope n2 := by first | exact Or.inl rfl | exact Or.inr rfl) (hf2 : X.fn n2 = true ∨ X.env.scope.names.lookup n2 = some .local := by first | exact .inl rfl | exact .inr rfl)
    (hi3 : X.N[l]? = some n3 := by rfl) (hx3 : Loc X.env.scope n3 := by first | exact Or.inl rfl | exact Or.inr rfl) (hf3 : X.fn n3 = true ∨ X.env.scope.names.lookup n3 = some .local := by first | exact .inl rfl | exact .inr rfl) :
    PGd X fx (.Tuple [.Name n1 p1, .Name n2 p2, .Name n3 p3] k pos) (gTup X.K 3 (gCons (gName i) (gCons (gName j) (gCons (gName l) gNil)))) un3 (fun G d => ((G.set i (.im d.1)).set j (.im d.2.1)).set l (.im d.2.2)) [i, j, l] :=
  ⟨pg_tup C.calm (pgs_cons (pg_name C.nd hi hx hf) (pgs_cons (pg_name C.nd hi2 hx2 hf2) (pgs_cons (pg_name C.nd hi3 hx3 hf3) pgs_nil))), fun {G Hf d v σ H s c Q} st r e q => by
    cases d with
    | tup ds =>
      obtain ⟨hz, a, vs, rfl, t, l⟩ := r
      unfold un3 at e
      split at e
      · rename_i d1 d2 d3 eq
        cases eq
        cases e
        obtain ⟨v1, r1, rfl, i1, v2, r2, rfl, i2, v3, r3, rfl, i3, rfl⟩ := l
        refine ⟨a, _, rfl, st.top.sqt t, rfl, v1, _, rfl, v2, _, rfl, v3, _, rfl, rfl, q _ (fun k hk => ?_) (by simp) (((st.set i1).set i2).set i3)⟩
        rw [List.getElem?_set_ne (fun z => hk (by simp [z])), List.getElem?_set_ne (fun z => hk (by simp [z])), List.getElem?_set_ne (fun z => hk (by simp [z]))]
      · cases e
    | _ => cases e⟩
end
end DL
namespace DL
open PySem L2
section
variable {m : Type → Type} [Mo m] {γ : Type}
def lcF (u : D → Option γ) (xt : γ → m Bool) (xe : γ → m D) : List D → m (List D)
  | [] => pure []
  | d :: ds => do
    let c ← ask (u d)
    let b ← Mo.noex (xt c)
    if b = true then do
      let y ← Mo.noex (xe c)
      let r ← lcF u xt xe ds
      pure (y :: r)
    else lcF u xt xe ds
end
abbrev Fx.nox (fx : Fx) : Fx := { fx with W := fun _ _ _ _ => False, gx := none }
def wipeG (G : List Sl) : List Nat → List Sl
  | [] => G
  | v :: vs => (wipeG G vs).set v .un
theorem wipe_get {σ : L2.St} {i : Nat} : ∀ {vs : List Nat}, i ∉ vs → (wipe σ vs)[i]? = σ[i]?
  | [], _ => rfl
  | v :: vs, h => by
    unfold wipe
    rw [List.getElem?_set_ne (fun z => h (by simp [z])), wipe_get (fun z => h (List.mem_cons_of_mem _ z))]
theorem wipe_in {σ : L2.St} {i : Nat} : ∀ {vs : List Nat}, i ∈ vs → i < σ.length → (wipe σ vs)[i]? = some none
  | [], h, _ => by cases h
  | v :: vs, h, hl => by
    unfold wipe
    by_cases c : v = i
    · subst c
      rw [List.getElem?_set_self (by rw [wipe_length]; exact hl)]
    · rw [List.getElem?_set_ne c]
      rcases List.mem_cons.mp h with e | h'
      · exact absurd e.symm c
      · exact wipe_in h' hl
theorem wipeG_len {G : List Sl} : ∀ (vs : List Nat), (wipeG G vs).length = G.length
  | [] => rfl
  | v :: vs => by unfold wipeG; rw [List.length_set, wipeG_len vs]
theorem wipeG_get {G : List Sl} {i : Nat} : ∀ {vs : List Nat}, i ∉ vs → (wipeG G vs)[i]? = G[i]?
  | [], _ => rfl
  | v :: vs, h => by
    unfold wipeG
    rw [List.getElem?_set_ne (fun z => h (by simp [z])), wipeG_get (fun z => h (List.mem_cons_of_mem _ z))]
theorem wipeG_in {G : List Sl} {i : Nat} : ∀ {vs : List Nat} {x : Sl}, i ∈ vs → (wipeG G vs)[i]? = some x → x = .un
  | [], _, h, _ => by cases h
  | v :: vs, x, h, e => by
    unfold wipeG at e
    by_cases c : v = i
    · subst c
      have hl : v < (wipeG G vs).length := by
        have := (List.getElem?_eq_some_iff.mp e).1
        simpa using this
      rw [List.getElem?_set_self hl] at e
      cases e
      rfl
    · rw [List.getElem?_set_ne c] at e
      rcases List.mem_cons.mp h with e' | h'
      · exact absurd e'.symm c
      · exact wipeG_in h' e
theorem wipe_eq {σ σ2 : L2.St} {vs : List Nat} (hl : σ2.length = (wipe σ vs).length) (h : ∀ j, j ∉ vs → σ2[j]? = (wipe σ vs)[j]?) : wipe σ2 vs = wipe σ vs := by
  apply List.ext_getElem?
  intro i
  by_cases c : i ∈ vs
  · by_cases hi : i < σ.length
    · rw [wipe_in c hi, wipe_in c (by rw [hl, wipe_length]; exact hi)]
    · rw [List.getElem?_eq_none (by rw [wipe_length, hl, wipe_length]; omega), List.getElem?_eq_none (by rw [wipe_length]; omega)]
  · rw [wipe_get c, h i c]
section
variable {K : PySem.W.Frag} {mg : Str → Option Value} {fx : Fx} {Hf H : Hp} {σ : L2.St} {G : List Sl} {s : S} [DL.TC]
theorem StS.wiped (st : StS K mg fx Hf H σ G s) (vs : List Nat) : StS K mg fx.nox Hf H (wipe σ vs) (wipeG G vs) s := by
  have get : ∀ {i : Nat} {x : Sl}, (wipeG G vs)[i]? = some x → x ≠ .un → G[i]? = some x ∧ (wipe σ vs)[i]? = σ[i]? := fun {i x} e n => by
    by_cases c : i ∈ vs
    · exact absurd (wipeG_in c e) n
    · rw [wipeG_get c] at e
      exact ⟨e, wipe_get c⟩
  refine ⟨st.ste, st.bag, st.bagg, st.tb, by rw [wipe_length, wipeG_len]; exact st.len, fun i x e => ?_, fun i j x y p hij ex ey ox oy e1 e2 => ?_⟩
  · cases x with
    | un => trivial
    | im d =>
      obtain ⟨e', q⟩ := get e (by simp)
      rw [q]; exact st.sl i _ e'
    | bg =>
      obtain ⟨e', q⟩ := get e (by simp)
      rw [q]; exact st.sl i _ e'
    | ow ds =>
      obtain ⟨e', q⟩ := get e (by simp)
      rw [q]; exact st.sl i _ e'
    | od ks ds =>
      obtain ⟨e', q⟩ := get e (by simp)
      rw [q]; exact st.sl i _ e'
    | nd ks ds =>
      obtain ⟨e', q⟩ := get e (by simp)
      rw [q]; exact st.sl i _ e'
    | rf _ =>
      obtain ⟨e', q⟩ := get e (by simp)
      rw [q]; exact st.sl i _ e'
    | o2 _ _ =>
      obtain ⟨e', q⟩ := get e (by simp)
      rw [q]; exact st.sl i _ e'
    | rw _ _ =>
      obtain ⟨e', q⟩ := get e (by simp)
      rw [q]; exact st.sl i _ e'
    | ra _ _ =>
      obtain ⟨e', q⟩ := get e (by simp)
      rw [q]; exact st.sl i _ e'
    | ob ns ds =>
      obtain ⟨e', q⟩ := get e (by simp)
      rw [q]; exact st.sl i _ e'
  · have nx : x ≠ .un := fun z => by subst z; cases ox
    have ny : y ≠ .un := fun z => by subst z; cases oy
    obtain ⟨ex', q1⟩ := get ex nx
    obtain ⟨ey', q2⟩ := get ey ny
    rw [q1] at e1
    rw [q2] at e2
    exact st.dis i j x y p hij ex' ey' ox oy e1 e2
theorem StS.nox (st : StS K mg fx Hf H σ G s) : StS K mg fx.nox Hf H σ G s := ⟨st.ste, st.bag, st.bagg, st.tb, st.len, fun i x e => by
  have so := st.sl i x e
  cases x with
  | un => trivial
  | im d => exact so
  | ow ds => exact so
  | od ks ds => exact so
  | nd ks ds => exact so
  | rf _ => exact so
  | o2 _ _ => exact so
  | rw _ _ => exact so
  | ra _ _ => exact so
  | ob ns ds => exact so
  | bg => exact so, st.dis⟩
end
section
variable {X : Cx} {fx : Fx} {m : Type → Type} [Mo m] {G : List Sl} {γ : Type} {kk : Nat} [DL.TC]
theorem lc_read {xi : m (List D)} {u : D → Option γ} {xt : γ → m Bool} {xe : γ → m D} {g : TG} {st : List Sl → γ → List Sl} {is vs : List Nat} {tg : Expr} {K : PySem.W.Frag} {mg : Str → Option Value}
    (hg : ∀ {G : List Sl} {Hf : Hp} {d : D} {v : V} {σ : L2.St} {H : Hp} {s : S} {c : γ} {Q : L2.St → Hp → Prop}, StS K mg fx.nox Hf H σ G s → Is K mg Hf d v → u d = some c → (∀ σ', (∀ j, j ∉ is → σ'[j]? = σ[j]?) → σ'.length = σ.length → StS K mg fx.nox Hf H σ' (st G c) s → Q σ' H) → g v σ H Q)
    (hsub : ∀ i ∈ is, i ∈ vs) {σ : L2.St} {H : Hp} {Q : VK} (h : tF K mg fx G (do let ds ← xi; lcF u xt xe ds) σ H Q) :
    tLc (tI K mg fx G xi) g (fun σ H Q => ∃ c, tT K mg fx.nox (st (wipeG G vs) c) (xt c) σ H Q) (fun σ H Q => ∃ c, tE K mg fx.nox (st (wipeG G vs) c) (xe c) σ H Q) vs σ H Q := by
  obtain ⟨Hf0, s0, st0, w0⟩ := h
  refine ⟨Hf0, s0, st0, Mo.wp_mono (Mo.wp_bind w0) (fun ds s1 w1 J Hf1 H1 e1 bg1 yl Da hD => ?_) fun e s' k => k⟩
  have st1 := st0.step e1 bg1
  obtain ⟨nH0, nb, nf⟩ := st1.new0 hD
  have hn0 : H Da = none := by
    cases q : H Da with
    | none => rfl
    | some o => exact absurd hD (e1.dom Da (by rw [q]; simp))
  have no := st1.owNe hD
  refine ⟨fun i m H' => m = ds.length - i ∧ i ≤ ds.length ∧ ∃ Hf s acc accV, Sub Hf1 Hf ∧ StS K mg fx Hf H' σ G s ∧ Ste fx.bag Hf0 H Hf H' ∧ H' Da = some (.lst accV) ∧ IsL K mg Hf acc accV ∧ Hf Da = none ∧ acc.length ≤ i ∧
    Mo.wp (lcF u xt xe (ds.drop i)) s (fun r s' => FrQ K mg fx Hf0 H Q (acc ++ r) s') (EX K mg fx G σ), ⟨ds.length, by simp, Nat.zero_le _, Hf1, s1, [], [], .refl _, st1.other nf nH0 nb (.none hD) no, e1.upd hn0 nf (.none hD), upd_same, .nil, nf, Nat.zero_le _, w1⟩, ?_⟩
  rintro i m H2 ⟨rfl, hi, Hf2, s2, acc, accV, sb2, st2, e2, hD2, l2, nf2, la, w2⟩
  obtain ⟨y1, y2⟩ := yl.2 Hf2 H2 sb2 st2.top i
  by_cases hlt : i < ds.length
  · obtain ⟨go, yd⟩ := y1 ds[i] (List.getElem?_eq_getElem hlt)
    rw [List.drop_eq_getElem_cons hlt] at w2
    have w4 := Mo.wp_lift (Mo.wp_bind w2)
    refine .inr ⟨go, fun H' => i + 1 ≤ ds.length ∧ ∃ Hf s acc accV, Sub Hf1 Hf ∧ StS K mg fx Hf H' σ G s ∧ Ste fx.bag Hf0 H Hf H' ∧ H' Da = some (.lst accV) ∧ IsL K mg Hf acc accV ∧ Hf Da = none ∧ acc.length ≤ i + 1 ∧
      Mo.wp (lcF u xt xe (ds.drop (i + 1))) s (fun r s' => FrQ K mg fx Hf0 H Q (acc ++ r) s') (EX K mg fx G σ), fun H' q => ⟨ds.length - (i + 1), by omega, rfl, q⟩, fun x H3 y => ?_⟩
    obtain ⟨Hf3, e3, is3⟩ := yd x H3 y
    cases q : u ds[i] with
    | none => rw [q] at w4; exact w4.elim
    | some c =>
      rw [q] at w4
      have st3 := st2.step e3.wide (e3.bag st2.bag)
      refine hg (st3.wiped vs) is3 q fun σ2 hs hl st4 => ⟨wipe_eq hl fun j hj => hs j fun z => hj (hsub j z), c, Hf3, s2, st4, ?_⟩
      refine Mo.wp_mono (Mo.wp_noex (Mo.wp_bind w4)) (fun b s5 w5 b' Hf5 H5 e5 bg5 eb => ?_) fun _ _ f => f.elim
      subst eb
      have st5 := st3.step (fx := fx) (Hf' := Hf5) (H' := H5) e5 bg5
      have hD5 : H5 Da = some (.lst accV) := e5.keep _ _ (e3.keep _ _ hD2 (by simp) nofun) nb nofun
      have nf5 : Hf5 Da = none := e5.stayNone (e3.stayNone nf2 (by rw [hD2]; simp)) (by rw [e3.keep _ _ hD2 (by simp) nofun]; simp)
      have e25 : Ste fx.bag Hf2 H2 Hf5 H5 := (e3.wide).trans e5
      cases b' with
      | true =>
        refine ⟨c, Hf5, s5, st4.step e5 bg5, ?_⟩
        have w6 : Mo.wp (Mo.noex (xe c) >>= fun y => lcF u xt xe (ds.drop (i + 1)) >>= fun r => pure (y :: r)) s5 _ _ := w5
        refine Mo.wp_mono (Mo.wp_noex (Mo.wp_bind w6)) (fun y s6 w7 yv Hf6 H6 e6 bg6 is6 => ?_) fun _ _ f => f.elim
        have hD6 : H6 Da = some (.lst accV) := e6.keep _ _ hD5 nb nofun
        have nf6 : Hf6 Da = none := e6.stayNone nf5 (by rw [hD5]; simp)
        have e26 := e25.trans e6
        have st6 := st5.step (fx := fx) (Hf' := Hf6) (H' := H6) e6 bg6
        refine ⟨accV, hD6, ?_, hlt, Hf6, s6, acc ++ [y], accV ++ [yv], sb2.trans e26.sub, st6.other nf6 nH0 nb (.lst hD6) no, (e2.trans e26).upd hn0 nf6 (.lst hD6), upd_same, (l2.mono e26.sub).app (.cons is6 .nil), nf6, ?_, ?_⟩
        · rw [← l2.len]
          exact Nat.lt_of_lt_of_le (Nat.lt_of_le_of_lt la hlt) yl.1
        · rw [List.length_append, List.length_singleton]
          omega
        · refine Mo.wp_mono (Mo.wp_bind w7) (fun r s8 w8 => ?_) fun e s' k => k
          have w9 := Mo.wp_pure w8
          rw [List.append_assoc, List.singleton_append]
          exact w9
      | false => exact ⟨hlt, Hf5, s5, acc, accV, sb2.trans e25.sub, st5, e2.trans e25, hD5, l2.mono e25.sub, nf5, Nat.le_succ_of_le la, w5⟩
  · have e : i = ds.length := by omega
    subst e
    refine .inl ⟨y2 (Nat.le_refl _), ?_⟩
    rw [List.drop_length] at w2
    have w3 := Mo.wp_pure w2
    rw [List.append_nil] at w3
    exact w3 Da accV Hf2 H2 e2 st2.bag hD2 nf2 hn0 l2 (Nat.le_trans la yl.1)
end
end DL
namespace DL
open PySem L2
theorem Cok.blk [DL.TC] {X : Cx} {fx : Fx} {kk : Nat} (C : Cok X fx kk) (s : Shared) (H : Hp) (scope : Scope) (cenv : Env) (fp : List Addr) : Cok (X.blk s H scope cenv fp) fx.nox kk :=
  ⟨C.calm, fun _ => PassesOwn.never, ⟨fun _ _ ⟨_, _, _, _, _, _, _, _, _, _, _, _, _, _, _, _, w⟩ => w.1.elim, fun _ _ ⟨_, _, _, _, _, _, _, _, _, _, _, _, _, _, _, _, w⟩ => w.elim⟩, C.rm, C.nd, C.gd, C.hw⟩
theorem pts_true [DL.TC] {X : Cx} {fx : Fx} {m : Type → Type} [Mo m] {G : List Sl} : PTs X [] (tT X.K X.mg fx G (pure true : m Bool)) := ⟨fun pins s σ H Q I ⟨Hf, s', h⟩ => pts_nil.run pins s σ H Q I (h.pure rfl)⟩
theorem pts_test [DL.TC] {X : Cx} {fx : Fx} {m : Type → Type} [Mo m] {G : List Sl} {c : Expr} {t : m Bool} (h : PT X c (tT X.K X.mg fx G t)) : PTs X [c] (tT X.K X.mg fx G t) := pts_one h
theorem pts_ex {X : Cx} {ι : Type} {ifs : List Expr} {t : ι → TT} (h : ∀ i, PTs X ifs (t i)) : PTs X ifs (fun σ H Q => ∃ i, t i σ H Q) := ⟨fun pins s σ H Q I ⟨i, q⟩ => (h i).run pins s σ H Q I q⟩
theorem pe_ex {X : Cx} {ι : Type} {e : Expr} {t : ι → TE} (h : ∀ i, PE X e (t i)) : PE X e (fun σ H Q => ∃ i, t i σ H Q) := ⟨fun pins s σ H Q I ⟨i, q⟩ => (h i).run pins s σ H Q I q⟩
section
variable {X : Cx} {fx : Fx} {m : Type → Type} [Mo m] {G : List Sl} {γ α β : Type} {kk : Nat} {elt tg iter : Expr} {ifs : List Expr} {scope : Scope} {pos : Pos} {xi : m (List D)} {u : D → Option γ} {xt : γ → m Bool} {xe : γ → m D} {g : TG} {st : List Sl → γ → List Sl} {is : List Nat} [DL.TC]
theorem df_lc (own : List (Str × Nat)) (C : Cok X fx kk) (hi : PI X tg iter (tI X.K X.mg fx G xi)) (ok : BlkOk X.N X.env.scope scope own)
    (hg : ∀ (s : Shared) (H : Hp) (A : Addr) (cl : List (Str × Addr)) (fp : List Addr), PGd (X.blk s H scope (compEnvC scope cl A X.env) fp) fx.nox tg g u st is)
    (ht : ∀ (s : Shared) (H : Hp) (A : Addr) (cl : List (Str × Addr)) (fp : List Addr), Cok (X.blk s H scope (compEnvC scope cl A X.env) fp) fx.nox kk → ∀ c, PTs (X.blk s H scope (compEnvC scope cl A X.env) fp) ifs (tT X.K X.mg fx.nox (st (wipeG G (own.map (·.2))) c) (xt c)))
    (he : ∀ (s : Shared) (H : Hp) (A : Addr) (cl : List (Str × Addr)) (fp : List Addr), Cok (X.blk s H scope (compEnvC scope cl A X.env) fp) fx.nox kk → ∀ c, PE (X.blk s H scope (compEnvC scope cl A X.env) fp) elt (tE X.K X.mg fx.nox (st (wipeG G (own.map (·.2))) c) (xe c)))
    (hsub : ∀ i ∈ is, i ∈ own.map (·.2)) (hs : ∀ x, foldedSetIterable iter X.env x = pure x := by intro _; rfl) :
    PE X (.ListComp elt [⟨tg, iter, ifs, 0⟩] scope pos) (tF X.K X.mg fx G (do let ds ← xi; lcF u xt xe ds)) :=
  peI (pe_lc (own := own) C.calm C.nd hi ok (fun s H A cl fp => (hg s H A cl fp).1) (fun s H A cl fp => pts_ex (ht s H A cl fp (C.blk ..))) (fun s H A cl fp => pe_ex (he s H A cl fp (C.blk ..))) hs) fun σ H Q h =>
    lc_read (tg := tg) (fun {G Hf d v σ H s c Q} => (hg {} (fun _ => none) 0 [] []).2) hsub h
def apd (ds : List D) (d : D) : Option (List D) := if ds.length < sizeLine then some (ds ++ [d]) else none
end
end DL
namespace DL
open PySem PySem.Spec PyProof.Rows L2
abbrev frameAt (X : Cx) (scope : Scope) (s : Shared) : Env := compEnvC scope (cellsFrom (s.heap.objs.size + 1) scope.names (cloFrom X.env.cells scope.names [])) s.heap.objs.size X.env
abbrev InBlk (X : Cx) (scope : Scope) (P : Cx → Prop) : Prop := ∀ (s : Shared) (H : Hp) (C : Addr) (cl : List (Str × Addr)) (fp : List Addr), P (X.blk s H scope (compEnvC scope cl C X.env) fp)
abbrev laidFrame (scope : Scope) (s : Shared) : Shared := { s with heap := pushCells (s.heap.push { cls := .type "dict", data := .dict #[] }) scope.names }
structure Entered (X : Cx) (pins : List (Addr × Obj)) (σ : L2.St) (tg : Expr) (J : It) (it : Addr) (ex fp : List Addr) (tn : Nat → Heap → Prop) (s : Shared) (H : Hp) : Prop where
  inv : L2.Inv X pins σ H s
  turns : Turn X.prog X.w X.K tg J fp it tn
  fps : ∀ b ∈ ex, FpOk X pins H b
  sub : ∀ b ∈ fp, b ∈ ex
structure Between (X : Cx) (σ : L2.St) (scope : Scope) (own : List (Str × Nat)) (ex fp : List Addr) (pq : List (Addr × Obj)) (tn : Nat → Heap → Prop) (s0 : Shared) (H0 : Hp) (i : Nat) (H : Hp) (s : Shared) : Prop where
  inv : L2.Inv (X.blk s0 H0 scope (frameAt X scope s0) ex) pq (wipe σ (own.map (·.2))) H s
  at_ : tn i s.heap
  off : ∀ b ∈ fp, H b = none
section
variable {X : Cx} {pins pq : List (Addr × Obj)} {σ : L2.St} {tg : Expr} {J : It} {it : Addr} {ex fp : List Addr} {tn : Nat → Heap → Prop} {s s0 : Shared} {H H0 : Hp} {i : Nat} {scope : Scope} {own : List (Str × Nat)}
theorem enter0 (N : Entered X pins σ tg J it ex fp tn s H) (st : tn 0 s.heap) (there : ∀ b ∈ ex, b < s.heap.objs.size) (ok : BlkOk X.N X.env.scope scope own) (hN : X.N.Nodup) : Between X σ scope own ex fp [] tn s H 0 H (laidFrame scope s) where
  inv := block_start N.inv ok hN fun b hb => ⟨N.fps b hb, there b hb⟩
  at_ := N.turns.keep _ _ _ st fun b _ q e => pushCells_keeps _ _ _ _ (Heap.get?_push_of_some _ e)
  off := fun b hb => (N.fps b (N.sub b hb)).1
theorem enter {o : Obj} {u : HO} (I : L2.Inv X pins σ H s) (T : Turn X.prog X.w X.K tg J fp it tn) (st : tn 0 s.heap) (fps : ∀ b ∈ fp, FpOk X pins H b) (ok : BlkOk X.N X.env.scope scope own) (hN : X.N.Nodup)
    (new : ObjOk X.prog X.w (upd H s.heap.objs.size u) (s.heap.push o) s.heap.objs.size u) :
    Entered X pins σ tg J it fp fp tn { s with heap := s.heap.push o } (upd H s.heap.objs.size u) ∧
      Between X σ scope own fp fp [] tn { s with heap := s.heap.push o } (upd H s.heap.objs.size u) 0 (upd H s.heap.objs.size u) (laidFrame scope { s with heap := s.heap.push o }) := by
  have there : ∀ b ∈ fp, b < s.heap.objs.size := fun b hb => let ⟨_, e, _⟩ := T.obj 0 s.heap st b hb; Heap.lt_size e
  have N : Entered X pins σ tg J it fp fp tn { s with heap := s.heap.push o } (upd H s.heap.objs.size u) := ⟨I.laid (t' := s.toks) (fun b q e => Heap.get?_push_of_some _ e) (Nat.le_refl _) new, T, fun b hb => ⟨(upd_ne (Nat.ne_of_lt (there b hb))).trans (fps b hb).1, (fps b hb).2⟩, fun _ hb => hb⟩
  refine ⟨N, enter0 N (T.keep _ _ _ st fun b _ q e => Heap.get?_push_of_some _ e) (fun b hb => ?_) ok hN⟩
  show b < (s.heap.push o).objs.size
  rw [Heap.size_push]
  exact Nat.lt_succ_of_lt (there b hb)
theorem closes (I : L2.Inv X pins σ H s) (ok : BlkOk X.N X.env.scope scope own) : closureFor scope X.env = pure (cloFrom X.env.cells scope.names []) :=
  closure_ok fun y hy e => (ok.free y hy e).elim (fun k => I.ok.has _ (.inl k)) fun k => I.ok.has _ (.inr k)
namespace Between
theorem free {b : Addr} (B : Between X σ scope own ex fp pq tn s0 H0 i H s) (hb : b ∈ ex) (no : H b = none) (hq : ∀ p ∈ pq, p.1 ≠ b) : FpOk (X.blk s0 H0 scope (frameAt X scope s0) ex) pq H b :=
  ⟨no, (B.inv.ok.exf b hb).1, B.inv.ok.exfs b hb, .inl hb, fun x c => (B.inv.ok.exf b hb).2 x c, fun p hp => hq p (show p ∈ pq from by simpa using hp)⟩
structure Back (X : Cx) (pins : List (Addr × Obj)) (σ : L2.St) (C : Addr) (H : Hp) (s : Shared) : Prop where
  inv : L2.Inv X pins σ H s
  names : ∃ m, s.heap.Ns C m
  gone : FpOk X pins H C
theorem back (N : Entered X pins σ tg J it ex fp tn s0 H0) {σ' : L2.St} (I : L2.Inv (X.blk s0 H0 scope (frameAt X scope s0) ex) pq σ' H s) : Back X pins σ s0.heap.objs.size H s where
  inv := N.inv.call' (ch := ex) I.os I.base I.hok I.bare fun b hb => let ⟨_, f1, _, f3, f4, f5⟩ := N.fps b hb; ⟨f3, f1, f4, f5⟩
  names := let ⟨m, q, _⟩ := I.loc; ⟨m, q⟩
  gone := N.inv.fpOk (Nat.le_refl _) I.free
theorem stop (N : Entered X pins σ tg J it ex fp tn s0 H0) (B : Between X σ scope own ex fp pq tn s0 H0 i H s) (hq : ∀ p ∈ pq, ∀ b ∈ fp, p.1 ≠ b) (hc : X.calm = true) (st : J.stop i H) {E : Value → Shared → Prop} :
    wpAny (model X.prog X.w) X.A (pyNext (.ref it)) (fun r s' => r = none ∧ L2.Inv (X.blk s0 H0 scope (frameAt X scope s0) ex) pq (wipe σ (own.map (·.2))) H s') E s :=
  N.turns.done (X.blk s0 H0 scope (frameAt X scope s0) ex) rfl rfl rfl hc i pq s _ H E B.inv (fun b hb => B.free (N.sub b hb) (B.off b hb) fun p hp => hq p hp b hb) B.at_ st
theorem next (N : Entered X pins σ tg J it ex fp tn s0 H0) (B : Between X σ scope own ex fp pq tn s0 H0 i H s) (hq : ∀ p ∈ pq, ∀ b ∈ fp, p.1 ≠ b) (hc : X.calm = true) (go : J.go i H) {g : TG} (pg : PG (X.blk s0 H0 scope (frameAt X scope s0) ex) tg g) {Q : L2.St → Hp → Prop}
    (step : ∀ x H', J.yld i H x H' → g x (wipe σ (own.map (·.2))) H' fun σ' H'' => wipe σ' (own.map (·.2)) = wipe σ (own.map (·.2)) ∧ Q σ' H'') {E : Value → Shared → Prop} :
    wpAny (model X.prog X.w) X.A (pyNext (.ref it)) (fun r s1 => ∃ v, r = some v ∧ wpAny (model X.prog X.w) X.A (letOwnedTupleGo tg (.ref it) v) (fun _ s2 => wpAny (model X.prog X.w) X.A (assign tg (frameAt X scope s0) v)
      (fun _ s3 => ∃ pl σ' H', L2.Inv (X.blk s0 H0 scope (frameAt X scope s0) ex) (pq ++ pl) σ' H' s3 ∧ Q σ' H' ∧ ∀ H2 s4, L2.Inv (X.blk s0 H0 scope (frameAt X scope s0) ex) (pq ++ pl) σ' H2 s4 → Between X σ scope own ex fp pq tn s0 H0 (i + 1) H2 s4) E s2) E s1) E s := by
  refine wpAny_mono (N.turns.item (X.blk s0 H0 scope (frameAt X scope s0) ex) rfl rfl rfl hc i pq s _ H E B.inv (fun b hb => B.free (N.sub b hb) (B.off b hb) fun p hp => hq p hp b hb) B.at_ go) (fun r s1 ⟨v, e, drawn⟩ => ⟨v, e, wpAny_mono drawn (fun _ s2 got => ?_) fun _ _ e => e⟩) fun _ _ e => e
  obtain ⟨x, H', I2, rel, yld, st2, off2⟩ := got
  have B2 : Between X σ scope own ex fp pq tn s0 H0 (i + 1) H' s2 := ⟨I2, st2, off2⟩
  have P := I2.pinned (fun b hb => B2.free (N.sub b hb) (off2 b hb) fun p hp => hq p hp b hb) (N.turns.obj _ _ st2)
  refine wpAny_mono (pg.run _ s2 _ H' x v _ P rel (step x H' yld)) (fun _ s3 ⟨σ', H3, I3, wiped, q⟩ => ⟨_, σ', H3, I3, q, fun H4 s4 I4 => ?_⟩) fun _ _ z => False.elim z
  have stays : ∀ b ∈ fp, ∀ o, s2.heap.get? b = some o → s4.heap.get? b = some o ∧ H4 b = none := fun b hb o e => let p := I4.pin (b, o) (by simp [mem_pinsAt hb e]); ⟨p.1, p.2.1⟩
  have len : (wipe σ (own.map (·.2))).length = σ'.length := by rw [← wiped, wipe_length]
  exact ⟨I4.unpinned.weak len fun j v e => (wipe_some (wiped ▸ e)).1, N.turns.keep _ _ _ st2 fun b hb o e => (stays b hb o e).1, fun b hb => let ⟨o, e, _⟩ := N.turns.obj _ _ st2 b hb; (stays b hb o e).2⟩
theorem drop (B : Between X σ scope own ex fp pq tn s0 H0 i H s) : Between X σ scope own ex fp [] tn s0 H0 i H s := ⟨B.inv.pins_of (fun _ hp => absurd hp List.not_mem_nil), B.at_, B.off⟩
end Between
end
end DL
namespace DL
open PySem L2
theorem IsL.atI [DL.TC] {K : PySem.W.Frag} {mg : Str → Option Value} {H : Hp} {ds : List D} {vs : List V} {i : Int} {d : D} (l : IsL K mg H ds vs) (e : L2.atI ds i = some d) : ∃ v, L2.atI vs i = some v ∧ Is K mg H d v := by
  unfold L2.atI at e ⊢
  rw [← l.len]
  cases q : ixN ds.length i with
  | none => rw [q] at e; cases e
  | some j =>
    rw [q] at e
    exact l.get e
def ixD : D → D → Option D
  | .lst ds, .int i => L2.atI ds i
  | .tup ds, .int i => L2.atI ds i
  | .str s, .int i => (L2.atI s i).map fun c => .str [c]
  | .scr is, .int i => (L2.atI is i).map .int
  | _, _ => none
def cutL {α : Type} (xs : List α) (lo hi : Option Int) : List α := (xs.drop (HT.sIx xs.length 0 lo)).take (HT.sIx xs.length xs.length hi - HT.sIx xs.length 0 lo)
theorem cutL_len {α : Type} (xs : List α) (lo hi : Option Int) : (cutL xs lo hi).length ≤ xs.length := by
  unfold cutL
  rw [List.length_take, List.length_drop]
  omega
def sliceD : D → Option Int → Option Int → Option D
  | .lst ds, lo, hi => some (.lst (cutL ds lo hi))
  | .tup ds, lo, hi => some (.tup (cutL ds lo hi))
  | .str s, lo, hi => some (.str (cutL s lo hi))
  | .scr is, lo, hi => some (.lst ((cutL is lo hi).map .int))
  | _, _, _ => none
section
variable {X : Cx} [DL.TC]
theorem oix : IxR X (rD2 X.K X.mg ixD) := by
  intro value slice pins s σ H x y v u Q I rx ry h hs
  obtain ⟨Hf, dx, dy, d, sb, ix, iy, e, q⟩ := h
  unfold ixD at e
  split at e
  · obtain ⟨z1, p1, v1, rfl, h1, l1⟩ := ix
    cases iy
    obtain ⟨w, hw, iw⟩ := l1.atI e
    exact ix_list value slice pins s σ H _ _ v u Q I rx ry ⟨_, _, _, _, rfl, rfl, .inl (.inl (sb _ _ h1)), hw, q _ Hf H (.refl sb) iw⟩ hs
  · obtain ⟨z1, p1, v1, rfl, h1, l1⟩ := ix
    cases iy
    obtain ⟨w, hw, iw⟩ := l1.atI e
    exact ix_tup value slice pins s σ H _ _ v u Q I rx ry ⟨_, _, _, _, rfl, rfl, sb.sqt h1, hw, q _ Hf H (.refl sb) iw⟩ hs
  · rename_i z i
    obtain ⟨rfl, hz⟩ := ix
    cases iy
    cases e1 : L2.atI z i with
    | none => rw [e1] at e; cases e
    | some c =>
      rw [e1] at e
      cases e
      exact ix_str value slice pins s σ H _ _ v u Q I rx ry ⟨_, _, c, rfl, rfl, by rw [str_len]; exact hz, by rw [str_tl]; exact e1, q _ Hf H (.refl sb) ⟨rfl, by show 1 ≤ sizeLine; decide⟩⟩ hs
  · rename_i z i
    obtain ⟨z1, p1, rfl, h1⟩ := ix
    cases iy
    cases e1 : L2.atI z i with
    | none => rw [e1] at e; cases e
    | some c =>
      rw [e1] at e
      cases e
      refine ix_list value slice pins s σ H _ _ v u Q I rx ry ⟨_, _, _, _, rfl, rfl, sb.sql h1.sq, ?_, q _ Hf H (.refl sb) (is_int _)⟩ hs
      unfold L2.atI at e1 ⊢
      rw [List.length_map]
      cases q2 : ixN z.length i with
      | none => rw [q2] at e1; cases e1
      | some j =>
        rw [q2] at e1
        have e1' : z[j]? = some c := e1
        show (z.map V.int)[j]? = _
        rw [List.getElem?_map, e1']
        rfl
  · cases e
theorem isL_ints {K : PySem.W.Frag} {mg : Str → Option Value} {H : Hp} : ∀ z : List Int, IsL K mg H (z.map .int) (z.map V.int)
  | [] => rfl
  | c :: z => ⟨_, _, rfl, is_int _, isL_ints z⟩
theorem osl : SlR X (fun x lo hi H Q => ∃ Hf dx d, Sub Hf H ∧ Is X.K X.mg Hf dx x ∧ sliceD dx lo hi = some d ∧ ∀ u Hf' H', Ste [] Hf H Hf' H' → Is X.K X.mg Hf' d u → Q u H') := by
  intro pins s σ H x v vl vu lo hi sl Q I rx hs pl pu h
  obtain ⟨Hf, dx, d, sb, ix, e, q⟩ := h
  unfold sliceD at e
  split at e
  · cases e
    obtain ⟨z1, p1, v1, rfl, h1, l1⟩ := ix
    refine sl_list pins s σ H _ v vl vu lo hi sl Q I rx hs pl pu ⟨_, _, rfl, .inl (.inl (sb _ _ h1)), fun p hp => q _ _ _ (.new sb hp) ?_⟩
    refine ⟨Nat.le_trans (cutL_len _ _ _) z1, p, _, rfl, upd_same, ?_⟩
    have l2 := l1.mono (Ste.new (bag := []) (o := .lst (cutV v1 lo hi)) sb hp).sub
    unfold cutL cutV
    rw [l1.len]
    exact (l2.drop _).take _
  · cases e
    obtain ⟨z1, p1, v1, rfl, h1, l1⟩ := ix
    refine sl_tupA pins s σ H _ v vl vu lo hi sl Q I rx hs pl pu ⟨_, _, rfl, sb.sqt h1, fun z => ?_, fun z p hp => q _ _ _ (.new sb hp) ?_⟩
    · refine q _ _ _ (.refl sb) ⟨Nat.le_trans (cutL_len _ _ _) z1, p1, v1, rfl, h1, ?_⟩
      unfold cutL
      rw [l1.len, z.1, z.2, List.drop_zero, Nat.sub_zero, ← l1.len, List.take_length]
      exact l1
    · refine ⟨Nat.le_trans (cutL_len _ _ _) z1, p, _, rfl, .inl (.inl upd_same), ?_⟩
      have l2 := l1.mono (Ste.new (bag := []) (o := .tup (cutV v1 lo hi)) sb hp).sub
      unfold cutL cutV
      rw [l1.len]
      exact (l2.drop _).take _
  · cases e
    obtain ⟨rfl, hz⟩ := ix
    refine sl_str pins s σ H _ v vl vu lo hi sl Q I rx hs pl pu ⟨_, rfl, by rw [str_len]; exact hz, q _ Hf H (.refl sb) ?_⟩
    refine ⟨?_, Nat.le_trans (cutL_len _ _ _) hz⟩
    unfold cutS cutL
    rw [str_tl, str_len]
  · cases e
    obtain ⟨z1, p1, rfl, h1⟩ := ix
    refine sl_list pins s σ H _ v vl vu lo hi sl Q I rx hs pl pu ⟨_, _, rfl, sb.sql h1.sq, fun p hp => q _ _ _ (.new sb hp) ?_⟩
    refine ⟨by rw [List.length_map]; exact Nat.le_trans (cutL_len _ _ _) z1, p, _, rfl, upd_same, ?_⟩
    have e2 : ∀ (z : List Int) (lo hi : Option Int), cutV (z.map V.int) lo hi = (cutL z lo hi).map V.int := fun z lo hi => by
      unfold cutL cutV
      rw [List.length_map, List.map_take, List.map_drop]
    rw [e2]
    exact isL_ints _
  · cases e
end
section
variable {X : Cx} {fx : Fx} {m : Type → Type} [Mo m] {G : List Sl} {a b e : Expr} {lo hi : Option Expr} {pos p2 : Pos} {x y : m D} {tl th : m (Option Int)} [DL.TC]
theorem de_ix (ha : PE X a (tE X.K X.mg fx G x)) (hb : PE X b (tE X.K X.mg fx G y)) (hs : PlainIx b := by exact fun _ _ => rfl) : PE X (.Subscript a b pos) (tE X.K X.mg fx G (do let u ← x; let v ← y; ask (ixD u v))) := peI (pe_ix oix ha hb hs) fun σ H Q ⟨Hf, s, h⟩ =>
  (h.bind.mono fun v1 H1 ⟨d1, Hf1, s1, sb1, r1, h1⟩ => (h1.bind.mono fun v2 H2 ⟨d2, Hf2, s2, sb2, r2, h2⟩ => by
    obtain ⟨d, e, q⟩ := h2.ask
    exact ⟨Hf2, d1, d2, d, h2.1.topT, r1.mono sb2, r2, e, q⟩).to).to
theorem poI {o : Option Expr} {t t' : TO} (h : PO X o t) (w : ∀ σ H Q, t' σ H Q → t σ H Q) : PO X o t' := ⟨fun pins s σ H Q I q => h.run pins s σ H Q I (w _ _ _ q)⟩
abbrev tOp' (K : PySem.W.Frag) (mg : Str → Option Value) (fx : Fx) (G : List Sl) (x : m (Option Int)) : TO := tG K mg fx G (fun _ a b => b = a) x
theorem do_none : PO X none (tOp' X.K X.mg fx G (pure none : m (Option Int))) := poI po_none fun σ H Q ⟨Hf, s, h⟩ => h.pure rfl
theorem do_some (he : PE X e (tE X.K X.mg fx G x)) : PO X (some e) (tOp' X.K X.mg fx G (do let d ← x; let i ← ask (intOf d); pure (some i))) := poI (po_some he) fun σ H Q ⟨Hf, s, h⟩ =>
  (h.bind.mono fun v1 H1 ⟨d1, Hf1, s1, sb1, r1, h1⟩ => by
    have k := Mo.wp_lift (Mo.wp_bind h1.2)
    cases d1 with
    | int i => exact ⟨i, r1, (Mo.wp_pure k) _ Hf1 H1 (.refl h1.1.top) h1.1.bag rfl⟩
    | _ => exact k.elim).to
theorem de_sl (he : PE X e (tE X.K X.mg fx G x)) (hl : PO X lo (tOp' X.K X.mg fx G tl)) (hu : PO X hi (tOp' X.K X.mg fx G th)) : PE X (.Subscript e (.Slice lo hi none p2) pos) (tE X.K X.mg fx G (do let d ← x; let l ← tl; let u ← th; ask (sliceD d l u))) :=
  peI (pe_slice osl he hl hu) fun σ H Q ⟨Hf, s, h⟩ =>
  (h.bind.mono fun v1 H1 ⟨d1, Hf1, s1, sb1, r1, h1⟩ => (h1.bind.mono fun v2 H2 ⟨d2, Hf2, s2, sb2, r2, h2⟩ => (h2.bind.mono fun v3 H3 ⟨d3, Hf3, s3, sb3, r3, h3⟩ => by
    subst r2 r3
    obtain ⟨d, e, q⟩ := h3.ask
    exact ⟨Hf3, d1, d, h3.1.top, (r1.mono sb2).mono sb3, e, q⟩).to).to).to
end
def lenD : List D → Option D
  | [.lst ds] => some (.int ds.length)
  | [.tup ds] => some (.int ds.length)
  | [.str s] => some (.int s.length)
  | [.scr s] => some (.int s.length)
  | _ => none
def listD : List D → Option (List D)
  | [.lst ds] => some ds
  | [.tup ds] => some ds
  | [.str s] => some (chrs s)
  | _ => none
def tupleD : List D → Option D
  | [.lst ds] => some (.tup ds)
  | [.tup ds] => some (.tup ds)
  | _ => none
def intD : List D → Option D
  | [.int i] => some (.int i)
  | [.bl b] => some (.int (if b then 1 else 0))
  | _ => none
def absD : List D → Option D
  | [.int i] => some (.int (if i < 0 then -i else i))
  | _ => none
def maxD : List D → Option D
  | [.int i, .int j] => some (.int (if j > i then j else i))
  | _ => none
def minD : List D → Option D
  | [.int i, .int j] => some (.int (if j < i then j else i))
  | _ => none
section
variable {X : Cx} [DL.TC]
theorem oc_len : CallR X (.builtin "len") (rDs X.K X.mg lenD) := by
  intro pins s σ H xs us Q I r h
  obtain ⟨Hf, ds, d, sb, l, e, q⟩ := h
  unfold lenD at e
  split at e
  · cases e
    obtain ⟨v, r1, rfl, ⟨z1, p1, v1, rfl, h1, l1⟩, rfl⟩ := l
    exact call_len_seq pins s σ H _ us Q I r ⟨_, _, rfl, .inl (.inl (.inl (sb _ _ h1))), by rw [← l1.len]; exact q _ Hf H (.refl sb) (is_int _)⟩
  · cases e
    obtain ⟨v, r1, rfl, ⟨z1, p1, v1, rfl, h1, l1⟩, rfl⟩ := l
    exact call_len_seq pins s σ H _ us Q I r ⟨_, _, rfl, .inr (sb.sqt h1), by rw [← l1.len]; exact q _ Hf H (.refl sb) (is_int _)⟩
  · cases e
    obtain ⟨v, r1, rfl, ⟨rfl, hz⟩, rfl⟩ := l
    exact call_len_str pins s σ H _ us Q I r ⟨_, rfl, by rw [str_len]; exact hz, by rw [str_len]; exact q _ Hf H (.refl sb) (is_int _)⟩
  · cases e
    obtain ⟨v, r1, rfl, ⟨z1, p1, rfl, h1⟩, rfl⟩ := l
    exact call_len_seq pins s σ H _ us Q I r ⟨_, _, rfl, .inl (sb.sql h1.sq), by rw [List.length_map]; exact q _ Hf H (.refl sb) (is_int _)⟩
  · cases e
theorem oc_tuple : CallR X (.type "tuple") (rDs X.K X.mg tupleD) := by
  intro pins s σ H xs us Q I r h
  obtain ⟨Hf, ds, d, sb, l, e, q⟩ := h
  unfold tupleD at e
  split at e
  · cases e
    obtain ⟨v, r1, rfl, ⟨z1, p1, v1, rfl, h1, l1⟩, rfl⟩ := l
    refine call_tuple_of pins s σ H _ us Q I r ⟨_, _, rfl, .inl ⟨.inl (.inl (sb _ _ h1)), fun p hp => q _ _ _ (.new sb hp) ?_⟩⟩
    exact ⟨z1, p, _, rfl, .inl (.inl upd_same), l1.mono (Ste.new (bag := []) sb hp).sub⟩
  · cases e
    obtain ⟨v, r1, rfl, ⟨z1, p1, v1, rfl, h1, l1⟩, rfl⟩ := l
    exact call_tuple_of pins s σ H _ us Q I r ⟨_, _, rfl, .inr ⟨sb.sqt h1, q _ _ _ (.refl sb) ⟨z1, p1, v1, rfl, h1, l1⟩⟩⟩
  · cases e
theorem oc_int : CallR X (.type "int") (rDs X.K X.mg intD) := by
  intro pins s σ H xs us Q I r h
  obtain ⟨Hf, ds, d, sb, l, e, q⟩ := h
  unfold intD at e
  split at e
  · cases e
    obtain ⟨v, r1, rfl, rfl, rfl⟩ := l
    exact call_int1 pins s σ H _ us Q I r (.inl ⟨_, rfl, q _ Hf H (.refl sb) (is_int _)⟩)
  · cases e
    obtain ⟨v, r1, rfl, rfl, rfl⟩ := l
    exact call_int1 pins s σ H _ us Q I r (.inr ⟨_, rfl, q _ Hf H (.refl sb) (is_int _)⟩)
  · cases e
theorem oc_abs : CallR X (.builtin "abs") (rDs X.K X.mg absD) := by
  intro pins s σ H xs us Q I r h
  obtain ⟨Hf, ds, d, sb, l, e, q⟩ := h
  unfold absD at e
  split at e
  · cases e
    obtain ⟨v, r1, rfl, rfl, rfl⟩ := l
    exact call_abs pins s σ H _ us Q I r ⟨_, rfl, q _ Hf H (.refl sb) (is_int _)⟩
  · cases e
theorem oc_max (hc : X.calm = true) : CallR X (.builtin "max") (rDs X.K X.mg maxD) := by
  intro pins s σ H xs us Q I r h
  obtain ⟨Hf, ds, d, sb, l, e, q⟩ := h
  unfold maxD at e
  split at e
  · cases e
    obtain ⟨v, r1, rfl, rfl, v2, r2, rfl, rfl, rfl⟩ := l
    exact call_max2 hc pins s σ H _ us Q I r ⟨_, _, rfl, q _ Hf H (.refl sb) (is_int _)⟩
  · cases e
theorem oc_min (hc : X.calm = true) : CallR X (.builtin "min") (rDs X.K X.mg minD) := by
  intro pins s σ H xs us Q I r h
  obtain ⟨Hf, ds, d, sb, l, e, q⟩ := h
  unfold minD at e
  split at e
  · cases e
    obtain ⟨v, r1, rfl, rfl, v2, r2, rfl, rfl, rfl⟩ := l
    exact call_min2 hc pins s σ H _ us Q I r ⟨_, _, rfl, q _ Hf H (.refl sb) (is_int _)⟩
  · cases e
theorem call_list_chrs (hc : X.calm = true) : CallR X (.type "list") (fun xs H Q => ∃ z : List Nat, xs = [.str ⟨z.toArray⟩] ∧ z.length ≤ sizeLine ∧ ∀ q, H q = none → Q (.ref q) (upd H q (.lst (z.map fun c => .str ⟨#[c]⟩)))) := by
  intro pins s σ H xs us Q I r h
  obtain ⟨z, rfl, hz, q⟩ := h
  obtain ⟨u, rfl, rx⟩ := vals1 r
  obtain ⟨t, rfl⟩ := rx
  have hz' : (⟨z.toArray⟩ : Str).cps.size ≤ sizeLine := by
    show z.toArray.size ≤ sizeLine
    simpa using hz
  refine PySem.call_list_str (hn := hz') (I.ok.hd hc) _ t fun h' tk acc' c' hk hS hacc => ?_
  refine ⟨.ref s.heap.objs.size, upd H s.heap.objs.size (.lst (z.map fun c => .str ⟨#[c]⟩)), I.laid hk (Nat.le_refl _) (show ObjOk X.prog X.w _ _ _ (.lst (z.map fun c => .str ⟨#[c]⟩)) from ⟨by simpa using hz, acc'.toList, c', ?_, by rw [Array.toArray_toList]; exact hS⟩), rfl, q _ (I.hok.fresh (Nat.le_refl _))⟩
  have el : acc'.toList.length = z.length := by
    have := hacc.1
    simpa using this
  refine vals_of_at (by rw [List.length_map, el]) fun j x w h1 h2 => ?_
  obtain ⟨c, u, hc', ew⟩ := hacc.2 j w (by rw [← Array.getElem?_toList]; exact h2)
  subst ew
  have hc2 : z[j]? = some c := by
    have : z.toArray[j]? = some c := hc'
    rwa [List.getElem?_toArray] at this
  rw [List.getElem?_map, hc2] at h1
  cases h1
  exact ⟨u, rfl⟩
def rDl (K : PySem.W.Frag) (mg : Str → Option Value) (g : List D → Option (List D)) : List V → Hp → VK → Prop := fun xs H Q => ∃ Hf ds es, SubT Hf H ∧ IsL K mg Hf ds xs ∧ g ds = some es ∧ es.length ≤ sizeLine ∧ ∀ p Hf' H' vs, Ste [] Hf H Hf' H' → H p = none → Hf' p = none → H' p = some (.lst vs) → IsL K mg Hf' es vs → Q (.ref p) H'
theorem isL_chrs {K : PySem.W.Frag} {mg : Str → Option Value} {H : Hp} : ∀ z : List Nat, IsL K mg H (chrs z) (z.map fun c => .str ⟨#[c]⟩)
  | [] => rfl
  | c :: z => ⟨_, _, rfl, ⟨rfl, by show 1 ≤ sizeLine; decide⟩, isL_chrs z⟩
theorem oc_list (hc : X.calm = true) : CallR X (.type "list") (rDl X.K X.mg listD) := by
  intro pins s σ H xs us Q I r h
  obtain ⟨Hf, ds, d, sb, l, e, hz, q⟩ := h
  unfold listD at e
  split at e
  · cases e
    obtain ⟨v, r1, rfl, ⟨z1, p1, v1, rfl, h1, l1⟩, rfl⟩ := l
    exact call_list_of pins s σ H _ us Q I r ⟨_, _, rfl, .inl (.inl (.inl (sb _ _ h1))), fun p hp => q p Hf _ _ (.new' sb hp) hp (sb.none hp) upd_same l1⟩
  · cases e
    obtain ⟨v, r1, rfl, ⟨z1, p1, v1, rfl, h1, l1⟩, rfl⟩ := l
    exact call_list_of pins s σ H _ us Q I r ⟨_, _, rfl, .inr (sb.sqt h1), fun p hp => q p Hf _ _ (.new' sb hp) hp (sb.none hp) upd_same l1⟩
  · cases e
    obtain ⟨v, r1, rfl, ⟨rfl, hz⟩, rfl⟩ := l
    exact call_list_chrs hc pins s σ H _ us Q I r ⟨_, rfl, hz, fun p hp => q p Hf _ _ (.new' sb hp) hp (sb.none hp) upd_same (isL_chrs _)⟩
  · cases e
end
section
variable {X : Cx} {fx : Fx} {m : Type → Type} [Mo m] {G : List Sl} {e : Expr} {es : List Expr} {pos p : Pos} {ys : m (List D)} [DL.TC]
theorem df_callTy {g : List D → Option (List D)} {T : String} {n : Str} (hc : CallR X (.type T) (rDl X.K X.mg g)) (hg : Gl X n) (hm : X.mg n = none) (hv : bootBuiltins n = some (.type T)) (ha : PA X (e :: es) (tA X.K X.mg fx G ys))
    (hn : n ≠ "__name__" := by decide) (hdb : (n == ("__debug__" : Str)) = false := by decide) (he : starEach (e :: es) X.env = (false, eval e X.env) :: starEach es X.env := by rfl) (hpl : (backTo pos (starEach es X.env)).any (·.1) = false := by rfl) :
    PE X (.Call (.Name n p) (e :: es) [] pos) (tF X.K X.mg fx G (do let ds ← ys; let ds ← ask (g ds); ask (szL ds))) := peI (pe_callTy hc hg hm hv ha hn hdb he hpl) fun σ H Q ⟨Hf, s, st, w⟩ =>
  ⟨Hf, s, st, Mo.wp_mono (Mo.wp_bind w) (fun ds s1 k vs Hf1 H1 e bg l => by
    have k' := Mo.wp_lift (Mo.wp_bind k)
    cases e1 : g ds with
    | none => rw [e1] at k'; exact k'.elim
    | some es =>
      rw [e1] at k'
      have k2 := Mo.wp_lift k'
      by_cases hz : es.length ≤ sizeLine
      · have e2 : szL es = some es := if_pos hz
        rw [e2] at k2
        exact ⟨Hf1, ds, es, (st.step e bg).topT, l, e1, hz, fun p Hf' H' vs e3 hp hf' hp' l' => by
          have hn : H p = none := by
            cases q : H p with
            | none => rfl
            | some o => exact absurd hp (e.dom p (by rw [q]; simp))
          exact k2 p vs Hf' H' (e.trans e3.wide) (e3.bag bg) hp' hf' hn l' hz⟩
      · have e2 : szL es = none := if_neg hz
        rw [e2] at k2
        exact k2.elim) fun e s' k => k⟩
end
def joinN (S : List Nat) : List (List Nat) → List Nat
  | [] => []
  | [p] => p
  | p :: q :: r => p ++ (S ++ joinN S (q :: r))
def strsOf : List D → Option (List (List Nat))
  | [] => some []
  | .str s :: r => (strsOf r).map (s :: ·)
  | _ :: _ => none
def joinD (a b : D) : Option D := match a, sqOf b with
  | .str S, some ds => match strsOf ds with
    | some ps => if (ps.map (·.length)).sum + ps.length * S.length ≤ 16777216 then some (.str (joinN S ps)) else none
    | none => none
  | _, _ => none
theorem joinN_eq (S : List Nat) : ∀ ps, joinN S ps = TL.joinL S ps
  | [] => rfl
  | [_] => rfl
  | p :: q :: r => by rw [joinN, TL.joinL, joinN_eq S (q :: r)]
theorem joinN_len (S : List Nat) : ∀ ps : List (List Nat), (joinN S ps).length ≤ (ps.map (·.length)).sum + ps.length * S.length
  | [] => by simp [joinN]
  | [p] => by simp [joinN]
  | p :: q :: r => by
    have := joinN_len S (q :: r)
    rw [joinN, List.length_append, List.length_append, List.map_cons, List.sum_cons, List.length_cons, Nat.add_mul]
    omega
theorem isL_strs [DL.TC] {K : PySem.W.Frag} {mg : Str → Option Value} {H : Hp} : ∀ {ds : List D} {vs : List V} {ps : List (List Nat)}, IsL K mg H ds vs → strsOf ds = some ps → vs = ps.map fun p => .str ⟨p.toArray⟩
  | [], _, _, h, e => by cases h; cases e; rfl
  | .str s :: ds, _, _, h, e => by
    obtain ⟨v, r, rfl, ⟨rfl, _⟩, l⟩ := h
    unfold strsOf at e
    cases q : strsOf ds with
    | none => rw [q] at e; cases e
    | some ps => rw [q] at e; cases e; rw [isL_strs l q]; rfl
  | .non :: _, _, _, _, e => by cases e
  | .bl _ :: _, _, _, _, e => by cases e
  | .int _ :: _, _, _, _, e => by cases e
  | .tup _ :: _, _, _, _, e => by cases e
  | .lst _ :: _, _, _, _, e => by cases e
  | .dic _ _ :: _, _, _, _, e => by cases e
  | .ndc _ _ :: _, _, _, _, e => by cases e
  | .ins _ _ _ :: _, _, _, _, e => by cases e
  | .scr _ :: _, _, _, _, e => by cases e
  | .xc _ _ _ _ :: _, _, _, _, e => by cases e
section
variable {X : Cx} {fx : Fx} {m : Type → Type} [Mo m] {G : List Sl} {o e : Expr} {apos pos : Pos} {x y : m D} [DL.TC]
theorem de_join (ho : PE X o (tE X.K X.mg fx G x)) (he : PE X e (tE X.K X.mg fx G y)) (hs : starEach [e] X.env = [(false, eval e X.env)] := by rfl) (hbase : attributeBase o "join" X.env (eval o X.env) = eval o X.env := by rfl) (hline : (apos.endLine == pos.line) = true := by rfl) :
    PE X (.Call (.Attribute o "join" apos) [e] [] pos) (tE X.K X.mg fx G (do let u ← x; let _ ← ask (strOf u); let v ← y; ask (joinD u v))) := peI (pe_join ho he hs hbase hline) fun σ H Q ⟨Hf, s, h⟩ =>
  (h.bind.mono fun v1 H1 ⟨d1, Hf1, s1, sb1, r1, h1⟩ => by
    have k := Mo.wp_lift (Mo.wp_bind h1.2)
    cases d1 with
    | str S =>
      obtain ⟨rfl, hz1⟩ := r1
      refine ⟨⟨_, rfl⟩, ?_⟩
      have h2 : tX X.K X.mg fx G (fun H d v => Is X.K X.mg H d v) (do let v ← y; ask (joinD (.str S) v) : m D) Hf1 s1 σ H1 Q := ⟨h1.1, k⟩
      refine (h2.bind.mono fun v2 H2 ⟨d2, Hf2, s2, sb2, r2, h3⟩ => ?_).to
      obtain ⟨d, e, q⟩ := h3.ask
      unfold joinD at e
      cases e2 : sqOf d2 with
      | none => rw [e2] at e; cases e
      | some ds =>
        rw [e2] at e
        cases e3 : strsOf ds with
        | none => simp only [e3] at e; cases e
        | some ps =>
          simp only [e3] at e
          split at e
          · rename_i hz
            cases e
            have fin : Q (.str (Txt.join ⟨S.toArray⟩ (ps.map fun p => (⟨p.toArray⟩ : Str)))) H2 := by
              refine q _ Hf2 H2 (.refl h3.1.top) ⟨?_, Nat.le_trans (joinN_len S ps) (by rw [sizeLine_eq]; exact hz)⟩
              rw [TL.join_eq]
              congr 1
              have e4 := TL.tl_join ⟨S.toArray⟩ (ps.map fun p => (⟨p.toArray⟩ : Str))
              refine TL.ext_tl ?_
              refine (e4.trans ?_).trans (str_tl (joinN S ps)).symm
              rw [joinN_eq, List.map_map]
              have e5 : (ps.map (TL.tl ∘ fun p => (⟨p.toArray⟩ : Str))) = ps := by
                conv => rhs; rw [← List.map_id ps]
                exact List.map_congr_left fun p _ => str_tl p
              rw [e5]
            have hz' : ((ps.map fun p => (⟨p.toArray⟩ : Str)).map (·.length)).sum + (ps.map fun p => (⟨p.toArray⟩ : Str)).length * (⟨S.toArray⟩ : Str).length ≤ 16777216 := by
              rw [List.map_map, List.length_map, str_len]
              have e5 : (ps.map ((fun x : Str => x.length) ∘ fun p => (⟨p.toArray⟩ : Str))) = ps.map (·.length) := List.map_congr_left fun p _ => str_len p
              rw [e5]
              exact hz
            have em : (ps.map fun p => V.str ⟨p.toArray⟩) = (ps.map fun p => (⟨p.toArray⟩ : Str)).map V.str := by rw [List.map_map]; rfl
            cases d2 with
            | lst es =>
              cases e2
              obtain ⟨z1, p1, w1, rfl, t1, l1⟩ := r2
              have ew := isL_strs l1 e3
              subst ew
              exact ⟨_, p1, _, rfl, rfl, .inl (.inl (.inl (by rw [← em]; exact h3.1.top _ _ t1))), hz', fin⟩
            | tup es =>
              cases e2
              obtain ⟨z1, p1, w1, rfl, t1, l1⟩ := r2
              have ew := isL_strs l1 e3
              subst ew
              exact ⟨_, p1, _, rfl, rfl, .inr (by rw [← em]; exact h3.1.top.sqt t1), hz', fin⟩
            | _ => cases e2
          · cases e
    | _ => exact k.elim).to
end
end DL
namespace DL
open PySem L2
theorem foldl_app (x : Array Nat) : ∀ (n : Nat) (acc : Array Nat), (List.replicate n x).foldl (· ++ ·) acc = acc ++ (List.replicate n x.toList).flatten.toArray
  | 0, acc => by simp
  | n + 1, acc => by
    rw [List.replicate_succ, List.foldl_cons, foldl_app x n, List.replicate_succ, List.flatten_cons]
    apply Array.ext'
    simp
theorem mulS_eq [DL.TC] (a : List Nat) (k : Int) (h0 : 0 ≤ k) : Txt.mul ⟨a.toArray⟩ k = ⟨(List.replicate k.toNat a).flatten.toArray⟩ := by
  unfold Txt.mul
  by_cases h1 : k < 1
  · have : k = 0 := by omega
    subst this
    rfl
  · rw [if_neg h1]
    by_cases h2 : (k == 1 || (⟨a.toArray⟩ : Str).length == 0) = true
    · rw [if_pos h2]
      rw [str_len] at h2
      by_cases h3 : k = 1
      · subst h3
        simp
      · have : a.length = 0 := by simpa [h3] using h2
        have : a = [] := List.length_eq_zero_iff.mp this
        subst this
        simp
    · rw [if_neg h2, foldl_app]
      simp
theorem rep_len {α : Type} (a : List α) (n : Nat) : (List.replicate n a).flatten.length = a.length * n := by
  simp [Nat.mul_comm]
theorem isL_rep [DL.TC] {K : PySem.W.Frag} {mg : Str → Option Value} {H : Hp} {ds : List D} {vs : List V} (l : IsL K mg H ds vs) : ∀ n : Nat, IsL K mg H (List.replicate n ds).flatten (List.replicate n vs).flatten
  | 0 => rfl
  | n + 1 => by
    rw [List.replicate_succ, List.replicate_succ, List.flatten_cons, List.flatten_cons]
    exact l.app (isL_rep l n)
section
variable {X : Cx} [DL.TC]
theorem od_mul : OpR X (binaryOp .Mult) (rD2 X.K X.mg mulD) := by
  intro pins s σ H x y v u Q I rx ry h
  obtain ⟨Hf, dx, dy, d, sb, ix, iy, e, q⟩ := h
  unfold mulD at e
  split at e
  · split at e
    · rename_i i j hc
      cases e; cases ix; cases iy
      exact op_mulW pins s σ H _ _ v u Q I rx ry ⟨_, _, rfl, rfl, hc, q _ Hf H (.refl sb) (is_int _)⟩
    · cases e
  · split at e
    · rename_i a k hc
      cases e
      obtain ⟨rfl, hz⟩ := ix
      cases iy
      obtain ⟨t, rfl⟩ := rx
      obtain ⟨t2, rfl⟩ := ry
      have hl : (⟨a.toArray⟩ : Str).length = a.length := str_len a
      refine SB.mul ⟨?_, fun h1 _ => ?_, fun h1 _ => ?_⟩ fun t' k' => ?_
      · rw [Bool.or_eq_false_iff]
        exact ⟨decide_eq_false (by omega), decide_eq_false (by omega)⟩
      · rw [hl]
        have h2 : ((a.length * k.toNat : Nat) : Int) ≤ 1000000 := by omega
        rw [Int.natCast_mul, Int.toNat_of_nonneg hc.1] at h2
        have := Int.le_ediv_of_mul_le (a := (a.length : Int)) (b := 2 ^ 63 - 1) (c := k) (by omega) (by omega)
        omega
      · unfold Builtin.Str.tooLong
        rw [hl, sizeLine_eq]
        exact decide_eq_false (by omega)
      · rw [mulS_eq a k hc.1]
        refine ⟨.str _, H, I.tok k', ⟨t', rfl⟩, q _ Hf H (.refl sb) ⟨rfl, ?_⟩⟩
        rw [rep_len, sizeLine_eq]
        omega
    · cases e
  · split at e
    · rename_i a k hc
      cases e
      obtain ⟨z1, p1, v1, rfl, h1, l1⟩ := ix
      cases iy
      refine op_rep pins s σ H _ _ v u Q I rx ry ⟨_, _, _, rfl, rfl, sb _ _ h1, by omega, by omega, ?_, fun p hp => q _ _ _ (.new sb hp) ⟨?_, p, _, rfl, upd_same, ?_⟩⟩
      · rw [← l1.len, sizeLine_eq]; omega
      · rw [rep_len, sizeLine_eq]; omega
      · have l2 := l1.mono (Ste.new (bag := []) (o := .lst (List.replicate k.toNat v1).flatten) sb hp).sub
        exact isL_rep l2 _
    · cases e
  · cases e
end
end DL
namespace DL
open PySem L2
section
variable {X : Cx} [DL.TC]
theorem isNone_is {K : PySem.W.Frag} {mg : Str → Option Value} {H : Hp} {d : D} {v : V} {b : Bool} (i : Is K mg H d v) (e : isNone d = some b) : decide (v = .non) = b := by
  cases d with
  | non => cases i; cases e; rfl
  | bl c => cases i; cases e; rfl
  | int c => cases i; cases e; rfl
  | str c => obtain ⟨rfl, _⟩ := i; cases e; rfl
  | tup ds => obtain ⟨_, a, vs, rfl, _⟩ := i; cases e; rfl
  | lst ds => obtain ⟨_, a, vs, rfl, _⟩ := i; cases e; rfl
  | dic _ _ => obtain ⟨a, vs, rfl, _⟩ := i; cases e; rfl
  | ndc _ _ => obtain ⟨a, xs, vs, ep, rfl, _⟩ := i; cases e; rfl
  | ins _ _ _ => obtain ⟨a, c, dd, vs, rfl, _⟩ := i; cases e; rfl
  | scr _ => obtain ⟨_, a, rfl, _⟩ := i; cases e; rfl
  | xc _ _ _ _ => obtain ⟨rfl, _⟩ := i; cases e; rfl
theorem od_is : OpR X (compareOp .Is) (rD2 X.K X.mg isD) := by
  intro pins s σ H x y v u Q I rx ry h
  obtain ⟨Hf, dx, dy, d, sb, ix, iy, e, q⟩ := h
  unfold isD at e
  split at e
  · cases iy
    cases e1 : isNone dx with
    | none => rw [e1] at e; cases e
    | some b =>
      rw [e1] at e; cases e
      have e2 := isNone_is ix e1
      exact op_isN pins s σ H _ _ v u Q I rx ry ⟨rfl, by rw [e2]; exact q _ Hf H (.refl sb) (is_bl _)⟩
  · cases e; cases ix; cases iy
    exact op_isBl pins s σ H _ _ v u Q I rx ry ⟨_, _, rfl, rfl, q _ Hf H (.refl sb) (is_bl _)⟩
  · cases e
theorem in_core (hu : X.A.units + 65 < cLine) {pins : List (Addr × Obj)} {s : Shared} {σ : L2.St} {H : Hp} {x y : V} {v u : Value} (I : Inv X pins σ H s) (rx : RelV x v) (ry : RelV y u) {Hf : Hp} {dx dy : D} {b : Bool} (sb : Sub Hf H) (ix : Is X.K X.mg Hf dx x) (iy : Is X.K X.mg Hf dy y) (e : inP dx dy = some b) :
    (∀ Q : VK, Q (.bl b) H → wpAny (model X.prog X.w) X.A (compareOp .In v u) (EP X pins σ Q) X.xe s) ∧ (∀ Q : VK, Q (.bl (!b)) H → wpAny (model X.prog X.w) X.A (compareOp .NotIn v u) (EP X pins σ Q) X.xe s) := by
  unfold inP at e
  split at e
  · obtain ⟨rfl, _⟩ := ix
    obtain ⟨rfl, _⟩ := iy
    cases e
    refine ⟨fun Q q => op_in_sign pins s σ H _ _ v u Q I rx ry ⟨_, _, rfl, rfl, by rw [str_tl]; exact q⟩, fun Q q => op_notIn_sign pins s σ H _ _ v u Q I rx ry ⟨_, _, rfl, rfl, by rw [str_tl]; exact q⟩⟩
  · rename_i ds
    split at e
    · rename_i p ys e1 e2
      split at e
      · rename_i hc
        cases e
        rw [Bool.and_eq_true] at hc
        refine ⟨fun Q q => op_inD hu pins s σ H _ _ v u Q I rx ry ⟨p, ys, (ix.mono sb).dp e1, (iy.mono sb).dp e2, hc.1, hc.2, q⟩, fun Q q => op_notInD hu pins s σ H _ _ v u Q I rx ry ⟨p, ys, (ix.mono sb).dp e1, (iy.mono sb).dp e2, hc.1, hc.2, q⟩⟩
      · cases e
    · cases e
  · rename_i ds
    split at e
    · rename_i p ys e1 e2
      split at e
      · rename_i hc
        cases e
        rw [Bool.and_eq_true] at hc
        obtain ⟨as, r1⟩ := Dp.reads I p x v ((ix.mono sb).dp e1) rx
        obtain ⟨bs, r2⟩ := Dp.reads I _ y u ((iy.mono sb).dp e2) ry
        have cl : PyData.canLayAll0 ys = true := by
          have := SeqAt.canLay_of_shaped hc.2
          simpa [PyData.canLay0] using this
        exact ⟨fun Q q => SeqAt.in_tuple_reads r2 r1 cl (SeqAt.canLay_of_shaped hc.1) (PyProof.Rows.room_in_shaped hc.1 hu) ⟨.bl _, H, I, rfl, q⟩,
          fun Q q => SeqAt.notIn_tuple_reads r2 r1 cl (SeqAt.canLay_of_shaped hc.1) (PyProof.Rows.room_in_shaped hc.1 hu) ⟨.bl _, H, I, rfl, q⟩⟩
      · cases e
    · cases e
  · cases e
theorem od_in (hu : X.A.units + 65 < cLine) : OpR X (compareOp .In) (rD2 X.K X.mg inD) := by
  intro pins s σ H x y v u Q I rx ry h
  obtain ⟨Hf, dx, dy, d, sb, ix, iy, e, q⟩ := h
  unfold inD at e
  cases e1 : inP dx dy with
  | none => rw [e1] at e; cases e
  | some b => rw [e1] at e; cases e; exact (in_core hu I rx ry sb ix iy e1).1 Q (q _ Hf H (.refl sb) (is_bl _))
theorem od_notIn (hu : X.A.units + 65 < cLine) : OpR X (compareOp .NotIn) (rD2 X.K X.mg notInD) := by
  intro pins s σ H x y v u Q I rx ry h
  obtain ⟨Hf, dx, dy, d, sb, ix, iy, e, q⟩ := h
  unfold notInD at e
  cases e1 : inP dx dy with
  | none => rw [e1] at e; cases e
  | some b => rw [e1] at e; cases e; exact (in_core hu I rx ry sb ix iy e1).2 Q (q _ Hf H (.refl sb) (is_bl _))
end
def tyD : D → Option String
  | .non => some "NoneType"
  | .bl _ => some "bool"
  | .int _ => some "int"
  | .str _ => some "str"
  | .tup _ => some "tuple"
  | .lst _ => some "list"
  | .scr _ => some "list"
  | .xc _ _ _ _ => none
  | .dic _ _ => some "dict"
  | .ndc _ _ => none
  | .ins _ _ _ => none
def isiD (T : String) (d : D) : Option D := match tyD d with
  | some a => (kitB a T).map .bl
  | none => none
theorem tyD_is [DL.TC] {K : PySem.W.Frag} {mg : Str → Option Value} {Hf H : Hp} (sb : Sub Hf H) {d : D} {v : V} {T : String} (i : Is K mg Hf d v) (e : tyD d = some T) : TyX K H v (.type T) := by
  cases d with
  | non => cases i; cases e; exact .base .non
  | bl c => cases i; cases e; exact .base (.bl _)
  | int c => cases i; cases e; exact .base (.int _)
  | str c => obtain ⟨rfl, _⟩ := i; cases e; exact .base (.str _)
  | tup ds =>
    obtain ⟨_, a, vs, rfl, h, _⟩ := i
    cases e
    rcases sb.sqt h with (h | ⟨o, h⟩) | h
    · exact .base (.tup h)
    · exact .fTuple h
    · obtain ⟨o, its, n, h1, h2, h3⟩ := h
      exact .kTuple h1 h2
  | lst ds =>
    obtain ⟨_, a, vs, rfl, h, _⟩ := i
    cases e
    exact .base (.lst (sb _ _ h))
  | dic _ _ =>
    obtain ⟨a, vs, rfl, h, _⟩ := i
    cases e
    rcases sb.rd h with h | ⟨o, h⟩
    · exact .base (.dK h)
    · exact .fDict h
  | ndc _ _ => cases e
  | ins _ _ _ => cases e
  | xc _ _ _ _ => cases e
  | scr _ =>
    obtain ⟨_, a, rfl, h⟩ := i
    cases e
    rcases sb.sql h.sq with (h | ⟨o, h⟩) | h
    · exact .base (.lst h)
    · exact .base (.frz h)
    · obtain ⟨o, its, n, h1, h2, h3⟩ := h
      exact .kList h1 h2
section
variable {X : Cx} {fx : Fx} {m : Type → Type} [Mo m] {G : List Sl} {e : Expr} {p p2 pos : Pos} {x : m D} [DL.TC]
theorem de_isi (T : String) {n : Str} (he : PE X e (tE X.K X.mg fx G x)) (hg : Gl X "isinstance") (hm : X.mg "isinstance" = none) (hg2 : Gl X n) (hm2 : X.mg n = none) (hv2 : bootBuiltins n = some (.type T))
    (hn : n ≠ "__name__" := by decide) (hdb : (n == ("__debug__" : Str)) = false := by decide) (hs : starEach [e, .Name n p2] X.env = (false, eval e X.env) :: starEach [.Name n p2] X.env := by rfl) (hs2 : starEach [.Name n p2] X.env = (false, eval (.Name n p2) X.env) :: starEach [] X.env := by rfl) (hpl : (backTo pos (starEach [.Name n p2] X.env)).any (·.1) = false := by rfl) :
    PE X (.Call (.Name "isinstance" p) [e, .Name n p2] [] pos) (tE X.K X.mg fx G (do let d ← x; ask (isiD T d))) :=
  peI (pe_callB call_isi hg hm rfl (pa_cons he (pa_cons (pe_bltn (v := .ty T) hg2 hm2 hv2 rfl hn hdb) pa_nil hs2) hs) (by decide) (by decide) hs hpl) fun σ H Q ⟨Hf, s, h⟩ =>
  (h.bind.mono fun v1 H1 ⟨d1, Hf1, s1, sb1, r1, h1⟩ => by
    obtain ⟨d, e, q⟩ := h1.ask
    unfold isiD at e
    cases e1 : tyD d1 with
    | none => rw [e1] at e; cases e
    | some a =>
      simp only [e1] at e
      cases e2 : kitB a T with
      | none => rw [e2] at e; cases e
      | some b =>
        rw [e2] at e
        cases e
        exact ⟨v1, .ty T, _, _, b, rfl, .ty T, tyD_is h1.1.top r1 e1, kit_ty e2, q _ Hf1 H1 (.refl h1.1.top) (is_bl _)⟩).to
end
def bolsOf : List D → Option (List Bool)
  | [] => some []
  | .bl b :: r => (bolsOf r).map (b :: ·)
  | _ :: _ => none
def allD : List D → Option D
  | [.lst ds] => (bolsOf ds).map fun bs => .bl (bs.all id)
  | _ => none
def anyD : List D → Option D
  | [.lst ds] => (bolsOf ds).map fun bs => .bl (bs.any id)
  | _ => none
theorem isL_bls [DL.TC] {K : PySem.W.Frag} {mg : Str → Option Value} {H : Hp} : ∀ {ds : List D} {vs : List V} {ps : List Bool}, IsL K mg H ds vs → bolsOf ds = some ps → vs = ps.map V.bl
  | [], _, _, h, e => by cases h; cases e; rfl
  | .bl s :: ds, _, _, h, e => by
    obtain ⟨v, r, rfl, rfl, l⟩ := h
    unfold bolsOf at e
    cases q : bolsOf ds with
    | none => rw [q] at e; cases e
    | some ps => rw [q] at e; cases e; rw [isL_bls l q]; rfl
  | .non :: _, _, _, _, e => by cases e
  | .str _ :: _, _, _, _, e => by cases e
  | .int _ :: _, _, _, _, e => by cases e
  | .tup _ :: _, _, _, _, e => by cases e
  | .lst _ :: _, _, _, _, e => by cases e
  | .dic _ _ :: _, _, _, _, e => by cases e
  | .ndc _ _ :: _, _, _, _, e => by cases e
  | .ins _ _ _ :: _, _, _, _, e => by cases e
  | .scr _ :: _, _, _, _, e => by cases e
  | .xc _ _ _ _ :: _, _, _, _, e => by cases e
section
variable {X : Cx} [DL.TC]
theorem oc_any (hc : X.calm = true) : CallR X (.builtin "any") (rDs X.K X.mg anyD) := by
  intro pins s σ H xs us Q I r h
  obtain ⟨Hf, ds, d, sb, l, e, q⟩ := h
  unfold anyD at e
  split at e
  · obtain ⟨v, r1, rfl, ⟨z1, p1, v1, rfl, h1, l1⟩, rfl⟩ := l
    rename_i es
    cases e1 : bolsOf es with
    | none => rw [e1] at e; cases e
    | some bs =>
      rw [e1] at e; cases e
      have := isL_bls l1 e1
      subst this
      exact cr_any hc pins s σ H _ us Q I r ⟨_, bs, rfl, .inl (.inl (sb _ _ h1)), q _ Hf H (.refl sb) (is_bl _)⟩
  · cases e
end
def reprD : List D → Option D
  | [d] => match toPy d with
    | some p => if p.showable && !p.hasDict && decide (p.depth ≤ 60) && decide (p.shown.length ≤ sizeLine) then some (.str p.shown.cps.toList) else none
    | none => none
  | _ => none
section
variable {X : Cx} [DL.TC]
theorem shown_is {K : PySem.W.Frag} {mg : Str → Option Value} {H : Hp} (z : Str) (h : z.length ≤ sizeLine) : Is K mg H (.str z.cps.toList) (.str z) := ⟨by rw [Array.toArray_toList], h⟩
theorem oc_repr (hg : X.A.guards = some []) (hu : X.A.units + 64 < cLine) : CallR X (.builtin "repr") (rDs X.K X.mg reprD) := by
  intro pins s σ H xs us Q I r h
  obtain ⟨Hf, ds, d, sb, l, e, q⟩ := h
  unfold reprD at e
  split at e
  · rename_i d1
    obtain ⟨v, r1, rfl, i1, rfl⟩ := l
    split at e
    · rename_i p e1
      split at e
      · rename_i hc
        cases e
        simp only [Bool.and_eq_true, Bool.not_eq_true', decide_eq_true_eq] at hc
        obtain ⟨⟨⟨h1, h2⟩, h3⟩, h4⟩ := hc
        have dp := (i1.mono sb.s).dp e1
        obtain ⟨u, rfl, ru⟩ := vals1 r
        have fin : ∀ (h' : Heap) (t : Tok) (tk : Nat), (∀ b o, s.heap.get? b = some o → h'.get? b = some o) → EP X pins σ Q (.str p.shown t) { s with heap := h', toks := tk } := fun h' t tk hk =>
          ⟨.str _, H, I.kept hk, ⟨t, rfl⟩, q _ Hf H (.refl sb) (shown_is _ h4)⟩
        have tok : ∀ (t : Tok) (tk : Nat), EP X pins σ Q (.str p.shown t) { s with toks := tk } := fun t tk => fin s.heap t tk fun _ _ e => e
        cases p with
        | none => cases dp; cases ru; exact PySem.P.repr_of_none (tok _ _)
        | bool b => cases dp; cases ru; exact PySem.P.repr_of_bool (tok _ _)
        | int i => cases dp; obtain ⟨t, rfl⟩ := ru; exact PySem.P.repr_of_int (by simpa [PyData.showable] using h1) (tok _ _)
        | str z => cases dp; obtain ⟨t, rfl⟩ := ru; exact PySem.P.repr_of_str (tok _ _) h4
        | list ps =>
          obtain ⟨as, rr⟩ := Dp.reads I _ v u dp ru
          cases dp
          cases ru
          exact PySem.repr_of_reads' rr h1 (fun z => by rw [h2] at z; cases z) hg (by omega) (fun _ _ e => e) (fun h' t tk hk => fin h' t tk hk) h4
        | tuple ps =>
          obtain ⟨as, rr⟩ := Dp.reads I _ v u dp ru
          cases dp
          cases ru
          exact PySem.repr_of_reads' rr h1 (fun z => by rw [h2] at z; cases z) hg (by omega) (fun _ _ e => e) (fun h' t tk hk => fin h' t tk hk) h4
        | dict kv => simp [PyData.hasDict] at h2
      · cases e
    · cases e
  · cases e
end
end DL
namespace DL
open PySem L2
def popI (ds : List D) (k : D) : Option (D × List D) := match k with
  | .int i => match ixN ds.length i with
    | some j => (ds[j]?).map fun d => (d, ds.eraseIdx j)
    | none => none
  | _ => none
theorem ixN_lt {n : Nat} {i : Int} {j : Nat} (h : ixN n i = some j) : j < n := (ixN_seq h).2.1
section
variable {X : Cx} {fx : Fx} {m : Type → Type} [Mo m] {G : List Sl} {α β : Type} {kk : Nat} {e : Expr} {rest : List Stmt} {ex : α → List Sl} {exb : β → List Sl} {pos : Pos} [DL.TC]
theorem dss_retF {x : m (List D)} (he : PE X e (tF X.K X.mg fx G x)) (hnr : fx.nr = true := by rfl) (hg : GxOk fx G := by first | exact True.intro | repeat' (first | exact True.intro | exact Or.inl rfl | exact Or.inr rfl | refine And.intro ?_ ?_)) : PSs X (.Return (some e) pos :: rest) (tS X.K X.mg fx G ex exb (do let ds ← x; pure (.rt (.lst ds)))) := pssI (pss_cons (ps_ret he) pss_never) fun De σ H ⟨Hf, s, h⟩ =>
  ⟨Hf, s, h.1, Mo.wp_mono (Mo.wp_bind h.2) (fun ds s1 w p vs Hf1 H1 e bg hp hf1 hn l hz => (Mo.wp_pure w) (.ref p) Hf1 H1 (h.1.ste.trans e.wider) bg (by rw [hnr]; exact ⟨p, vs, ds, rfl, rfl, hp, hf1, (h.1.new0 hn).1, l, hz⟩)) fun e s' k => exs_ex hg k⟩
end
end DL
namespace DL
open PySem L2
def bagX : M D := fun s => if s.w = false then .ok (.int s.x) s else .stuck
def bagY : M D := fun s => if s.w = false then .ok (.int s.y) s else .stuck
def bagSetX (i : Int) : M Unit := fun s => if s.w = false then .ok () { s with x := i } else .stuck
def bagSetY (i : Int) : M Unit := fun s => if s.w = false then .ok () { s with y := i } else .stuck
theorem bag_one {bag : List Addr} {H : Hp} {s : S} {b : Addr} {r : List Addr} (h : BagAt bag H s) (hw : s.w = false) (e : bag = b :: r) : bag = [b] ∧ H b = some (.lst [.int s.x, .int s.y]) := by
  subst e
  cases r with
  | nil => exact ⟨rfl, h.2⟩
  | cons c r => exact absurd h.1 (by rw [hw]; simp)
section
variable {X : Cx} {fx : Fx} {G : List Sl} {α β : Type} {kk : Nat} {e : Expr} {rest : List Stmt} {ex : α → List Sl} {exb : β → List Sl} {pos p2 np apos : Pos} {n : Str} {j : Nat} [DL.TC]
theorem de_bagX (i : Nat) (hG : G[i]? = some .bg := by rfl) (hN : X.N[i]? = some n := by rfl) (hv : Vis X.env.scope n := by first | exact Or.inl rfl | exact Or.inr (Or.inl rfl) | exact Or.inr (Or.inr rfl)) (hd : (n == ("__debug__" : Str)) = false := by decide) (hcd : (n == ("__classdict__" : Str)) = false := by decide)
    (hs : PlainIx (.Constant (.int 0) j p2) := by exact fun _ _ => rfl) : PE X (.Subscript (.Name n np) (.Constant (.int 0) j p2) pos) (tE X.K X.mg fx G bagX) :=
  peI (pe_ix ix_list (pe_var hN hv hd hcd) pe_int hs) fun σ H Q ⟨Hf, s, h⟩ => by
    obtain ⟨b, r, eb, ev⟩ := h.1.sl i _ hG
    have w : (bagX s).wp _ _ := h.2
    unfold bagX at w
    by_cases hw : s.w = false
    · rw [if_pos hw] at w
      obtain ⟨e1, hb⟩ := bag_one h.1.bag hw eb
      exact ⟨.ref b, ev, b, _, 0, .int s.x, rfl, rfl, .inl (.inl hb), rfl, w _ Hf H (.refl h.1.top) h.1.bag (is_int _)⟩
    · rw [if_neg hw] at w
      exact w.elim
theorem de_bagY (i : Nat) (hG : G[i]? = some .bg := by rfl) (hN : X.N[i]? = some n := by rfl) (hv : Vis X.env.scope n := by first | exact Or.inl rfl | exact Or.inr (Or.inl rfl) | exact Or.inr (Or.inr rfl)) (hd : (n == ("__debug__" : Str)) = false := by decide) (hcd : (n == ("__classdict__" : Str)) = false := by decide)
    (hs : PlainIx (.Constant (.int 1) j p2) := by exact fun _ _ => rfl) : PE X (.Subscript (.Name n np) (.Constant (.int 1) j p2) pos) (tE X.K X.mg fx G bagY) :=
  peI (pe_ix ix_list (pe_var hN hv hd hcd) pe_int hs) fun σ H Q ⟨Hf, s, h⟩ => by
    obtain ⟨b, r, eb, ev⟩ := h.1.sl i _ hG
    have w : (bagY s).wp _ _ := h.2
    unfold bagY at w
    by_cases hw : s.w = false
    · rw [if_pos hw] at w
      obtain ⟨e1, hb⟩ := bag_one h.1.bag hw eb
      exact ⟨.ref b, ev, b, _, 1, .int s.y, rfl, rfl, .inl (.inl hb), rfl, w _ Hf H (.refl h.1.top) h.1.bag (is_int _)⟩
    · rw [if_neg hw] at w
      exact w.elim
theorem StS.bagUpd {K : PySem.W.Frag} {mg : Str → Option Value} {Hf H : Hp} {σ : L2.St} {s s' : S} {b : Addr} {o : HO} (st : StS K mg fx Hf H σ G s) (hb : b ∈ fx.bag) (hk : Pl H b) (bg : BagAt fx.bag (upd H b o) s') : StS K mg fx Hf (upd H b o) σ G s' := by
  have hf := (st.bagf b hb).1
  refine ⟨⟨st.ste.sub, fun a u q => ?_, fun a u q n kk => ?_, fun a n => ?_, st.ste.fresh, fun t => (st.ste.tab t).updP hk⟩, bg, fun c hc => ⟨(st.bagg c hc).1, ?_, (st.bagg c hc).2.2⟩, st.tb.updP hk, st.len, fun i x ex => ?_, st.dis⟩
  · have ne : a ≠ b := fun z => by rw [z, hf] at q; cases q
    rw [upd_ne ne]; exact st.top a u q
  · have ne : a ≠ b := fun z => n (List.mem_append_right _ (z ▸ hb))
    rw [upd_ne ne]; exact st.ste.keep a u q n kk
  · by_cases c : a = b
    · rw [c, upd_same]; simp
    · rw [upd_ne c]; exact st.ste.dom a n
  · by_cases q : c = b
    · rw [q, upd_same]; simp
    · rw [upd_ne q]; exact (st.bagg c hc).2.1
  · exact (st.sl i x ex).upd (.inr (.inr (.inr hb))) fun q ox e z => by
      obtain ⟨q2, e2, _, _, nb, _⟩ := (st.sl i x ex).ref ox
      rw [e] at e2
      cases e2
      exact nb (z ▸ hb)
theorem dss_bagSetX {x : M D} {k : M (Fl α β)} (i : Nat) (he : PE X e (tE X.K X.mg fx G x)) (hr : PSs X rest (tS X.K X.mg fx G ex exb k)) (hG : G[i]? = some .bg := by rfl) (hN : X.N[i]? = some n := by rfl) (hv : Vis X.env.scope n := by first | exact Or.inl rfl | exact Or.inr (Or.inl rfl) | exact Or.inr (Or.inr rfl)) (hd : (n == ("__debug__" : Str)) = false := by decide) (hcd : (n == ("__classdict__" : Str)) = false := by decide)
    (ha : ∀ v, assign (.Subscript (.Name n np) (.Constant (.int 0) j p2) apos) X.env v = (do
      let ov ← holding [v] (eval (.Name n np) X.env)
      let iv ← holding [v, ov] (eval (.Constant (.int 0) j p2) X.env)
      standAt apos
      holding [v, ov, iv] (setItem ov iv v)
      release [v, ov, iv] []) := by intro _; rfl)
    (hs : swapsWithSole [.Subscript (.Name n np) (.Constant (.int 0) j p2) apos] e pos.line X.env = pure false := by rfl) (hw : swappedStores [.Subscript (.Name n np) (.Constant (.int 0) j p2) apos] e X.env = pure none := by rfl)
    (h1 : (assignEach [.Subscript (.Name n np) (.Constant (.int 0) j p2) apos] X.env).map (·.2) = [assign (.Subscript (.Name n np) (.Constant (.int 0) j p2) apos) X.env] := by rfl) (hg : GxOk fx G := by first | exact True.intro | repeat' (first | exact True.intro | exact Or.inl rfl | exact Or.inr rfl | refine And.intro ?_ ?_)) :
    PSs X (.Assign [.Subscript (.Name n np) (.Constant (.int 0) j p2) apos] e pos :: rest) (tS X.K X.mg fx G ex exb (do let d ← x; let i ← ask (intOf d); bagSetX i; k)) :=
  pssI (pss_cons (ps_asg he (pg_sub (pe_var hN hv hd hcd) pe_int set_list ha) hs hw h1) hr) fun De σ H ⟨Hf, s, h⟩ =>
    ((h.bind hg).mono fun v H1 ⟨d, Hf1, s1, sb, r, h1⟩ => by
      obtain ⟨b, rr, eb, ev⟩ := h1.1.sl i _ hG
      have w := Mo.wp_lift (Mo.wp_bind h1.2)
      cases d with
      | int t =>
        cases r
        have w2 : (bagSetX t s1).wp _ _ := Mo.wp_bind w
        unfold bagSetX at w2
        by_cases hw : s1.w = false
        · rw [if_pos hw] at w2
          obtain ⟨e1, hb⟩ := bag_one h1.1.bag hw eb
          refine ⟨.ref b, ev, b, _, 0, 0, rfl, rfl, hb, rfl, Hf1, _, h1.1.bagUpd (s' := { s1 with x := t }) (by rw [e1]; simp) (.lst hb) ?_, w2⟩
          rw [e1]
          exact ⟨hw, upd_same⟩
        · rw [if_neg hw] at w2
          exact w2.elim
      | _ => exact w.elim).to
theorem dss_bagSetY {x : M D} {k : M (Fl α β)} (i : Nat) (he : PE X e (tE X.K X.mg fx G x)) (hr : PSs X rest (tS X.K X.mg fx G ex exb k)) (hG : G[i]? = some .bg := by rfl) (hN : X.N[i]? = some n := by rfl) (hv : Vis X.env.scope n := by first | exact Or.inl rfl | exact Or.inr (Or.inl rfl) | exact Or.inr (Or.inr rfl)) (hd : (n == ("__debug__" : Str)) = false := by decide) (hcd : (n == ("__classdict__" : Str)) = false := by decide)
    (ha : ∀ v, assign (.Subscript (.Name n np) (.Constant (.int 1) j p2) apos) X.env v = (do
      let ov ← holding [v] (eval (.Name n np) X.env)
      let iv ← holding [v, ov] (eval (.Constant (.int 1) j p2) X.env)
      standAt apos
      holding [v, ov, iv] (setItem ov iv v)
      release [v, ov, iv] []) := by intro _; rfl)
    (hs : swapsWithSole [.Subscript (.Name n np) (.Constant (.int 1) j p2) apos] e pos.line X.env = pure false := by rfl) (hw : swappedStores [.Subscript (.Name n np) (.Constant (.int 1) j p2) apos] e X.env = pure none := by rfl)
    (h1 : (assignEach [.Subscript (.Name n np) (.Constant (.int 1) j p2) apos] X.env).map (·.2) = [assign (.Subscript (.Name n np) (.Constant (.int 1) j p2) apos) X.env] := by rfl) (hg : GxOk fx G := by first | exact True.intro | repeat' (first | exact True.intro | exact Or.inl rfl | exact Or.inr rfl | refine And.intro ?_ ?_)) :
    PSs X (.Assign [.Subscript (.Name n np) (.Constant (.int 1) j p2) apos] e pos :: rest) (tS X.K X.mg fx G ex exb (do let d ← x; let i ← ask (intOf d); bagSetY i; k)) :=
  pssI (pss_cons (ps_asg he (pg_sub (pe_var hN hv hd hcd) pe_int set_list ha) hs hw h1) hr) fun De σ H ⟨Hf, s, h⟩ =>
    ((h.bind hg).mono fun v H1 ⟨d, Hf1, s1, sb, r, h1⟩ => by
      obtain ⟨b, rr, eb, ev⟩ := h1.1.sl i _ hG
      have w := Mo.wp_lift (Mo.wp_bind h1.2)
      cases d with
      | int t =>
        cases r
        have w2 : (bagSetY t s1).wp _ _ := Mo.wp_bind w
        unfold bagSetY at w2
        by_cases hw : s1.w = false
        · rw [if_pos hw] at w2
          obtain ⟨e1, hb⟩ := bag_one h1.1.bag hw eb
          refine ⟨.ref b, ev, b, _, 1, 1, rfl, rfl, hb, rfl, Hf1, _, h1.1.bagUpd (s' := { s1 with y := t }) (by rw [e1]; simp) (.lst hb) ?_, w2⟩
          rw [e1]
          exact ⟨hw, upd_same⟩
        · rw [if_neg hw] at w2
          exact w2.elim
      | _ => exact w.elim).to
end
def lstOf : D → Option (List D)
  | .lst ds => some ds
  | _ => none
section
variable {X : Cx} {fx : Fx} {m : Type → Type} [Mo m] {G : List Sl} {es : List Expr} {pos : Pos} {ys : m (List D)} {kk j n : Nat} {g : List D → R D} {f : Addr} {fd : FuncData} {ps : List Str} {nm : Str} {p : Pos} {e : Expr} [DL.TC]
theorem df_fn (C : Cok X fx kk) (F : FnG X.prog X.w X.K X.mg X.base j f fd ps (spR X.K X.mg true n g)) (hm : X.mg nm = some (.ref f)) (hk : PySem.W.keepIn X.K (.ref f) = true) (hb : Binds X.K fd ps []) (ha : PA X (e :: es) (tA X.K X.mg fx G ys)) (hn : ∀ ds : List D, g ds ≠ .stuck → ds.length = n)
    (hj : j ≤ kk := by decide) (hg : Gl X nm := by rfl) (hdb : (nm == ("__debug__" : Str)) = false := by decide) (he : starEach (e :: es) X.env = (false, eval e X.env) :: starEach es X.env := by rfl) (hpl : (backTo pos (starEach es X.env)).any (·.1) = false := by rfl) :
    PE X (.Call (.Name nm p) (e :: es) [] pos) (tF X.K X.mg fx G (do let ds ← ys; let d ← Mo.lift (g ds); ask (lstOf d))) := peI (pe_callG (E := WE fx.W) F C.gd (C.rm.mono hj) hg hm hk hb .nil (fun σ => passAt C.tk σ) ha hdb he hpl) fun σ H Q ⟨Hf, s, st, w⟩ =>
  ⟨Hf, s, st, Mo.wp_mono (Mo.wp_bind w) (fun ds s1 k vs Hf1 H1 e1 bg1 l1 => by
    show spR X.K X.mg true n g (vs ++ []) H1 Q (WE fx.W σ)
    rw [List.append_nil]
    have st1 := st.step e1 bg1
    have w2 := Mo.wp_lift (Mo.wp_bind k)
    have hnv : vs.length = n := by
      rw [← l1.len]
      refine hn ds fun z => ?_
      rw [z] at w2
      exact w2
    refine ⟨hnv, Hf1, ds, st1.topT, l1, ?_⟩
    cases z : g ds with
    | ok d =>
      rw [z] at w2
      rintro v Hf' H' e2 ⟨p, vs2, ds2, rfl, rfl, hp, hf, h0, l2, hz⟩
      have w3 := Mo.wp_lift w2
      have hn0 : H p = none := by
        cases q : H p with
        | none => rfl
        | some o => exact absurd h0 (e1.dom p (by rw [q]; simp))
      exact w3 p vs2 Hf' H' (e1.trans e2.wide) (e2.bag bg1) hp hf hn0 l2 hz
    | ex e => rw [z] at w2; exact fun cls dd Hf' H' e2 x => w2 cls dd Hf' H' (st1.step e2.wide (e2.bag bg1)) x
    | stuck => rw [z] at w2; exact w2) fun e s' k => k⟩
end
def withBag {α β : Type} (d : D) (body : M (Fl α β)) : R (Fl α β) := match d with
  | .lst [.int x, .int y] => match body ⟨x, y, 0, [], false⟩ with
    | .ok f _ => .ok f
    | .ex e _ => .ex e
    | .stuck => .stuck
  | _ => .stuck
abbrev Fx.bagged (fx : Fx) (b : Addr) : Fx := { fx with bag := [b] }
section
variable {K : PySem.W.Frag} {mg : Str → Option Value} {fx : Fx} [DL.TC]
theorem Ste.unbag {b : Addr} {Hf H Hf' H' : Hp} (e : Ste [b] Hf H Hf' H') (hb : H b = none) : Ste [] Hf H Hf' H' :=
  ⟨e.sub, e.top, fun a o q _ kk => e.keep a o q (fun m => by
    have : a = b := by simpa using m
    subst this
    rw [hb] at q; cases q) kk, e.dom, e.fresh, e.tab⟩
def noBg : Sl → Bool
  | .bg => false
  | _ => true
theorem StS.unbag {b : Addr} {Hf H : Hp} {σ : L2.St} {G : List Sl} {s s0 : S} (hfx : fx.bag = []) (hme : fx.me = []) (hb : fx.H0 b = none) (st : StS K mg (fx.bagged b) Hf H σ G s) (hG : G.all noBg = true) : StS K mg fx Hf H σ G s0 := by
  have st0 : Ste [b] fx.Hf0 fx.H0 Hf H := by
    have z := st.ste
    have e : (fx.bagged b).me = [] := hme
    rw [e] at z
    exact z
  refine ⟨by rw [hfx, hme]; exact Ste.unbag st0 hb, by rw [hfx]; trivial, by rw [hfx, hme]; intro b hb; (cases hb), st.tb, st.len, fun i x e => ?_, st.dis⟩
  have so := st.sl i x e
  cases x with
  | un => trivial
  | im d => exact so
  | bg =>
    have := List.all_eq_true.mp hG _ (List.mem_of_getElem? e)
    cases this
  | ow ds =>
    obtain ⟨p, vs, e1, h, hf, h0, nb, l, hz⟩ := so
    exact ⟨p, vs, e1, h, hf, h0, by rw [hfx]; simp, l, hz⟩
  | od ks ds =>
    obtain ⟨p, vs, e1, h, hf, h0, nb, l, l', hz⟩ := so
    exact ⟨p, vs, e1, h, hf, h0, by rw [hfx]; simp, l, l', hz⟩
  | rf _ => exact so
  | o2 _ _ =>
    obtain ⟨p, e1, x⟩ := so
    obtain ⟨a, b, vs, ws, em, _⟩ := x.ex
    have em : fx.me = [p, a, b] := em
    rw [hme] at em
    cases em
  | nd ks ds =>
    obtain ⟨p, xs, vs, ep, e1, h, hf, h0, nb, r⟩ := so
    exact ⟨p, xs, vs, ep, e1, h, hf, h0, by rw [hfx]; simp, r⟩
  | ra _ _ => exact so
  | rw _ _ =>
    obtain ⟨p, vs, e1, h, hf, h0, nb, l⟩ := so
    exact ⟨p, vs, e1, h, hf, h0, by rw [hfx]; simp, l⟩
  | ob ks ds =>
    obtain ⟨p, C, dx, vs, e1, h, hf, h0, nb, l⟩ := so
    exact ⟨p, C, dx, vs, e1, h, hf, h0, by rw [hfx]; simp, l⟩
end
section
variable {X : Cx} {fx : Fx} {G : List Sl} {α β : Type} {kk : Nat} {e : Expr} {rest : List Stmt} {ex : α → List Sl} {exb : β → List Sl} {pos : Pos} {n : Str} {pos' : Pos} [DL.TC]
theorem Cok.bagged (C : Cok X fx kk) (b : Addr) : Cok X (fx.bagged b) kk := ⟨C.calm, C.hp, C.tk, C.rm, C.nd, C.gd, C.hw⟩
theorem StS.setBg {i : Nat} {b : Addr} {Hf H : Hp} {σ : L2.St} {x y : Int} {s : S} (hfx : fx.bag = []) (hme : fx.me = []) (st : StS X.K X.mg fx Hf H σ G s) (no : ∀ (j : Nat) (q : Addr), σ[j]? = some (some (.ref q)) → (∀ x, G[j]? = some x → isOw x = true → q ≠ b)) (hb : H b = some (.lst [.int x, .int y])) (hf : Hf b = none) (h0 : fx.H0 b = none) (hG : G.all noBg = true) :
    StS X.K X.mg (fx.bagged b) Hf H (σ.set i (some (.ref b))) (G.set i .bg) ⟨x, y, 0, [], false⟩ := by
  refine ⟨⟨st.ste.sub, st.ste.top, fun a o q _ kk => st.ste.keep a o q (by rw [hfx, hme]; simp) kk, st.ste.dom, st.ste.fresh, st.ste.tab⟩, ⟨rfl, hb⟩, fun c hc => ?_, st.tb, by simpa using st.len, fun j z e => ?_, fun j k z w p hjk ex ey ox oy e1 e2 => ?_⟩
  · have hm : (fx.bagged b).me = [] := hme
    rw [hm] at hc ⊢
    have : c = b := by simpa using hc
    subst this
    exact ⟨hf, by rw [hb]; simp, fun z => nomatch z⟩
  · by_cases q : i = j
    · subst q
      have hi : i < G.length := by
        have := (List.getElem?_eq_some_iff.mp e).1
        simpa using this
      rw [List.getElem?_set_self hi] at e
      cases e
      exact ⟨b, [], rfl, List.getElem?_set_self (by rw [st.len]; exact hi)⟩
    · rw [List.getElem?_set_ne q] at e
      rw [List.getElem?_set_ne q]
      have so := st.sl j z e
      cases z with
      | un => trivial
      | im d => exact so
      | bg =>
        have := List.all_eq_true.mp hG _ (List.mem_of_getElem? e)
        cases this
      | ow ds =>
        obtain ⟨p, vs, e1, h, hf', h0', nb, l, hz⟩ := so
        refine ⟨p, vs, e1, h, hf', h0', fun m => ?_, l, hz⟩
        have : p = b := by simpa using m
        exact no j p e1 _ e rfl this
      | od ks ds =>
        obtain ⟨p, vs, e1, h, hf', h0', nb, l, l', hz⟩ := so
        refine ⟨p, vs, e1, h, hf', h0', fun m => ?_, l, l', hz⟩
        have : p = b := by simpa using m
        exact no j p e1 _ e rfl this
      | rf _ => exact so
      | o2 _ _ =>
        obtain ⟨p, e1, x⟩ := so
        obtain ⟨a, b, vs, ws, em, _⟩ := x.ex
        have em : fx.me = [p, a, b] := em
        rw [hme] at em
        cases em
      | nd ks ds =>
        obtain ⟨p, xs, vs, ep, e1, h, hf', h0', nb, r⟩ := so
        refine ⟨p, xs, vs, ep, e1, h, hf', h0', fun m => ?_, r⟩
        have : p = b := by simpa using m
        exact no j p e1 _ e rfl this
      | ra _ _ => exact so
      | rw _ _ =>
        obtain ⟨p, vs, e1, h, hf', h0', nb, l⟩ := so
        refine ⟨p, vs, e1, h, hf', h0', fun m => ?_, l⟩
        have : p = b := by simpa using m
        exact no j p e1 _ e rfl this
      | ob ks ds =>
        obtain ⟨p, C, dx, vs, e1, h, hf', h0', nb, l⟩ := so
        refine ⟨p, C, dx, vs, e1, h, hf', h0', fun m => ?_, l⟩
        have : p = b := by simpa using m
        exact no j p e1 _ e rfl this
  · have nj : i ≠ j := by
      rintro rfl
      have hi : i < G.length := by
        have := (List.getElem?_eq_some_iff.mp ex).1
        simpa using this
      rw [List.getElem?_set_self hi] at ex
      cases ex; cases ox
    have nk : i ≠ k := by
      rintro rfl
      have hi : i < G.length := by
        have := (List.getElem?_eq_some_iff.mp ey).1
        simpa using this
      rw [List.getElem?_set_self hi] at ey
      cases ey; cases oy
    rw [List.getElem?_set_ne nj] at ex e1
    rw [List.getElem?_set_ne nk] at ey e2
    exact st.dis j k z w p hjk ex ey ox oy e1 e2
theorem dss_bag {x : R (List D)} {k : M (Fl α β)} (C : Cok X fx kk) (i : Nat) (he : PE X e (tF X.K X.mg fx G x)) (hr : ∀ b, Cok X (fx.bagged b) kk → PSs X rest (tS X.K X.mg (fx.bagged b) (G.set i .bg) ex exb k)) (hex : ∀ a, (ex a).all noBg = true) (hexb : ∀ a, (exb a).all noBg = true) (hfx : fx.bag = [] := by rfl) (hme : fx.me = [] := by rfl) (hgx : fx.gx = none := by rfl) (hnr : fx.nr = false := by rfl) (hG : G.all noBg = true := by rfl)
    (hi : X.N[i]? = some n := by rfl) (hx : Loc X.env.scope n := by first | exact Or.inl rfl | exact Or.inr rfl)
    (hs : swapsWith e (some (.Name n pos')) pos.line X.env = pure false := by rfl) (hf : X.fn n = true ∨ X.env.scope.names.lookup n = some .local := by first | exact .inl rfl | exact .inr rfl) :
    PSs X (.Assign [.Name n pos'] e pos :: rest) (tS X.K X.mg fx G ex exb (do let ds ← x; withBag (.lst ds) k)) := pssI (pss_cons (ps_set C.nd hi hx he hs hf) (pss_ex fun b => hr b (C.bagged b))) fun D σ H ⟨Hf, s, h⟩ =>
  ⟨Hf, s, h.1, Mo.wp_mono (Mo.wp_bind h.2) (fun ds s1 w p vs Hf1 H1 e bg hp hf1 hn l hz => by
    have st1 := h.1.step e bg
    have n0 := h.1.new0 hn
    have w1 : R.wp (withBag (.lst ds) k) s1 _ _ := w
    unfold withBag at w1
    split at w1
    · rename_i x y hd
      cases hd
      obtain ⟨v1, r1, rfl, rfl, v2, r2, rfl, rfl, rfl⟩ := l
      refine ⟨p, Hf1, ⟨x, y, 0, [], false⟩, StS.setBg hfx hme st1 (h.1.owNe hn) hp hf1 n0.1 hG, ?_⟩
      show (k _).wp _ _
      cases q : k ⟨x, y, 0, [], false⟩ with
      | ok f s2 =>
        rw [q] at w1
        have w2 : FP X.K X.mg fx Hf ex exb D f s1 := w1
        show FP X.K X.mg (fx.bagged p) Hf1 ex exb D f s2
        cases f with
        | nx a => exact fun Hf' H' σ' sb st => w2 Hf' H' σ' (e.sub.trans sb) (StS.unbag hfx hme n0.1 st (hex a))
        | rt d => exact fun v Hf' H' st bg' r => w2 v Hf' H' (by rw [hfx, hme]; exact Ste.unbag (by have e : (fx.bagged p).me = [] := hme; rw [e] at st; exact st) n0.1) (by rw [hfx]; trivial) r
        | bk b => exact fun Hf' H' σ' sb st => w2 Hf' H' σ' (e.sub.trans sb) (StS.unbag hfx hme n0.1 st (hexb b))
        | ct b => exact fun Hf' H' σ' sb st => w2 Hf' H' σ' (e.sub.trans sb) (StS.unbag hfx hme n0.1 st (hexb b))
      | ex e2 s2 =>
        rw [q] at w1
        have w2 : EXS X.K X.mg fx e2 s1 := w1
        show EXS X.K X.mg (fx.bagged p) e2 s2
        intro cls dd σ' Hf' H' xs xi
        refine w2 cls dd σ' Hf' H' ?_ xi
        unfold XSt at xs ⊢
        have hgx' : (fx.bagged p).gx = none := hgx
        rw [hgx'] at xs
        rw [hgx]
        exact ⟨by rw [hfx, hme]; exact Ste.unbag (by have z := xs.1; have e : (fx.bagged p).me = [] := hme; rw [e] at z; exact z) n0.1, by rw [hfx]; trivial⟩
      | stuck => rw [q] at w1; exact w1.elim
    · exact w1.elim) fun e s' k => by
      have k' := k
      exact exs_ex (by unfold GxOk; rw [hgx]; trivial) k'⟩
end
end DL
namespace DL
open PySem L2 PyProof.Rows PySem.Spec
section
variable {P : Program} {w : World} {K : PySem.W.Frag} {mg mb : Str → Option Value} {k : Nat} {fa a : Addr} {fd : FuncData} {x : Str} {g : List D → R D} {s1 : Shared} {vs : List Value} {ns : List Int} [DL.TC]
theorem mod_hid {H : Hp} (KX : K.In s1.heap) (hns : s1.heap.Ns mainGlobals mg) (hb : s1.heap.Ns builtinsNs mb) (hbb : ∀ x : Str, x ≠ "__name__" → mb x = bootBuiltins x) (hlim : s1.heap.NoLimit)
    (hd : ∀ (b : Addr) (o : Obj) (es : Array DictEntry) (ep : Nat), s1.heap.get? b = some o → o.data = .dict es ep → H b = none) (hk : ∀ b o, K.lookup b = some o → H b = none) : Mod K mg (hidT s1.heap H) := by
  have nsK : ∀ {b : Addr} {m : Str → Option Value}, s1.heap.Ns b m → (hidT s1.heap H).Ns b m := fun {b m} ⟨o, es, ep, e, d, r⟩ => ⟨o, es, ep, hidT_get e (hd _ _ _ _ e d), d, r⟩
  exact ⟨fun b o e => hidT_get (KX b o e) (hk b o e), nsK hns, ⟨mb, nsK hb, hbb⟩, let ⟨mc, h1, h2⟩ := hlim; ⟨mc, nsK h1, h2⟩⟩
theorem call_at {H : Hp} (KX : K.In s1.heap) (hns : s1.heap.Ns mainGlobals mg) (hb : s1.heap.Ns builtinsNs mb) (hbb : ∀ x : Str, x ≠ "__name__" → mb x = bootBuiltins x) (hlim : s1.heap.NoLimit) (hgn : s1.gens = #[])
    (hd : ∀ (b : Addr) (o : Obj) (es : Array DictEntry) (ep : Nat), s1.heap.get? b = some o → o.data = .dict es ep → H b = none) (hk : ∀ b o, K.lookup b = some o → H b = none) (hf : ∀ b u, H b = some u → ∃ o xs, u = .frz o (.lst xs)) (hok : HOk P w H s1.heap) (hr : Room k callerA)
    (F : ∀ base : Heap, K.In base → base.Ns mainGlobals mg → FnG P w K mg base k fa fd [x] (spR K mg false 1 g)) (hbind : ∀ (s : Shared) (u : Value), BindsTo s fd ⟨[u], []⟩ [(x, u)])
    {Hf : Hp} (sT : SubT Hf H) (hS : ScL K Hf a (ns.map V.int)) (hl : ns.length ≤ sizeLine) (hg : g [.scr ns] = .ok (.bl true)) :
    codeAny (model P w) callerA (.call (.ref fa) ⟨[.ref a], []⟩) (fun r s' => r = .ok (.ret (.bool true)) ∧ OldK s1.heap s'.heap ∧ s'.os = s1.os ∧ AllBare s'.gens) s1 := by
  have hM := mod_hid (H := H) KX hns hb hbb hlim hd hk
  have e0 : Env0 P w K mg (hidT s1.heap H) callerA [] s1 H := ⟨rfl, hM, fun b o e => of_hidT e, Nat.le_of_eq (hidT_size _ _), trivial, fun b hb => absurd (show b ∈ ([] : List Addr) from hb) (by simp), hok, .of_eq hgn⟩
  have hsp : spR K mg false 1 g [.ref a] H (fun v _ => v = .bl true) (fun _ _ _ => False) := by
    refine ⟨rfl, Hf, [.scr ns], sT, ⟨_, _, rfl, ⟨hl, a, rfl, hS⟩, rfl⟩, ?_⟩
    rw [hg]
    exact fun v Hf' H' _ e => e
  refine codeAny_mono ((F _ hM.kin hM.glob).run callerA [] s1 H ⟨[.ref a], []⟩ [.ref a] [.ref a] _ _ rfl hr e0 (hbind s1 (.ref a)) (.cons rfl .nil) hsp) fun r s' h => ?_
  cases r with
  | error e =>
    exact (cxm_false (show CXm P w mg [] H s1 (fun _ _ _ => False) e s' from h)).elim
  | ok fl =>
    cases fl with
    | next => exact False.elim h
    | brk => exact False.elim h
    | cont => exact False.elim h
    | ret u =>
      obtain ⟨v, H', os, bare, un, hok', r', q⟩ := h
      have q' : v = .bl true := q
      subst q'
      obtain rfl : u = Value.bool true := r'
      refine ⟨rfl, OldK.of_keep fun b o e => ?_, os, bare⟩
      cases q : H b with
      | none => exact un.keep b o e q (by intro z; exact absurd (show b ∈ ([] : List Addr) from z) (by simp)) (by simp)
      | some u =>
        obtain ⟨ob, xs, rfl⟩ := hf b u q
        have z2 := un.frzs b ob _ q
        obtain ⟨e1, _⟩ := hok b _ q
        obtain ⟨e2, _⟩ := hok' b _ z2
        rw [e] at e1; cases e1
        exact e2
def scrH (a : Addr) (o : Obj) (xs : List V) : Hp := fun b => if b = a then some (.frz o (.lst xs)) else none
theorem scrH_at {a : Addr} {o : Obj} {xs : List V} : scrH a o xs a = some (.frz o (.lst xs)) := if_pos rfl
theorem scrH_ne {a b : Addr} {o : Obj} {xs : List V} (h : b ≠ a) : scrH a o xs b = none := if_neg h
theorem scrH_inv {a b : Addr} {o : Obj} {xs : List V} {u : HO} (h : scrH a o xs b = some u) : b = a ∧ u = .frz o (.lst xs) := by
  by_cases q : b = a
  · subst q
    rw [scrH_at] at h
    exact ⟨rfl, (Option.some.inj h).symm⟩
  · rw [scrH_ne q] at h
    cases h
theorem subT_nil {H : Hp} (hT : TC.T = []) : SubT H H := ⟨.refl H, fun q hq => by (rw [hT] at hq; cases hq), fun q hq => by (rw [hT] at hq; cases hq)⟩
theorem law_callG (hT : TC.T = []) (KX : K.In s1.heap) (hns : s1.heap.Ns mainGlobals mg) (hb : s1.heap.Ns builtinsNs mb) (hbb : ∀ x : Str, x ≠ "__name__" → mb x = bootBuiltins x) (hlim : s1.heap.NoLimit) (hgn : s1.gens = #[])
    (ha : s1.heap.get? a = some { cls := .type "list", data := .seq vs.toArray }) (hi : IntsAre vs ns) (hl : ns.length ≤ sizeLine) (hr : Room k callerA)
    (F : ∀ base : Heap, K.In base → base.Ns mainGlobals mg → FnG P w K mg base k fa fd [x] (spR K mg false 1 g)) (hbind : ∀ (s : Shared) (u : Value), BindsTo s fd ⟨[u], []⟩ [(x, u)]) (hg : g [.scr ns] = .ok (.bl true)) :
    codeAny (model P w) callerA (.call (.ref fa) ⟨[.ref a], []⟩) (fun r s' => r = .ok (.ret (.bool true)) ∧ OldK s1.heap s'.heap ∧ s'.os = s1.os ∧ AllBare s'.gens) s1 := by
  have rv := vals_ints hi
  cases hk : K.lookup a with
  | some o =>
    have e := KX a o hk
    rw [ha] at e
    cases e
    refine call_at (H := fun _ => none) KX hns hb hbb hlim hgn (fun _ _ _ _ _ _ => rfl) (fun _ _ _ => rfl) (fun b u z => nomatch z) (fun b u z => nomatch z) hr F hbind (subT_nil hT) (.inr ⟨_, vs.toArray, _, hk, rfl, rfl, rfl, ?_, by simpa using rv⟩) hl hg
    rw [List.size_toArray, hi.length]
    exact hl
  | none =>
    refine call_at (H := scrH a { cls := .type "list", data := .seq vs.toArray } (ns.map V.int)) KX hns hb hbb hlim hgn (fun b o es ep e d => ?_) (fun b o e => ?_) (fun b u z => ⟨_, _, (scrH_inv z).2⟩) (fun b u z => ?_) hr F hbind (subT_nil hT) (.inl ⟨_, scrH_at⟩) hl hg
    · refine scrH_ne fun q => ?_
      subst q
      rw [ha] at e; cases e
      have d' : Data.seq vs.toArray _ = Data.dict es ep := d
      cases d'
    · refine scrH_ne fun q => ?_
      subst q
      rw [hk] at e; cases e
    · obtain ⟨rfl, rfl⟩ := scrH_inv z
      exact ⟨ha, by rw [List.length_map]; exact hl, vs, _, rv, ha⟩
end
abbrev tc0 (w : World) : TC := ⟨[], w⟩
end DL
namespace DL
open PySem L2
section
variable {X : Cx} {tg l : Expr} {tl : TE} [DL.TC]
theorem iter_any {pins : List (Addr × Obj)} {σ : L2.St} {H1 : Hp} {s1 : Shared} {R : It → Hp → Prop} {x : V} {v : Value} (I : L2.Inv X pins σ H1 s1) (rel : RelV x v)
    (h : (∃ z : Str, x = .str z ∧ R (Its z) H1) ∨ ∃ a, x = .ref a ∧ (((∃ xs, SqL X.K H1 a xs) ∧ R (Itl X.K a) H1) ∨ ((∃ xs, SqT X.K H1 a xs) ∧ R (Itt X.K a) H1))) :
    wpAny (model X.prog X.w) X.A (pyIter v) (PIE X pins σ tg R) X.xe s1 := by
  rcases h with ⟨z, rfl, q⟩ | ⟨a, rfl, q⟩
  · obtain ⟨t, rfl⟩ := rel
    by_cases narrow : z.cps.all (· < 128) = true
    · exact wpAny_pyIter_ascii narrow (pi_one (tk := s1.toks) I _ (turn_str _ z t "str_ascii_iterator" (.inl rfl)) ⟨_, Heap.get?_push_size _ rfl, rfl, rfl⟩ q)
    · exact wpAny_pyIter_wide (Bool.eq_false_iff.mpr narrow) (pi_one (tk := s1.toks) I _ (turn_str _ z t "str_iterator" (.inr rfl)) ⟨_, Heap.get?_push_size _ rfl, rfl, rfl⟩ q)
  · cases rel
    exact iter_sq I q
theorem pi_any (hl : PE X l tl) : PI X tg l (fun σ H R => tl σ H fun x H1 => (∃ z : Str, x = .str z ∧ R (Its z) H1) ∨ ∃ a, x = .ref a ∧ (((∃ xs, SqL X.K H1 a xs) ∧ R (Itl X.K a) H1) ∨ ((∃ xs, SqT X.K H1 a xs) ∧ R (Itt X.K a) H1))) where
  run pins s σ H R I h := wpAny_mono (hl.run pins s σ H _ I h) (fun v s1 ⟨x, H1, I1, rel, q⟩ => iter_any I1 rel q) fun _ _ z => z
end
section
variable {X : Cx} {fx : Fx} {m : Type → Type} [Mo m] {G : List Sl} {tg l c a b : Expr} {x y : m D} {t : m Bool} {pos : Pos} {kk : Nat} [DL.TC]
def itD : D → Option (List D)
  | .lst ds => some ds
  | .tup ds => some ds
  | .str s => some (chrs s)
  | .scr is => some (is.map .int)
  | _ => none
theorem yl_scr {K : PySem.W.Frag} {mg : Str → Option Value} {Hf : Hp} {is : List Int} {a : Addr} (hz : is.length ≤ sizeLine) (h : SqL K Hf a (is.map V.int)) : Yl K mg (Itl K a) Hf (is.map .int) := ⟨by simpa using hz, fun Hf2 H s1 s2 i => by
  have hq : SqL K H a (is.map V.int) := s2.sql (s1.sql h)
  have l : IsL K mg Hf (is.map .int) (is.map V.int) := isL_ints is
  refine ⟨fun d hd => ?_, fun hl => ⟨_, hq, by rw [← l.len]; exact hl⟩⟩
  obtain ⟨v, hv, iv⟩ := l.get hd
  exact ⟨⟨_, v, hq, hv⟩, fun x H' ⟨e, f⟩ => by
    subst e
    have := f _ hq
    rw [hv] at this
    cases this
    exact ⟨Hf2, .refl s2, iv.mono s1⟩⟩⟩
theorem di_any (h : PE X l (tE X.K X.mg fx G x)) : PI X tg l (tI X.K X.mg fx G (do let d ← x; ask (itD d))) := piI (pi_any h) fun σ H Q ⟨Hf, s, h⟩ =>
  (h.bind.mono fun v H1 ⟨d, Hf1, s1, sb, r, h1⟩ => by
    obtain ⟨ds, e, q⟩ := h1.ask
    cases d with
    | lst es =>
      cases e
      obtain ⟨hz, a, vs, rfl, t, il⟩ := r
      exact .inr ⟨a, rfl, .inl ⟨⟨vs, .inl (.inl (h1.1.top _ _ t))⟩, q _ Hf1 H1 (.refl h1.1.top) (yl_list hz t il)⟩⟩
    | tup es =>
      cases e
      obtain ⟨hz, a, vs, rfl, t, il⟩ := r
      exact .inr ⟨a, rfl, .inr ⟨⟨vs, h1.1.top.sqt t⟩, q _ Hf1 H1 (.refl h1.1.top) (yl_tup hz t il)⟩⟩
    | str z =>
      cases e
      exact .inl ⟨_, r.1, q _ Hf1 H1 (.refl h1.1.top) (yl_str z r.2)⟩
    | scr is =>
      cases e
      obtain ⟨hz, a, rfl, t⟩ := r
      exact .inr ⟨a, rfl, .inl ⟨⟨_, h1.1.top.sql t.sq⟩, q _ Hf1 H1 (.refl h1.1.top) (yl_scr hz t.sq)⟩⟩
    | _ => cases e).to
mutual
def imm : D → Bool
  | .non => true
  | .bl _ => true
  | .int _ => true
  | .str _ => true
  | .tup ds => immL ds
  | .ins _ _ ds => immL ds
  | _ => false
def immL : List D → Bool
  | [] => true
  | d :: ds => imm d && immL ds
end
def flatD (d : D) : Option D := if imm d = true then some d else none
section
variable {K : PySem.W.Frag} {mg : Str → Option Value} {H H' : Hp} [DL.TC]
theorem Rd.off {a : Addr} {u : HO} (hh : ∀ a, H' a = H a ∨ ∃ vs, H a = some (.lst vs)) (h : Rd H a u) (hu : ∀ vs, u ≠ .lst vs) : Rd H' a u := by
  rcases h with h | ⟨o, h⟩
  · rcases hh a with e | ⟨vs, e⟩
    · exact .inl (e.trans h)
    · rw [h] at e; cases e; exact absurd rfl (hu vs)
  · rcases hh a with e | ⟨vs, e⟩
    · exact .inr ⟨o, e.trans h⟩
    · rw [h] at e; cases e
mutual
theorem Is.off (hh : ∀ a, H' a = H a ∨ ∃ vs, H a = some (.lst vs)) : ∀ {d : D} {v : V}, imm d = true → Is K mg H d v → Is K mg H' d v
  | .non, _, _, h => h
  | .bl _, _, _, h => h
  | .int _, _, _, h => h
  | .str _, _, _, h => h
  | .tup ds, _, m, h => by
    obtain ⟨z, a, vs, e, t, l⟩ := h
    refine ⟨z, a, vs, e, ?_, IsL.off hh (ds := ds) (by simpa [imm] using m) l⟩
    rcases t with t | t
    · exact .inl (Rd.off hh t fun vs z => by cases z)
    · exact .inr t
  | .ins c ns ds, _, m, h => by
    obtain ⟨a, C, dx, vs, e, q, t, n, l⟩ := h
    refine ⟨a, C, dx, vs, e, q, ?_, n, IsL.off hh (ds := ds) (by simpa [imm] using m) l⟩
    rcases hh a with z | ⟨us, z⟩
    · exact z.trans t
    · rw [t] at z; cases z
  | .lst _, _, m, _ => by simp [imm] at m
  | .dic _ _, _, m, _ => by simp [imm] at m
  | .ndc _ _, _, m, _ => by simp [imm] at m
  | .scr _, _, m, _ => by simp [imm] at m
  | .xc _ _ _ _, _, m, _ => by simp [imm] at m
theorem IsL.off (hh : ∀ a, H' a = H a ∨ ∃ vs, H a = some (.lst vs)) : ∀ {ds : List D} {vs : List V}, immL ds = true → IsL K mg H ds vs → IsL K mg H' ds vs
  | [], _, _, h => h
  | d :: ds, vs, m, h => by
    have m' : imm d = true ∧ immL ds = true := by simpa [immL] using m
    obtain ⟨v, r, e, i, l⟩ := h
    exact ⟨v, r, e, Is.off hh m'.1 i, IsL.off hh m'.2 l⟩
end
end
open Classical in
noncomputable def offH (Hf Hf2 : Hp) : Hp := fun a => if ∃ vs, Hf2 a = some (.lst vs) then Hf a else Hf2 a
theorem Ste.off {bag : List Addr} {Hf Hf1 H Hf2 H2 : Hp} (sb : Sub Hf Hf1) (nw : ∀ a o, Hf1 a = some o → Hf a = some o ∨ ∃ vs, o = .lst vs) (e : Ste bag Hf1 H Hf2 H2) : Ste bag Hf H (offH Hf Hf2) H2 := by
  have s2 : Sub Hf Hf2 := sb.trans e.sub
  refine ⟨fun a o z => ?_, fun a o z => ?_, e.keep, e.dom, fun a o z => ?_, e.tab⟩
  · unfold offH
    by_cases c : ∃ vs, Hf2 a = some (.lst vs)
    · rw [if_pos c]; exact z
    · rw [if_neg c]; exact s2 a o z
  · unfold offH at z
    by_cases c : ∃ vs, Hf2 a = some (.lst vs)
    · rw [if_pos c] at z; exact e.top a o (s2 a o z)
    · rw [if_neg c] at z; exact e.top a o z
  · unfold offH at z
    by_cases c : ∃ vs, Hf2 a = some (.lst vs)
    · rw [if_pos c] at z; exact .inl z
    · rw [if_neg c] at z
      rcases e.fresh a o z with h | h
      · rcases nw a o h with h | ⟨vs, h⟩
        · exact .inl h
        · exact absurd ⟨vs, h ▸ z⟩ c
      · exact .inr h
def negD : D → Option D
  | .int i => some (.int (-i))
  | _ => none
theorem de_neg (ha : PE X a (tE X.K X.mg fx G x)) : PE X (.UnaryOp .USub a pos) (tE X.K X.mg fx G (do let d ← x; ask (negD d))) := peI (pe_un un_neg ha) fun σ H Q ⟨Hf, s, h⟩ =>
  (h.bind.mono fun v H1 ⟨d, Hf1, s1, sb, r, h1⟩ => by
    obtain ⟨e, q0, q⟩ := h1.ask
    cases d with
    | int i =>
      cases q0
      cases r
      exact ⟨_, rfl, q _ Hf1 H1 (.refl h1.1.top) (is_int _)⟩
    | _ => cases q0).to
end
end DL
namespace DL
open PySem L2
theorem hu65 {k : Nat} {A : Around} (r : Room k A) : A.units + 65 < cLine := by have := r.un; omega
def GlobIs [DL.TC] (K : PySem.W.Frag) (mg : Str → Option Value) (n : Str) (d : D) : Prop := ∃ u v, mg n = some u ∧ RelV v u ∧ Is K mg (fun _ => none) d v
theorem de_globI [DL.TC] {X : Cx} {fx : Fx} {m : Type → Type} [Mo m] {G : List Sl} {n : Str} {d : D} {pos : Pos} (hg : Gl X n) (h : GlobIs X.K X.mg n d) (hd : (n == ("__debug__" : Str)) = false := by decide) : PE X (.Name n pos) (tE X.K X.mg fx G (pure d : m D)) := by
  obtain ⟨u, v, hm, r, i⟩ := h
  exact de_glob hg hm r i hd
theorem globS [DL.TC] {K : PySem.W.Frag} {mg : Str → Option Value} {n : Str} {t : Str} {tk : Tok} {l : List Nat} (h : mg n = some (.str t tk)) (ht : t = ⟨l.toArray⟩) (hl : l.length ≤ 1000) : GlobIs K mg n (.str l) :=
  ⟨_, .str t, h, ⟨tk, rfl⟩, by rw [Is]; exact ⟨by rw [ht], Nat.le_of_lt (small1000 hl)⟩⟩
theorem globI [DL.TC] {K : PySem.W.Frag} {mg : Str → Option Value} {n : Str} {i : Int} {tk : Tok} (h : mg n = some (.int i tk)) : GlobIs K mg n (.int i) := ⟨_, .int i, h, ⟨tk, rfl⟩, is_int _⟩
section
variable {X : Cx} [DL.TC]
def powC : D → D → Option D
  | .int i, .int j => if 0 ≤ j ∧ j ≤ 100 ∧ i.natAbs < 2 ^ 64 then some (.int (i ^ j.toNat)) else none
  | _, _ => none
theorem od_powC : OpR X (binaryOp .Pow) (rD2 X.K X.mg powC) := by
  intro pins s σ H x y v u Q I rx ry h
  obtain ⟨Hf, dx, dy, d, sb, ix, iy, e, q⟩ := h
  unfold powC at e
  split at e
  · split at e
    · rename_i hc
      cases e; cases ix; cases iy
      exact op_pow pins s σ H _ _ v u Q I rx ry ⟨_, _, rfl, rfl, ⟨hc.1, by omega, hc.2.2⟩, q _ Hf H (.refl sb) (is_int _)⟩
    · cases e
  · cases e
end
def apR1 (f : D → R D) : List D → R D
  | [a] => f a
  | _ => .stuck
def apR2 (f : D → D → R D) : List D → R D
  | [a, b] => f a b
  | _ => .stuck
def apR3 (f : D → D → D → R D) : List D → R D
  | [a, b, c] => f a b c
  | _ => .stuck
def apR4 (f : D → D → D → D → R D) : List D → R D
  | [a, b, c, d] => f a b c d
  | _ => .stuck
def apM1 (f : D → M D) : List D → M D
  | [a] => f a
  | _ => fun _ => .stuck
theorem apR1_len (f) : ∀ ds : List D, apR1 f ds ≠ .stuck → ds.length = 1 := fun ds h => by
  unfold apR1 at h
  split at h <;> first | rfl | exact absurd rfl h
theorem apR2_len (f) : ∀ ds : List D, apR2 f ds ≠ .stuck → ds.length = 2 := fun ds h => by
  unfold apR2 at h
  split at h <;> first | rfl | exact absurd rfl h
theorem apM1_len (f) : ∀ (ds : List D) s, apM1 f ds s ≠ .stuck → ds.length = 1 := fun ds s h => by
  rcases ds with _ | ⟨a, ds⟩
  · exact absurd rfl h
  · rcases ds with _ | ⟨_, ds⟩
    · rfl
    · exact absurd rfl h
end DL
namespace PySem
namespace OwnX
open PySem.W PySem.Calls PyProof.Rows PySem.HandSPX Builtin Builtin.ObjectAttr
theorem XB.base : ∀ b : XB, ExcBaseFacts b.nm b.nw b.it b.tail
  | .ve => F.excBase_ValueError
  | .le => F.excBase_LookupError
  | .oe => F.excBase_OverflowError
  | .re => F.excBase_RuntimeError
theorem XB.pass : ∀ (b : XB) (self : Value), refuseLoop self "__setattr__" b.tail = pure ()
  | .ve, self => F.store_ValueError.passes self
  | .le, self => F.store_LookupError.passes self
  | .oe, self => F.store_OverflowError.passes self
  | .re, self => F.store_RuntimeError.passes self
theorem overB_ind {b : XB} {P : List Value → Prop} (h0 : P b.tail) (h1 : ∀ c r, P r → P (.ref c :: r)) : ∀ l, overB b l = true → P l := by
  intro l
  induction l with
  | nil => intro e; rw [beq_iff_eq.mp (show (([] : List Value) == b.tail) = true from e)]; exact h0
  | cons a r ih =>
    cases a with
    | ref c => exact fun e => h1 c r (ih e)
    | _ => intro e; rw [beq_iff_eq.mp (show (_ == b.tail) = true from e)]; exact h0
theorem overB_pass {b : XB} (self : Value) (l : List Value) (h : overB b l = true) : refuseLoop self "__setattr__" l = pure () :=
  overB_ind (P := fun l => refuseLoop self "__setattr__" l = pure ()) (b.pass self) (fun c r q => by rw [refuseLoop_ref]; exact q) l h
theorem overB_has {b : XB} (X : String) (l : List Value) (h : overB b l = true) : l.contains (.type X) = b.tail.contains (.type X) :=
  overB_ind (P := fun l => l.contains (.type X) = b.tail.contains (.type X)) rfl (fun c r q => by rw [List.contains_cons, q]; rfl) l h
theorem overB_obj {b : XB} (l : List Value) (h : overB b l = true) : l.contains (.type "object") = true :=
  (overB_has "object" l h).trans (by cases b <;> decide +kernel)
theorem overB_ne {b : XB} (l : List Value) (h : overB b l = true) : l.isEmpty = false :=
  overB_ind (P := fun l => l.isEmpty = false) (by cases b <;> rfl) (fun _ _ _ => rfl) l h
theorem osaB {b : XB} {prog : Program} {w : World} {A : Around} {R : Result → Shared → Prop} {s : Shared} {K : Frag} {f : Str} {tk : Tok} {v : Value} {x C : Addr} {fv : Array Value} {cd : ClassData}
    (X : K.In s.heap) (hx : s.heap.get? x = some { cls := .ref C, data := .fields fv }) (hcd : clsIn K C = some cd) (hm : overB b cd.mro = true) (hh : cd.hasDict = true) (hn : findIn K (.ref C) f = some none)
    (fin : ∀ h' tk' dx, (∀ a o, a ≠ x → s.heap.get? a = some o → h'.get? a = some o) → s.heap.objs.size ≤ dx → dx ≠ x → h'.get? x = some { cls := .ref C, dict := some dx, data := .fields fv } →
      h'.Ns1 dx (fun y => if y = f then some v else none) → R (.ok (.ret .none)) { s with heap := h', toks := tk' }) :
    codeAny (model prog w) A (.call (.builtin "object.__setattr__") ⟨[.ref x, .str f tk, v], []⟩) R s := by
  obtain ⟨hp, g, dr, t, os⟩ := s
  have I : InstAt hp x { cls := .ref C, data := .fields fv } C none := ⟨hx, rfl, rfl, trivial⟩
  have lt : x < hp.objs.size := Heap.lt_size hx
  have io : Looks (model prog w) hp (isInstance (.ref x) (.type "object")) true :=
    I.type.andThen (looks_mroIn X (by unfold mroIn; rw [hcd, Option.bind_some, if_neg (by rw [overB_ne _ hm]; decide), overB_obj _ hm]))
  have SF := F.store_object
  refine codeAny_call_builtin SF.slot.plain SF.entry
    (@check_slot (model prog w) _ _ ⟨hp, g, dr, t, os⟩ "object.__setattr__" "object" "__setattr__" (.ref x) [.str f tk, v] [] _ SF.kind SF.split io (SF.args (.ref x) (.str f tk) v) ?_)
  have lm : Looks (model prog w) hp (mroOf (.ref C)) cd.mro := (looks_clsIn X hcd).andThen .now
  have ls : Looks (model prog w) hp (storeTaker? none) none := .now
  have lc : Looks (model prog w) hp (classData C) cd := looks_clsIn X hcd
  rw [osa_eq, refuse_eq]
  refine wpAny_bind (wpAny_bind (I.type.at (wpAny_bind (lm.at ?_))))
  rw [overB_pass _ _ hm]
  refine wpAny_pure (wpAny_bind (I.type.at (wpAny_bind ((looks_findIn X hn).at (wpAny_bind (ls.at ?_))))))
  show wpAny _ _ (storeInOwnDict (.ref x) (.ref C) (.str f tk) f v false) _ _ _
  cases cd with
  | mk nm bs mro ns qn hd sn sb ab col del =>
  cases (show hd = true from hh)
  unfold storeInOwnDict ownDictForStores
  repeat (first
    | with_reducible refine store_in_new ?_ ?_
    | with_reducible refine wpAny_loadPart_at hx ?_
    | with_reducible refine lc.at ?_
    | wp_step)
  · exact ⟨_, #[], _, (Heap.get?_update_ne _ _ _ _ (Nat.ne_of_gt lt)).trans (Heap.get?_push_at rfl rfl), rfl, fun e he => absurd he (by simp), fun _ => rfl⟩
  · intro h' tk' hn' hs
    have hx1 : (hp.push { cls := .type "dict", data := .dict #[] }).get? x = some { cls := .ref C, data := .fields fv } := Heap.get?_push_of_some _ hx
    refine fin h' tk' hp.objs.size (fun a o ha ho => ?_) (Nat.le_refl _) (Nat.ne_of_gt lt) ?_ hn'
    · rw [hs.2 a (Nat.ne_of_lt (Heap.lt_size ho)), Heap.get?_update_ne _ _ _ _ ha]
      exact Heap.get?_push_of_some _ ho
    · rw [hs.2 x (Nat.ne_of_lt lt)]
      exact Heap.get?_update_self _ hx1 rfl
end OwnX
end PySem
namespace PySem
namespace OwnX
open PySem.W PySem.Calls PyProof.Rows PySem.HandSPX
theorem lookup_s (f : Str) : (iS f).names.lookup ("self" : Str) = some .local := by
  show List.lookup ("self" : Str) [(PySem.Str.ofString "self", NameKind.local), (f, .local)] = _
  simp [List.lookup]
theorem lookup_f {f : Str} (h : (f == ("self" : Str)) = false) : (iS f).names.lookup f = some .local := by
  have h' : (f == PySem.Str.ofString "self") = false := h
  show List.lookup f [(PySem.Str.ofString "self", NameKind.local), (f, .local)] = _
  simp [List.lookup, h']
theorem kinds2 {f : Str} (h : (f == ("self" : Str)) = false) {u v : Value} : ([(("self" : Str), u), (f, v)].all fun y => (iS f).names.lookup y.1 == some .local || (iS f).names.lookup y.1 == some .cell) = true := by
  simp only [List.all_cons, List.all_nil, lookup_s, lookup_f h]
  rfl
theorem kind_f {f : Str} (h : (f == ("self" : Str)) = false) {name : Str} {L a : Addr} {cd : Value} : (envOfC name (iS f) L a cd).kindOf f = some .local := lookup_f h
theorem kind_s {f : Str} {name : Str} {L a : Addr} {cd : Value} : (envOfC name (iS f) L a cd).kindOf ("self" : Str) = some .local := lookup_s f
theorem binds2_f {f : Str} (h : (f == ("self" : Str)) = false) {name : Str} {L a : Addr} {cd u v : Value} : bindL (envOfC name (iS f) L a cd).kindOf [(("self" : Str), u), (f, v)] (fun _ => none) f = some v := by
  simp [bindL, kind_f h, kind_s]
theorem binds2_s {f : Str} (h : (f == ("self" : Str)) = false) {name : Str} {L a : Addr} {cd u v : Value} : bindL (envOfC name (iS f) L a cd).kindOf [(("self" : Str), u), (f, v)] (fun _ => none) ("self" : Str) = some u := by
  have hne : ¬ (("self" : Str) = f) := fun z => by rw [← z] at h; simp at h
  simp [bindL, kind_f h, kind_s, hne]
structure OwnTxt (K : Frag) (mg : Str → Option Value) (cn f qn : Str) (C fI : Addr) : Prop where
  fs : (f == ("self" : Str)) = false
  fb : (f == ("__debug__" : Str)) = false
  bind : ∀ (doc pm : Value) (an : Option Addr) (cdv ct u v : Value) (p1 p2 q1 q2 q3 q4 : Pos), bindArgs (fnOf "__init__" qn (iA f p1 p2) (iB f q1 q2 q3 q4) (iS f) .none .none doc pm an cdv ct) ⟨[u, v], []⟩ = pure [(("self" : Str), u), (f, v)]
  gC : mg cn = some (.ref C)
  cls : ∃ (b : XB) (nm q : Str) (N : Addr) (bs bm : List Value) (sn : List Str) (sub : List Value) (ab : Bool) (col : Option Bool) (dd : Option Addr) (k0 k1 k2 k3 k5 : Option Value), K.lookup C = some (excClassObj nm q C N bs bm true sn sub ab col dd k0 k1 k2 k3 k5 b.nw) ∧ overB b bm = true
  sa : findIn K (.ref C) "__setattr__" = some (some (.builtin "object.__setattr__"))
  ga : findIn K (.ref C) "__getattribute__" = some (some (.builtin "BaseException.__getattribute__"))
  gg : findIn K (.ref C) "__getattr__" = some none
  noN : findIn K (.ref C) f = some none
  iC : findIn K (.ref C) "__init__" = some (some (.ref fI))
  tC : typeIn K (.ref fI) = some (.type "function")
  kC : keepIn K (.ref C) = true
  exC : subIn K (.ref C) (.type "BaseException") = some true
  tyC : typeIn K (.ref C) = some (.type "type")
  hdC : hasDictIn K C = true
  te : exmOne K (.ref C) (.ref C) = some true
  fn : ∃ (oc : Value) (od : Option Addr) (doc pm : Value) (an : Option Addr) (cdv ct : Value) (osl : Array (Option Value)) (p1 p2 q1 q2 q3 q4 : Pos),
    K.lookup fI = some ⟨oc, od, .func (fnOf "__init__" qn (iA f p1 p2) (iB f q1 q2 q3 q4) (iS f) .none .none doc pm an cdv ct), osl⟩ ∧ codeIn K cdv qn = true
theorem one_size (v : Value) : [v].length ≤ sizeLine := by
  rw [sizeLine_eq]
  exact (by decide : 1 ≤ 16777216)
theorem ldC {M : Model} {s : Shared} {name : Str} {scope : Scope} {L a : Addr} {cd : Value} {m : Str → Option Value} {x : Str} {pos : Pos} {v : Value} {Q : Value → Shared → Prop} {A : Around} {E : Value → Shared → Prop} (hn : s.heap.Ns L m) (hv : m x = some v) (h : Q v s)
    (hk : scope.kind = .function := by rfl) (hl : (envOfC name scope L a cd).kindOf x = some .local := by rfl) (hd : (x == ("__debug__" : Str)) = false := by decide) :
    wpAny M A (eval (.Name x pos) (envOfC name scope L a cd)) Q E s := wpAny_Name (wpAny_loadName_local hk hl hn hv h) hd
structure InitEnd (f : Str) (h h' : Heap) (x C dx t1 : Addr) (v : Value) : Prop where
  keep : ∀ b o, b ≠ x → h.get? b = some o → h'.get? b = some o
  obj : h'.get? x = some { cls := .ref C, dict := some dx, data := .fields #[.ref t1, .none, .none, .none, .bool false, .none] }
  dbig : h.objs.size ≤ dx
  dne : dx ≠ x
  ns : h'.Ns1 dx (fun y => if y = f then some v else none)
structure OwnMade (f : Str) (h h' : Heap) (e C d : Addr) (v : Value) : Prop where
  keep : ∀ b o, h.get? b = some o → h'.get? b = some o
  new : h.objs.size ≤ e
  obj : ∃ oe vs, h'.get? e = some oe ∧ oe.cls = .ref C ∧ oe.dict = some d ∧ oe.data = .fields vs ∧ vs[1]? = some .none ∧ vs[2]? = some .none ∧ 4 < vs.size
  dbig : h.objs.size ≤ d
  dne : d ≠ e
  ns : h'.Ns1 d (fun y => if y = f then some v else none)
section
variable {prog : Program} {w : World} {A : Around} {E : Value → Shared → Prop} {R : Result → Shared → Prop} {s : Shared} {K : Frag} {mg : Str → Option Value} {cn f qn : Str} {C fI : Addr}
theorem low_init (T : OwnTxt K mg cn f qn C fI) {x t0 : Addr} {v : Value} (X : K.In s.heap) (hlim : s.heap.NoLimit) (hx : s.heap.get? x = some (excO C t0)) (hnx : K.lookup x = none) (hroom : A.depth < recursionLimit)
    (hq : ∀ h' tk dx, InitEnd f s.heap h' x C dx t0 v → R (.ok (.ret .none)) { s with heap := h', toks := tk }) :
    codeAny (model prog w) A (.call (.ref fI) ⟨[.ref x, v], []⟩) R s := by
  obtain ⟨oc, od, doc, pm, an, cdv, ct, osl, p1, p2, q1, q2, q3, q4, ho, hcd⟩ := T.fn
  obtain ⟨b, nm, q, N, bs, bm, sn, sub, ab, col, dd, k0, k1, k2, k3, k5, hC, hbm⟩ := T.cls
  have hcl : clsIn K C = some { name := nm, bases := bs, mro := .ref C :: bm, ns := N, qualname := q, hasDict := true, slotNames := sn, subclasses := sub, abstract := ab, collection := col, hasDel := false } := by unfold clsIn; rw [hC] <;> rfl
  refine Att.call_fn (binds := [(("self" : Str), .ref x), (f, v)]) X hlim ho hcd hroom (BindsTo.of_eq (T.bind ..)) (kinds2 T.fs) (fun s₁ IC => ?_) rfl rfl rfl
  obtain ⟨h₁, tk₁, rfl⟩ := IC.toInCall.same
  have k : ∀ b o, s.heap.get? b = some o → h₁.get? b = some o := IC.toInCall.keep
  have hn := IC.toInCall.ns
  have hxL : s.heap.objs.size ≠ x := Nat.ne_of_gt (Heap.lt_size hx)
  have X₁ : K.In h₁ := X.keeps k
  have hx₁ := k _ _ hx
  -- self.by = by
  show wpAny _ _ (execs _ _) _ _ _
  refine wpAny_execs_cons (plainObj_wpAny_Assign_Attribute ?_)
  refine ldC (v := v) hn (binds2_f T.fs) (ldC (v := .ref x) hn (binds2_s T.fs) ?_) rfl (kind_f T.fs) T.fb
  refine set_plain X₁ (ox := excO C t0) (od := none) ⟨hx₁, rfl, rfl, trivial⟩ T.sa ?_
  refine osaB (b := b) X₁ hx₁ hcl (show overB b (.ref C :: bm) = true from hbm) rfl T.noN (fun h₃ tk₃ dx k₃ dn dne hx₃ hn₃ => ?_)
  show wpAny _ _ (execs _ _) _ _ _
  have z : s.heap.objs.size < h₁.objs.size := hn.lt
  exact wpAny_execs_nil (hq h₃ tk₃ dx ⟨fun b o hb e => k₃ b o hb (k b o e), hx₃, Nat.le_of_lt (Nat.lt_of_lt_of_le z dn), dne, hn₃⟩)
theorem low_made (T : OwnTxt K mg cn f qn C fI) {v : Value} (X : K.In s.heap) (hlim : s.heap.NoLimit) (hroom : A.depth + 1 < recursionLimit)
    (hq : ∀ h' tk e d, OwnMade f s.heap h' e C d v → R (.ok (.ret (.ref e))) { s with heap := h', toks := tk }) :
    codeAny (model prog w) A (.call (.ref C) ⟨[v], []⟩) R s := by
  obtain ⟨b, nm, q, N, bs, bm, sn, sub, ab, col, dd, k0, k1, k2, k3, k5, hC, hbm⟩ := T.cls
  obtain ⟨hp, g, dr, tk, os⟩ := s
  have k : ∀ b o, hp.get? b = some o → ((hp.push (kdv_tup [v])).push (excO C hp.objs.size)).get? b = some o := fun b o e => Heap.get?_push_of_some _ (Heap.get?_push_of_some _ e)
  have hget : ((hp.push (kdv_tup [v])).push (excO C hp.objs.size)).get? (hp.objs.size + 1) = some (excO C hp.objs.size) := by heap_get
  have hnx : K.lookup (hp.objs.size + 1) = none := by
    cases e : K.lookup (hp.objs.size + 1) with
    | none => rfl
    | some o =>
      have z : hp.get? (hp.objs.size + 1) = some o := X _ _ e
      exact absurd (Nat.lt_of_succ_lt (Heap.lt_size z)) (Nat.lt_irrefl _)
  refine call_own b.base (fun X => overB_has X bm hbm) (X _ _ hC) (looks_findIn X T.iC) (fun self => bind_fn X self T.tC) (one_size v) ?_
  refine low_init (s := ⟨(hp.push (kdv_tup [v])).push (excO C hp.objs.size), g, dr, tk, os⟩) T (X.keeps k) (hlim.keeps k) hget hnx ?_ fun h' tk' dx ⟨k', hx, dn, dne, hns⟩ => ?_
  · show A.depth + 1 < recursionLimit
    exact hroom
  · have old : ∀ b o, hp.get? b = some o → h'.get? b = some o := fun b o e => k' b o (Nat.ne_of_lt (Nat.lt_succ_of_lt (Heap.lt_size e))) (k b o e)
    have z : hp.objs.size + 1 + 1 ≤ dx := by
      first
        | (simpa only [Heap.size_push] using dn)
        | exact dn
        | (have q := dn; rw [Heap.size_push, Heap.size_push] at q; exact q)
    exact ⟨rfl, hq h' tk' (hp.objs.size + 1) dx ⟨old, Nat.le_succ _, ⟨_, _, hx, rfl, rfl, rfl, rfl, rfl, (by decide : 4 < 6)⟩, Nat.le_trans (Nat.le_trans (Nat.le_succ _) (Nat.le_succ _)) z, dne, hns⟩⟩
end
end OwnX
end PySem
namespace L2
open PySem PySem.Spec PyProof.Rows
theorem relO_low [DL.TC] {v : V} {v' : Value} (r : RelV v v') (g f : Str) : RelO (List.lookup f [(g, v)]) (if f = g then some v' else none) := by
  by_cases hw : f = g
  · subst hw
    rw [if_pos rfl]
    have q : List.lookup f [(f, v)] = some v := by simp [List.lookup]
    rw [q]
    exact r
  · rw [if_neg hw]
    have qw : (f == g) = false := by simpa using hw
    have q2 : List.lookup f [(g, v)] = none := by simp [List.lookup, qw]
    rw [q2]
    trivial
section
variable {X : Cx} {cn f qn : Str} {C fI : Addr} [DL.TC]
def tMkLow (f : Str) (C : Addr) (ta : TA) : St → Hp → XK → Prop := fun σ H Q => ta σ H fun vs H1 => ∃ v, vs = [v] ∧ ∀ d, H1 d = none → Q (.ref C) (some d) (upd H1 d (.xd [(f, v)]))
theorem pmk_low {a : Expr} {ta : TA} {p pos : Pos} {k : Nat} (T : PySem.OwnX.OwnTxt X.K X.mg cn f qn C fI) (hr : Room k X.A) (ha : PA X [a] ta) (hdb : (cn == ("__debug__" : Str)) = false := by decide) (hg : Gl X cn := by rfl)
    (he : starEach (a :: []) X.env = (false, eval a X.env) :: starEach [] X.env := by rfl) (hpl : (backTo pos (starEach [] X.env)).any (·.1) = false := by rfl) :
    L2N.PMk X (.Call (.Name cn p) [a] [] pos) (tMkLow f C ta) := by
  intro pins s σ H Q I h
  refine wpAny_Call_Name_kw (ld_glob I hg T.gC ?_ (hd := hdb))
  refine PySem.W.callWith_K (h₀ := X.base) I.ok.mod.kin T.kC (thn (ha.run pos pins s σ H _ I h) fun us s1 hh => ?_) he hpl
  obtain ⟨vs, H1, I1, r1, v, ev, q1⟩ := hh
  subst ev
  refine ⟨I1.kIn, ?_⟩
  cases r1 with
  | cons rv rn =>
    rename_i v' us'
    cases rn
    show wpAny _ _ (call (.ref C) [v']) _ _ _
    have hlim := I1.nolimit
    obtain ⟨hp, g, dr, tk, os⟩ := s1
    refine wpAny_call (PySem.OwnX.low_made T I1.kIn hlim (by have := hr.dp; omega) fun h' tk' e d M => ?_)
    show L2N.MkP X pins σ Q (.ref e) ⟨h', g, dr, tk', os⟩
    obtain ⟨oe, fv, hoe, hc, hd, hdat, h1, h2, h4⟩ := M.obj
    have hns := M.ns
    obtain ⟨G', g1, g2⟩ := restrict h' fun b => decide (b ≠ e)
    have gk : ∀ b, b ≠ e → G'.get? b = h'.get? b := fun b hb => g1 b (decide_eq_true hb)
    have ge : G'.get? e = none := g2 e (by simp)
    have old : ∀ b o, hp.get? b = some o → G'.get? b = some o := fun b o q => (gk b (Nat.ne_of_lt (Nat.lt_of_lt_of_le (Heap.lt_size q) M.new))).trans (M.keep b o q)
    have ob : ObjOk X.prog X.w (upd H1 d (.xd [(f, v)])) G' d (.xd [(f, v)]) :=
      ⟨_, hns.at (fun o q => (gk d M.dne).trans q), fun f => relO_low rv _ f⟩
    have J : Inv X pins σ (upd H1 d (.xd [(f, v)])) ⟨G', g, dr, tk', os⟩ := I1.laid (t' := tk') old M.dbig ob
    refine ⟨e, oe, fv, ⟨G', g, dr, tk', os⟩, _, .ref C, some d, rfl, J, fun b o q => ?_, ge, hoe, ⟨hc, hd, fun vs z => by rw [hdat] at z; cases z; exact h2⟩, hdat, h1, ?_, rfl, I1.bare, raises_own T.exC T.tyC, q1 d (I1.hok.fresh M.dbig)⟩
    · by_cases hb : b = e
      · have q' : G'.get? b = some o := q
        rw [hb, ge] at q'; cases q'
      · exact (gk b hb).symm.trans q
    · rw [upd_ne (Ne.symm M.dne)]
      exact I1.hok.fresh M.new
def tRaiseLow (f : Str) (C : Addr) (W : WX) (ta : TA) : TS := fun _ σ H => tMkLow f C ta σ H fun cls d H' => W cls d σ H'
theorem ps_raiseLow {a : Expr} {ta : TA} {W : WX} {p pos pos2 : Pos} {k : Nat} (hc : X.calm = true) (T : PySem.OwnX.OwnTxt X.K X.mg cn f qn C fI) (hr : Room k X.A) (tk : L2N.Takes X W) (ha : PA X [a] ta) (hdb : (cn == ("__debug__" : Str)) = false := by decide) (hg : Gl X cn := by rfl)
    (he : starEach (a :: []) X.env = (false, eval a X.env) :: starEach [] X.env := by rfl) (hpl : (backTo pos (starEach [] X.env)).any (·.1) = false := by rfl) :
    PS X (.Raise (some (.Call (.Name cn p) [a] [] pos)) none pos2) (tRaiseLow f C W ta) := L2N.ps_raise hc tk (pmk_low T hr ha hdb hg he hpl)
end
end L2
namespace DL
open PySem PySem.Spec PyProof.Rows L2 HT
section
variable {X : Cx} {fx : Fx} {m : Type → Type} [Mo m] {G : List Sl} {α β : Type} {kk : Nat} {a b e : Expr} {rest : List Stmt} {ex : α → List Sl} {exb : β → List Sl} {pos p1 p2 p3 : Pos} {x : m D} {ys : m (List D)} [DL.TC]
def revD : D → Option D
  | .lst ds => some (.lst ds.reverse)
  | .tup ds => some (.tup ds.reverse)
  | _ => none
def zipL : List D → List D → List D
  | x :: xs, y :: ys => .tup [x, y] :: zipL xs ys
  | _, _ => []
def zipD : List D → Option (List D)
  | [.lst xs, .lst ys] => some (zipL xs ys)
  | [.tup xs, .tup ys] => some (zipL xs ys)
  | _ => none
end
end DL
namespace DL
open PySem L2
section
variable {X : Cx} {fx : Fx} {m : Type → Type} [Mo m] {G : List Sl} {α β : Type} {kk : Nat} {a : Expr} {rest : List Stmt} {ex : α → List Sl} {exb : β → List Sl} {p pos pos2 : Pos} {cn f qn : Str} {C fI : Addr} [DL.TC]
def raiseX {m : Type → Type} [Mo m] {γ : Type} (c f : Str) (d : D) : m γ := Mo.lift (R.ex ⟨c, f, d⟩)
theorem dss_raise {x : m D} (Ck : Cok X fx kk) (T : PySem.OwnX.OwnTxt X.K X.mg cn f qn C fI) (ha : PE X a (tE X.K X.mg fx G x)) (hdb : (cn == ("__debug__" : Str)) = false := by decide) (hg : Gl X cn := by rfl)
    (he : starEach (a :: []) X.env = (false, eval a X.env) :: starEach [] X.env := by rfl) (hpl : (backTo pos (starEach [] X.env)).any (·.1) = false := by rfl) (hx : GxOk fx G := by first | exact True.intro | repeat' (first | exact True.intro | exact Or.inl rfl | exact Or.inr rfl | refine And.intro ?_ ?_)) :
    PSs X (.Raise (some (.Call (.Name cn p) [a] [] pos)) none pos2 :: rest) (tS X.K X.mg fx G ex exb (do let d ← x; raiseX cn f d : m (Fl α β))) :=
  pssI (pss_cons (ps_raiseLow Ck.calm T Ck.rm Ck.tk.new (pa_cons ha pa_nil he) hdb hg he hpl) pss_never) fun De σ H ⟨Hf, s, h⟩ =>
    ((h.bind hx).mono fun v H1 ⟨d, Hf1, s1, sb, r, h1⟩ => by
      refine ⟨v, rfl, fun p hp => ?_⟩
      have w := Mo.wp_lift h1.2
      have e1 : Ste fx.bag Hf1 H1 (upd Hf1 p (.xd [(f, v)])) (upd H1 p (.xd [(f, v)])) := .new h1.1.top hp
      have nb := (h1.1.new0 hp).2.1
      have st2 := h1.1.step e1 (h1.1.bag.upd nb)
      exact exs_ex hx w _ _ _ _ st2 ⟨C, p, v, T.gC, rfl, rfl, upd_same, r.mono e1.sub⟩).to
end
theorem exm_self {K : PySem.W.Frag} {S : Addr} (h1 : PySem.W.subIn K (.ref S) (.type "BaseException") = some true) (h2 : PySem.W.isClsIn K S = true) (h3 : PySem.W.typeIn K (.ref S) = some (.type "type")) (h4 : PySem.W.subIn K (.ref S) (.ref S) = some true) :
    PySem.W.exmOne K (.ref S) (.ref S) = some true := by
  have e1 : (PySem.W.subIn K (.ref S) (.type "BaseException") == some true) = true := by rw [h1] <;> rfl
  have e2 : ((PySem.W.clsIn K S).isSome && PySem.W.typeIn K (.ref S) == some (.type "type")) = true := by
    have h2' : (PySem.W.clsIn K S).isSome = true := h2
    rw [h2', h3] <;> rfl
  show (if (PySem.W.subIn K (.ref S) (.type "BaseException") == some true) = true then (if ((PySem.W.clsIn K S).isSome && PySem.W.typeIn K (.ref S) == some (.type "type")) = true then PySem.W.subIn K (.ref S) (.ref S) else none) else none) = some true
  rw [if_pos e1, if_pos e2]
  exact h4
end DL
namespace DL
open PySem L2
section
variable {K : PySem.W.Frag} {mg : Str → Option Value} {fx : Fx} {Hf H : Hp} {σ : L2.St} {G : List Sl} {s : S} [DL.TC]
theorem StS.empty (st : StS K mg fx Hf H σ G s) {i : Nat} (hi : G[i]? = some .un) : StS K mg fx Hf H (σ.set i none) G s := by
  refine ⟨st.ste, st.bag, st.bagg, st.tb, by simpa using st.len, fun j x e => ?_, fun j k x y p hjk ex ey ox oy e1 e2 => ?_⟩
  · by_cases q : i = j
    · subst q
      rw [hi] at e
      cases e
      trivial
    · rw [List.getElem?_set_ne q]
      exact st.sl j x e
  · have nj : i ≠ j := fun z => by subst z; rw [hi] at ex; cases ex; cases ox
    have nk : i ≠ k := fun z => by subst z; rw [hi] at ey; cases ey; cases oy
    rw [List.getElem?_set_ne nj] at e1
    rw [List.getElem?_set_ne nk] at e2
    exact st.dis j k x y p hjk ex ey ox oy e1 e2
end
end DL
namespace DL
open PySem L2
theorem spl_len (S : List Nat) : ∀ (l : List Nat) (k : Nat) (acc : List Nat), (∀ p ∈ TL.spl S k acc l, p.length ≤ acc.length + l.length) ∧ (TL.spl S k acc l).length ≤ l.length + 1
  | [], k, acc => by
    rw [TL.spl_nil]
    simp
  | c :: r, 0, acc => by
    by_cases h : TL.pre S (c :: r) = true
    · rw [TL.spl_hit h]
      obtain ⟨h1, h2⟩ := spl_len S r (S.length - 1) []
      refine ⟨fun p hp => ?_, by rw [List.length_cons, List.length_cons]; omega⟩
      rcases List.mem_cons.mp hp with rfl | hp
      · omega
      · have := h1 p hp
        rw [List.length_nil] at this
        rw [List.length_cons]
        omega
    · rw [TL.spl_miss (by simpa using h)]
      obtain ⟨h1, h2⟩ := spl_len S r 0 (acc ++ [c])
      refine ⟨fun p hp => ?_, by rw [List.length_cons]; omega⟩
      have := h1 p hp
      rw [List.length_append, List.length_singleton] at this
      rw [List.length_cons]
      omega
  | c :: r, k + 1, acc => by
    have e : TL.spl S (k + 1) acc (c :: r) = TL.spl S k acc r := rfl
    rw [e]
    obtain ⟨h1, h2⟩ := spl_len S r k acc
    refine ⟨fun p hp => ?_, by rw [List.length_cons]; omega⟩
    have := h1 p hp
    rw [List.length_cons]
    omega
def splitD (a b : D) : Option (List D) := match a, b with
  | .str z, .str [c] => if c < 256 ∧ z.length ≤ 1000000 then some ((TL.spl [c] 0 [] z).map .str) else none
  | _, _ => none
theorem isL_strsV [DL.TC] {K : PySem.W.Frag} {mg : Str → Option Value} {H : Hp} : ∀ {ps : List (List Nat)}, (∀ p ∈ ps, p.length ≤ sizeLine) → IsL K mg H (ps.map .str) (ps.map fun p => V.str ⟨p.toArray⟩)
  | [], _ => rfl
  | p :: ps, h => ⟨_, _, rfl, ⟨rfl, h p (.head _)⟩, isL_strsV fun q m => h q (.tail _ m)⟩
section
variable {X : Cx} {fx : Fx} {m : Type → Type} [Mo m] {G : List Sl} {o e : Expr} {apos pos : Pos} {x y : m D} [DL.TC]
theorem df_split (ho : PE X o (tE X.K X.mg fx G x)) (he : PE X e (tE X.K X.mg fx G y)) (hs : starEach [e] X.env = [(false, eval e X.env)] := by rfl) (hbase : attributeBase o "split" X.env (eval o X.env) = eval o X.env := by rfl) (hline : (apos.endLine == pos.line) = true := by rfl) :
    PE X (.Call (.Attribute o "split" apos) [e] [] pos) (tF X.K X.mg fx G (do let u ← x; let _ ← ask (strOf u); let v ← y; ask (splitD u v))) := peI (pe_split ho he hs hbase hline) fun σ H Q ⟨Hf, s, st, w⟩ =>
  ⟨Hf, s, st, Mo.wp_mono (Mo.wp_bind w) (fun d1 s1 k v1 Hf1 H1 e1 bg1 r1 => by
    have k' := Mo.wp_lift (Mo.wp_bind k)
    have st1 := st.step e1 bg1
    cases d1 with
    | str z =>
      obtain ⟨rfl, hz1⟩ := r1
      refine ⟨⟨_, rfl⟩, Hf1, s1, st1, Mo.wp_mono (Mo.wp_bind k') (fun d2 s2 k2 v2 Hf2 H2 e2 bg2 r2 => ?_) fun e s' k => k⟩
      have k3 := Mo.wp_lift k2
      cases hsp : splitD (.str z) d2 with
      | none => rw [hsp] at k3; exact k3.elim
      | some ds =>
        rw [hsp] at k3
        unfold splitD at hsp
        split at hsp
        · rename_i z' c hz'
          cases hz'
          split at hsp
          · rename_i hc
            cases hsp
            obtain ⟨rfl, _⟩ := r2
            have hsz : sizeLine = 16777216 := sizeLine_eq
            have hk : (⟨#[c]⟩ : Str).cps.all (· < 256) = true := by simpa using hc.1
            have es := TL.split_spl ⟨z.toArray⟩ ⟨#[c]⟩ (by simp [TL.tl]) (TL.kind_ok hk)
            have es' : Txt.split ⟨z.toArray⟩ ⟨#[c]⟩ = (TL.spl [c] 0 [] z).map fun p => (⟨p.toArray⟩ : Str) := by
              have e3 : (TL.spl (TL.tl ⟨#[c]⟩) 0 [] (TL.tl ⟨z.toArray⟩)) = TL.spl [c] 0 [] z := by simp [TL.tl]
              rw [e3] at es
              rw [← es, List.map_map]
              conv => lhs; rw [← List.map_id (Txt.split ⟨z.toArray⟩ ⟨#[c]⟩)]
              exact List.map_congr_left fun p _ => (TL.mk_tl p).symm
            obtain ⟨h1, h2⟩ := spl_len [c] z 0 []
            refine ⟨⟨z.toArray⟩, ⟨#[c]⟩, rfl, rfl, rfl, by rw [str_len]; omega, fun p hp => ?_⟩
            rw [es', List.map_map]
            have hn : H p = none := by
              cases q : H p with
              | none => rfl
              | some o => exact absurd hp ((e1.trans e2).dom p (by rw [q]; simp))
            have st2 := st1.step e2 bg2
            have n2 := st2.new0 hp
            exact k3 p _ Hf2 _ ((e1.trans e2).upd hn n2.2.2 (.none hp)) (bg2.upd n2.2.1) upd_same n2.2.2 hn (isL_strsV fun q m => by have := h1 q m; simp at this; omega) (by rw [List.length_map]; omega)
          · cases hsp
        · cases hsp
    | _ => exact k'.elim) fun e s' k => k⟩
def strM (g : List Nat → List Nat → D) (a b : D) : Option D := match a, b with
  | .str x, .str y => some (g x y)
  | _, _ => none
theorem de_starts (ho : PE X o (tE X.K X.mg fx G x)) (he : PE X e (tE X.K X.mg fx G y)) (hs : starEach [e] X.env = [(false, eval e X.env)] := by rfl) (hbase : attributeBase o "startswith" X.env (eval o X.env) = eval o X.env := by rfl) (hline : (apos.endLine == pos.line) = true := by rfl) :
    PE X (.Call (.Attribute o "startswith" apos) [e] [] pos) (tE X.K X.mg fx G (do let u ← x; let _ ← ask (strOf u); let v ← y; ask (strM (fun a b => .bl (Txt.startswith ⟨a.toArray⟩ ⟨b.toArray⟩)) u v))) :=
  peI (pe_m1 PySem.F.slot_str_startswith PySem.F.type_str_startswith mt_startswith ho he hs hbase hline) fun σ H Q ⟨Hf, s, h⟩ =>
  (h.bind.mono fun v1 H1 ⟨d1, Hf1, s1, sb1, r1, h1⟩ => by
    have k := Mo.wp_lift (Mo.wp_bind h1.2)
    cases d1 with
    | str S =>
      obtain ⟨rfl, hz1⟩ := r1
      refine ⟨⟨_, rfl⟩, ?_⟩
      have h2 : tX X.K X.mg fx G (fun H d v => Is X.K X.mg H d v) (do let v ← y; ask (strM (fun a b => .bl (Txt.startswith ⟨a.toArray⟩ ⟨b.toArray⟩)) (.str S) v) : m D) Hf1 s1 σ H1 Q := ⟨h1.1, k⟩
      refine (h2.bind.mono fun v2 H2 ⟨d2, Hf2, s2, sb2, r2, h3⟩ => ?_).to
      obtain ⟨d, e, q⟩ := h3.ask
      cases d2 with
      | str T =>
        cases e
        obtain ⟨rfl, _⟩ := r2
        exact ⟨_, _, rfl, rfl, q _ Hf2 H2 (.refl h3.1.top) (is_bl _)⟩
      | _ => cases e
    | _ => exact k.elim).to
theorem de_ends (ho : PE X o (tE X.K X.mg fx G x)) (he : PE X e (tE X.K X.mg fx G y)) (hs : starEach [e] X.env = [(false, eval e X.env)] := by rfl) (hbase : attributeBase o "endswith" X.env (eval o X.env) = eval o X.env := by rfl) (hline : (apos.endLine == pos.line) = true := by rfl) :
    PE X (.Call (.Attribute o "endswith" apos) [e] [] pos) (tE X.K X.mg fx G (do let u ← x; let _ ← ask (strOf u); let v ← y; ask (strM (fun a b => .bl (Txt.endswith ⟨a.toArray⟩ ⟨b.toArray⟩)) u v))) :=
  peI (pe_m1 PySem.F.slot_str_endswith PySem.F.type_str_endswith mt_endswith ho he hs hbase hline) fun σ H Q ⟨Hf, s, h⟩ =>
  (h.bind.mono fun v1 H1 ⟨d1, Hf1, s1, sb1, r1, h1⟩ => by
    have k := Mo.wp_lift (Mo.wp_bind h1.2)
    cases d1 with
    | str S =>
      obtain ⟨rfl, hz1⟩ := r1
      refine ⟨⟨_, rfl⟩, ?_⟩
      have h2 : tX X.K X.mg fx G (fun H d v => Is X.K X.mg H d v) (do let v ← y; ask (strM (fun a b => .bl (Txt.endswith ⟨a.toArray⟩ ⟨b.toArray⟩)) (.str S) v) : m D) Hf1 s1 σ H1 Q := ⟨h1.1, k⟩
      refine (h2.bind.mono fun v2 H2 ⟨d2, Hf2, s2, sb2, r2, h3⟩ => ?_).to
      obtain ⟨d, e, q⟩ := h3.ask
      cases d2 with
      | str T =>
        cases e
        obtain ⟨rfl, _⟩ := r2
        exact ⟨_, _, rfl, rfl, q _ Hf2 H2 (.refl h3.1.top) (is_bl _)⟩
      | _ => cases e
    | _ => exact k.elim).to
end
end DL
namespace DL
open PySem PySem.Spec PyProof.Rows L2
structure Stood (X : Cx) (pins : List (Addr × Obj)) (Z : Obj → Prop) (σ : L2.St) (H : Hp) (a : Addr) (B : Heap) (sI s : Shared) : Prop where
  left : L2.Inv X pins σ H sI
  apart : ∀ b o, sI.heap.get? b = some o → b ∉ frs X.stack → B.get? b = some o
  since : sI.heap.UpToSlots s.heap
  fly : HandSPX.FlyingZ B (X.env :: X.outer) a Z s.heap
  free : H a = none
  os : s.os = sI.os
  bare : AllBare s.gens
section
variable {X : Cx} {pins : List (Addr × Obj)} {Z : Obj → Prop} {σ : L2.St} {H : Hp} {a : Addr} {B : Heap} {sI s : Shared}
namespace Stood
theorem inv (S : Stood X pins Z σ H a B sI s) : L2.Inv X pins σ H s := S.left.landed S.apart S.fly.1 S.since S.os S.bare
end Stood
end
end DL
namespace DL
open PySem PySem.Spec PyProof.Rows L2
end DL
namespace DL
open PySem L2
end DL
namespace DL
open PySem PySem.Spec PyProof.Rows L2
end DL
namespace DL
open PySem PySem.Spec PyProof.Rows L2
theorem guards_make {A : Around} {C : Addr} {us : List Value} {kw : List (Str × Value)} (h : A.guards = some []) : (A.under (.builtin "type.__call__" ⟨.ref C :: us, kw⟩)).guards = some [] := by
  first | exact h | simp [Around.under, Code.weight, Code.isCreation, Code.isGuard, Code.isCaller, Code.frames, Code.isFrame, guardIds, h]
def FnP (P : Program) (w : World) (K : PySem.W.Frag) (mg : Str → Option Value) (base : Heap) (k : Nat) (f : Addr) (ks : List Str) (sp : Sp) : Prop :=
  ∀ (A : Around) (outer : List Env) (s : Shared) (H : Hp) (us ws : List Value) (vs : List V) (Q : VK) (E : XK), A.guards = some [] → Room k A → Env0 P w K mg base A outer s H → ws.length = ks.length → Vals vs (us ++ ws) → sp vs H Q E →
    codeAny (model P w) A (.call (.ref f) ⟨us, ks.zip ws⟩) (CR (CXm P w mg) outer P w H s Q E) s
section
variable {P : Program} {w : World} {K : PySem.W.Frag} {mg : Str → Option Value} {base : Heap} {j k : Nat} {f : Addr} {fd : FuncData} {ps ks : List Str} {sp sp' : Sp} [DL.TC]
theorem FnP.mono (F : FnP P w K mg base j f ks sp) (h : j ≤ k) : FnP P w K mg base k f ks sp := fun A outer s H us ws vs Q E hg hr => F A outer s H us ws vs Q E hg (hr.mono h)
theorem FnP.imp (F : FnP P w K mg base k f ks sp) (h : ∀ vs H Q E, sp' vs H Q E → sp vs H Q E) : FnP P w K mg base k f ks sp' := fun A outer s H us ws vs Q E hg hr e0 hw r hs => F A outer s H us ws vs Q E hg hr e0 hw r (h _ _ _ _ hs)
theorem FnG.pos (F : FnG P w K mg base k f fd ps sp) (hb : Binds K fd ps []) : FnP P w K mg base k f [] sp := fun A outer s H us ws vs Q E hg hr e0 hw r hs => by
  have e : ws = [] := List.length_eq_zero_iff.mp hw
  subst e
  rw [List.append_nil] at r
  have hl : (us ++ []).length = ps.length := by
    rw [List.append_nil, ← r.length]
    exact F.len _ _ _ _ hs
  have b := hb s us (e0.mod.kin.keeps fun b o e => (e0.bs b o e).1) hl
  rw [List.append_nil] at b
  exact F.run A outer s H ⟨us, []⟩ us vs Q E hg hr e0 b r hs
end
section
variable {X : Cx} {k : Nat} {f C : Addr} {ks : List Str} {sp : Sp} {E : L2.St → XK} {x m : Str} {p pos apos : Pos} {e o : Expr} {es : List Expr} {kws : List Keyword} {ta : TE} {t tk : TA} [DL.TC]
theorem run_makeP {pins : List (Addr × Obj)} {σ : L2.St} {H : Hp} {s : Shared} {Q : VK} {us ws : List Value} {vs : List V} (M : Mk X.K C f) (F : FnP X.prog X.w X.K X.mg X.base k f ks sp) (hg : X.A.guards = some []) (hr : Room (k + 1) X.A)
    (hx : PassesAt (CXm X.prog X.w X.mg) X σ (E σ)) (I : L2.Inv X pins σ H s) (hw : ws.length = ks.length) (r : Vals vs (us ++ ws))
    (h : ∀ x dx, H x = none → H dx = none → dx ≠ x → sp (.ref x :: vs) (upd (upd H dx (.own x)) x (.ins C dx [])) (fun v H2 => v = .non ∧ Q (.ref x) H2) (E σ)) :
    wpAny (model X.prog X.w) X.A (call (.ref C) us (ks.zip ws)) (EP X pins σ Q) X.xe s := by
  have hq := h (s.heap.objs.size + 1) s.heap.objs.size (I.hok.fresh (Nat.le_succ _)) (I.hok.fresh (Nat.le_refl _)) (Nat.ne_of_lt (Nat.lt_succ_self _))
  have I2 := L2.Inv.made (C := C) I
  have r2 : Vals (V.ref (s.heap.objs.size + 1) :: vs) ((Value.ref (s.heap.objs.size + 1) :: us) ++ ws) := .cons rfl r
  refine wpAny_call (make_map (f := f) I.kIn M.makes M.init (beq_iff_eq.mp M.fn) (codeAny_mono (F _ X.stack _ _ (Value.ref (s.heap.objs.size + 1) :: us) ws _ _ (E σ) (guards_make hg) (hr.make C us (ks.zip ws))
    (I2.env0.make C us (ks.zip ws)) hw r2 hq) fun r s' hq' => ?_))
  cases r with
  | error e => exact hx pins _ _ e s' I2 hq'
  | ok fl =>
    cases fl with
    | ret u =>
      obtain ⟨v, H', I3, rv, ev, q3⟩ := I2.after hq'
      subst ev
      exact ⟨rv, ⟨V.ref (s.heap.objs.size + 1), H', I3, rfl, q3⟩⟩
    | next => exact False.elim hq'
    | brk => exact False.elim hq'
    | cont => exact False.elim hq'
end
theorem evalArgs_kw0 {M : Model} {A : Around} {E : Value → Shared → Prop} {s : Shared} {f : Value} {keywords : List (Option Str × Sem Value)} {Q : Args → Shared → Prop}
    (hall : keywords.all (·.1.isSome) = true)
    (h : wpAny M A (spliced []) (fun vs s₁ => wpAny M A (evalAll (keywords.map (·.2))) (fun ks s₂ => Q ⟨vs, (keywords.filterMap (·.1)).zip ks⟩ s₂) E s₁) E s) :
    wpAny M A (evalArgs f true [] keywords) Q E s := by
  unfold evalArgs
  show wpAny M A (spliced [] >>= _) Q E s
  refine wpAny_bind (wpAny_mono h (fun vs s₁ h₁ => ?_) fun _ _ x => x)
  refine wpAny_bind (wpAny_pure ?_)
  refine wpAny_holding ?_
  simp only [hall, if_true]
  refine wpAny_bind (wpAny_mono h₁ (fun ks s₂ h₂ => ?_) fun _ _ x => x)
  exact wpAny_bind (wpAny_pure (wpAny_pure h₂))
def ArgHd (env : Env) : List Expr → Prop
  | [] => True
  | e :: es => starEach (e :: es) env = (false, eval e env) :: starEach es env
theorem args_run {X : Cx} {es : List Expr} {kws : List Keyword} {ks : List Str} {t tk : TA} {pos : Pos} {f : Value} {first : List Value} {pins : List (Addr × Obj)} {s : Shared} {σ : L2.St} {H : Hp} {Q : VK}
    (hkp : PySem.W.keepIn X.K f = true) (ha : PA X es t) (hk : PK X kws tk) (I : L2.Inv X pins σ H s)
    (h : t σ H fun vs H1 => tk σ H1 fun zs H2 => zs.length = ks.length ∧ ∀ s2 us ws, L2.Inv X pins σ H2 s2 → ws.length = ks.length → Vals (vs ++ zs) (us ++ ws) → wpAny (model X.prog X.w) X.A (call f (first ++ us) (ks.zip ws)) (EP X pins σ Q) X.xe s2)
    (he : ArgHd X.env es := by first | exact True.intro | exact rfl)
    (hks : (backToKw pos (keywordEach kws X.env)).filterMap (·.1) = ks := by rfl)
    (hall : (backToKw pos (keywordEach kws X.env)).all (·.1.isSome) = true := by rfl)
    (hpl : ((backTo pos (starEach es X.env)).any (·.1) || (backToKw pos (keywordEach kws X.env)).any (·.1.isNone)) = false := by rfl) :
    wpAny (model X.prog X.w) X.A (callWith pos f first (backTo pos (starEach es X.env)) (backToKw pos (keywordEach kws X.env))) (EP X pins σ Q) X.xe s := by
  have fin : ∀ {us : List Value} {vs : List V} {H1 : Hp} {s1 : Shared}, L2.Inv X pins σ H1 s1 → Vals vs us → (tk σ H1 fun zs H2 => zs.length = ks.length ∧ ∀ s2 us ws, L2.Inv X pins σ H2 s2 → ws.length = ks.length → Vals (vs ++ zs) (us ++ ws) → wpAny (model X.prog X.w) X.A (call f (first ++ us) (ks.zip ws)) (EP X pins σ Q) X.xe s2) →
      wpAny (model X.prog X.w) X.A (evalAll ((backToKw pos (keywordEach kws X.env)).map (·.2))) (fun ws s₂ => X.K.In s₂.heap ∧ wpAny (model X.prog X.w) X.A (call f (first ++ us) (((backToKw pos (keywordEach kws X.env)).filterMap (·.1)).zip ws)) (EP X pins σ Q) X.xe s₂) X.xe s1 := by
    intro us vs H1 s1 I1 r q
    refine thn (hk.run pos pins s1 σ H1 _ I1 q) fun ws s2 ⟨zs, H2, I2, rz, hz, q2⟩ => ⟨I2.kIn, ?_⟩
    rw [hks]
    exact q2 s2 us ws I2 (rz.length.symm.trans hz) (r.append rz)
  cases es with
  | nil => exact PySem.W.callWith_of hpl (PySem.W.keeps_K hkp) (evalArgs_kw0 hall (thn (ha.run pos pins s σ H _ I h) fun us s1 ⟨vs, H1, I1, r, q⟩ => fin I1 r q))
  | cons e es => exact PySem.W.callWith_of hpl (PySem.W.keeps_K hkp) (evalArgs_kw2 hall (thn (ha.run pos pins s σ H _ I h) fun us s1 ⟨vs, H1, I1, r, q⟩ => fin I1 r q) he)
def runI : R (Fl (List D) Empty) → R (List D)
  | .ok (.nx es) => .ok es
  | .ok (.rt _) => .stuck
  | .ok (.bk b) => b.elim
  | .ok (.ct b) => b.elim
  | .ex e => .ex e
  | .stuck => .stuck
def spI [DL.TC] (K : PySem.W.Frag) (mg : Str → Option Value) (ns : List Str) (L : Nat → Prop) (g : List D → R (List D)) : Sp := fun vs H Q E => L vs.length ∧ ∃ x C dx rest Hf ds, vs = .ref x :: rest ∧ SubT Hf H ∧ Hf x = none ∧ H x = some (.ins C dx []) ∧ Cls K C ∧ (∀ f ∈ ns, NoAttr K C f) ∧ IsL K mg Hf ds rest ∧ (match g ds with
  | .ok es => ∀ us Hf' H', Ste [x] Hf H Hf' H' → H' x = some (.ins C dx (ns.zip us)) → ns.length = us.length → IsL K mg Hf' es us → Hf' x = none → Q .non H'
  | .ex e => ∀ cls dd Hf' H', Ste [x] Hf H Hf' H' → ExIs K mg Hf' H' e cls dd → E cls dd H'
  | .stuck => False)
abbrev fxI (ns : List Str) (x : Addr) (H Hf : Hp) (E : XK) : Fx := ⟨[], H, Hf, fun cls d _ H' => E cls d H', none, false, [x], ns⟩
def GI (N : List Str) (ds : List D) : List Sl := .ob [] [] :: (ds.map Sl.im ++ List.replicate (N.length - ds.length - 1) .un)
def exI (N ns : List Str) (es : List D) : List Sl := .ob ns es :: (N.tail.map fun _ => .un)
section
variable {K : PySem.W.Frag} {mg : Str → Option Value} [DL.TC]
theorem StS.initI {Hf H : Hp} {E : XK} {ds : List D} {vs : List V} {N : List Str} {s : S} {x C dx : Addr} (sb : SubT Hf H) (hf : Hf x = none) {ns : List Str} (hx : H x = some (.ins C dx [])) (c : Cls K C) (na : ∀ f ∈ ns, NoAttr K C f) (l : IsL K mg Hf ds vs) (hn : vs.length + 1 ≤ N.length) :
    StS K mg (fxI ns x H Hf E) Hf H (start N (.ref x :: vs)) (GI N ds) s := by
  refine ⟨.refl sb.s, trivial, fun b m => ?_, sb.t, ?_, fun i y e => ?_, fun i j y z p ne ey ez oy oz e1 e2 => ?_⟩
  · have : b = x := by
      rcases List.mem_append.mp m with m | m
      · simpa using m
      · cases m
    subst this
    exact ⟨hf, by rw [hx]; simp, fun _ => by show H b ≠ none; rw [hx]; simp⟩
  · rw [start_len (by simpa using hn)]
    unfold GI
    have := l.len
    simp
    omega
  · cases i with
    | zero =>
      cases e
      exact ⟨x, C, dx, [], start_at rfl, hx, hf, ⟨by simp, [], hx⟩, by simp, ⟨c, na⟩, rfl, rfl⟩
    | succ i =>
      have e' : (ds.map Sl.im ++ List.replicate (N.length - ds.length - 1) .un)[i]? = some y := e
      have q := slOk_G0 (fx := fxI ns x H Hf E) (H := H) (N := N) l e'
      cases y with
      | un => trivial
      | im d =>
        obtain ⟨v, hv, hi⟩ := q
        refine ⟨v, ?_, hi⟩
        cases h : vs[i]? with
        | none => rw [h] at hv; cases hv
        | some w => rw [h] at hv; cases hv; exact start_at (by simpa using h)
      | ow ds => exact (isOw_im e' rfl).elim
      | od ks ds => exact (isOw_im e' rfl).elim
      | nd ks ds => exact (isOw_im e' rfl).elim
      | rf a => exact (rf_im e').elim
      | ob ns ds => exact (isOw_im e' rfl).elim
      | o2 ds es => exact (isOw_im e' rfl).elim
      | rw _ _ => exact (isOw_im e' rfl).elim
      | ra _ _ => exact (ra_im e').elim
      | bg =>
        obtain ⟨b, r, e, _⟩ := q
        cases e
  · have z1 : i = 0 := by
      cases i with
      | zero => rfl
      | succ i => exact (isOw_im (n := N.length - ds.length - 1) (ds := ds) (i := i) ey oy).elim
    have z2 : j = 0 := by
      cases j with
      | zero => rfl
      | succ j => exact (isOw_im (n := N.length - ds.length - 1) (ds := ds) (i := j) ez oz).elim
    exact ne (z1.trans z2.symm)
end
theorem runI_read [DL.TC] {K : PySem.W.Frag} {mg : Str → Option Value} {ns N : List Str} {o C dx : Addr} {H Hf : Hp} {E : XK} {Q : VK} {body : R (Fl (List D) Empty)} {s : S} (hx : H o = some (.ins C dx []))
    (q : match runI body with
      | .ok es => ∀ us Hf' H', Ste [o] Hf H Hf' H' → H' o = some (.ins C dx (ns.zip us)) → ns.length = us.length → IsL K mg Hf' es us → Hf' o = none → Q .non H'
      | .ex e => ∀ cls dd Hf' H', Ste [o] Hf H Hf' H' → ExIs K mg Hf' H' e cls dd → E cls dd H'
      | .stuck => False) :
    Mo.wp body s (FP K mg (fxI ns o H Hf E) Hf (exI N ns) Empty.elim { nx := fun _ H' => Q .non H', rt := Q }) (EXS K mg (fxI ns o H Hf E)) := by
  show R.wp body _ _ _
  cases body with
  | ok f =>
    cases f with
    | nx es =>
      refine fun Hf' H' σ' _ st => ?_
      obtain ⟨p, C', dx', us, ep, hp', hf', ⟨hm, f0, h00⟩, _, _, hl2, l2⟩ := st.sl 0 _ rfl
      have e1 : p = o := by simpa using hm
      subst e1
      have e2 : C' = C ∧ dx' = dx := by
        have z : H p = some (.ins C' dx' f0) := h00
        rw [hx] at z
        cases z
        exact ⟨rfl, rfl⟩
      obtain ⟨rfl, rfl⟩ := e2
      exact q us Hf' H' st.ste hp' hl2 l2 hf'
    | rt d => exact (show False from q).elim
    | bk b => exact b.elim
    | ct b => exact b.elim
  | ex e => exact fun cls dd σ' Hf' H' st x => q cls dd Hf' H' st.1 x
  | stuck => exact q
section
variable {P : Program} {w : World} {K : PySem.W.Frag} {mg : Str → Option Value} {base : Heap} [DL.TC]
theorem fnI {x qual : Str} {st : Stmt} {f : Addr} {fd : FuncData} {N ps ns : List Str} {k n : Nat} {g : List D → R (List D)} [hw : WOk w] (F : Fun K x qual st f fd) (Sc : FnScope N ps (defScope st)) (hn : ps.length = n + 1) (hN : n + 1 ≤ N.length)
    (hb : ∀ (cdv : Value) (A : Around) (outer : List Env) (s : Shared) (H Hf : Hp) (E : XK) (o : Addr) (ds : List D), Cok (cxOf (CXm P w mg) P w K mg base N qual (defScope st) f cdv A outer s H E) (fxI ns o H Hf E) k → ds.length = n →
      ∃ body : R (Fl (List D) Empty), PSs (cxOf (CXm P w mg) P w K mg base N qual (defScope st) f cdv A outer s H E) (defBody st)
        (tS (cxOf (CXm P w mg) P w K mg base N qual (defScope st) f cdv A outer s H E).K (cxOf (CXm P w mg) P w K mg base N qual (defScope st) f cdv A outer s H E).mg (fxI ns o H Hf E) (GI N ds) (exI N ns) Empty.elim body) ∧ g ds = runI body) :
    FnG P w K mg base (k + 1) f fd ps (spI K mg ns (fun l => l = n + 1) g) := by
  refine fn_g F Sc (fun vs H Q E h => h.1.trans hn.symm) (fun cdv A outer s H vs Q E gd hr h => ?_)
  obtain ⟨hl, o, C, dx, rest, Hf, ds, rfl, sb, hf, hx, c, na, l, q⟩ := h
  have Ck : Cok (cxOf (CXm P w mg) P w K mg base N qual (defScope st) f cdv A outer s H E) (fxI ns o H Hf E) k := ⟨rfl, fun _ => passes_of rfl, takes_of rfl rfl rfl rfl, hr, Sc.nd, gd, hw.e⟩
  have hl' : rest.length = n := by simpa using hl
  obtain ⟨body, hp, hg⟩ := hb cdv A outer s H Hf E o ds Ck (l.len.trans hl')
  refine ⟨_, hp, Hf, ⟨0, 0, 0, [], false⟩, .initI sb hf hx c na l (by omega), ?_⟩
  rw [hg] at q
  exact runI_read hx q
end
section
variable {X : Cx} {fx : Fx} {m : Type → Type} [Mo m] {G : List Sl} {α β : Type} {kk : Nat} {e : Expr} {rest : List Stmt} {ex : α → List Sl} {exb : β → List Sl} {pos pos' : Pos} {x : m D} {k : D → m (Fl α β)} {f n : Str} {np : Pos} {ns : List Str} {ds : List D} [DL.TC]
theorem putF_new {f : Str} {y : V} : ∀ {ns : List Str} {vs : List V}, ns.length = vs.length → f ∉ ns → putF f y (ns.zip vs) = (ns ++ [f]).zip (vs ++ [y])
  | [], [], _, _ => rfl
  | g :: ns, v :: vs, hl, hn => by
    have h1 : g ≠ f := fun z => hn (by simp [z])
    show putF f y ((g, v) :: ns.zip vs) = (g, v) :: (ns ++ [f]).zip (vs ++ [y])
    unfold putF
    rw [if_neg h1, putF_new (by simpa using hl) fun z => hn (List.mem_cons_of_mem _ z)]
  | [], _ :: _, hl, _ => by simp at hl
  | _ :: _, [], hl, _ => by simp at hl
theorem dss_fld (i : Nat) (he : PE X e (tE X.K X.mg fx G x)) (hr : ∀ d, PSs X rest (tS X.K X.mg fx (G.set i (.ob (ns ++ [f]) (ds ++ [d]))) ex exb (k d))) (hG : G[i]? = some (.ob ns ds) := by rfl) (hN : X.N[i]? = some n := by rfl) (hf : f ∉ ns := by decide +kernel) (hm : f ∈ fx.nas := by decide +kernel) (hz : ns.length < 1000 := by decide)
    (hv : Vis X.env.scope n := by first | exact Or.inl rfl | exact Or.inr (Or.inl rfl) | exact Or.inr (Or.inr rfl)) (hd : (n == ("__debug__" : Str)) = false := by decide) (hcd : (n == ("__classdict__" : Str)) = false := by decide)
    (hs : swapsWith e (some (.Attribute (.Name n np) f pos')) pos.line X.env = pure false := by rfl) (hg : GxOk fx G := by first | exact True.intro | repeat' (first | exact True.intro | exact Or.inl rfl | exact Or.inr rfl | refine And.intro ?_ ?_)) :
    PSs X (.Assign [.Attribute (.Name n np) f pos'] e pos :: rest) (tS X.K X.mg fx G ex exb (x >>= k)) := pssI (pss_cons (ps_fld (pe_var hN hv hd hcd) he hs) (pss_ex hr)) fun De σ H ⟨Hf, s, h⟩ =>
  ((h.bind hg).mono fun v H1 ⟨d, Hf1, s1, sb, r, h1⟩ => by
    obtain ⟨p, C, dx, vs, ep, hp, hf', h0, nb, ⟨c, na⟩, hl, l⟩ := h1.1.sl i _ hG
    refine ⟨.ref p, ep, p, C, dx, ns.zip vs, rfl, hp, c, na _ hm, ?_, d, Hf1, s1, ?_, h1.2⟩
    · rw [List.length_zip, ← hl, Nat.min_self]; exact hz
    · refine h1.1.updAt hG rfl ep rfl ⟨p, C, dx, vs ++ [v], rfl, ?_, hf', h0, nb, ⟨c, na⟩, by simp [hl], l.app (.cons r .nil)⟩
      rw [upd_same, putF_new hl hf]).to
theorem lookup_zip {f : Str} : ∀ {ns : List Str} {vs : List V} {j : Nat} {v : V}, ns.idxOf? f = some j → vs[j]? = some v → (ns.zip vs).lookup f = some v
  | [], _, _, _, e, _ => by cases e
  | g :: ns, [], _, _, _, e => by simp at e
  | g :: ns, v :: vs, j, w, e, e2 => by
    by_cases h : g = f
    · subst h
      have z : j = 0 := by simpa [List.idxOf?, List.findIdx?_cons] using e.symm
      subst z
      simp at e2
      subst e2
      simp
    · have h' : (f == g) = false := by simpa using Ne.symm h
      have h2 : (g == f) = false := by simpa using h
      cases j with
      | zero =>
        exfalso
        simp [List.idxOf?, List.findIdx?_cons, h2] at e
      | succ j =>
        have e' : ns.idxOf? f = some j := by
          simp [List.idxOf?, List.findIdx?_cons, h2] at e ⊢
          exact e
        have := lookup_zip e' (by simpa using e2)
        simpa [List.lookup, h'] using this
end
end DL
namespace DL
open PySem PySem.Spec PyProof.Rows L2
structure ClsN (K : PySem.W.Frag) (mg : Str → Option Value) (c : Str) (C : Addr) : Prop where
  mg : mg c = some (.ref C)
  cl : Cls K C
  ca : PySem.W.findIn K (.ref C) "__class__" = some (some (.builtin "object.__class__"))
  cn : PySem.W.specialIn K (.builtin "object.__class__") "__get__" = some (some (.builtin "getset_descriptor.__get__"))
  ct : PySem.W.takesIn K (.builtin "object.__class__") = some true
  cm : PySem.W.mroIn K C (.type "object") = some true
section
variable {X : Cx} {fx : Fx} {m : Type → Type} [Mo m] {G : List Sl} {es : List Expr} {kws : List Keyword} {ks : List Str} {pos p : Pos} {ys zz : m (List D)} {kk j n : Nat} {c : Str} {C fI : Addr} {ns : List Str} {g : List D → R (List D)} [DL.TC]
theorem make_core {vs : List V} {ds : List D} {Hf : Hp} {s : S} {σ : L2.St} {H : Hp} {Q : VK} {x dx : Addr} (cn : ClsN X.K X.mg c C) (na : ∀ f ∈ ns, NoAttr X.K C f) {L : Nat → Prop} (hn : L (ds.length + 1)) (r : IsL X.K X.mg Hf ds vs) (h : tX X.K X.mg fx G (fun H d v => Is X.K X.mg H d v) (Mo.lift (g ds) >>= fun es => pure (.ins c ns es) : m D) Hf s σ H Q) (hx : H x = none) (hdx : H dx = none) (hne : dx ≠ x) :
    spI X.K X.mg ns L g (.ref x :: vs) (upd (upd H dx (.own x)) x (.ins C dx [])) (fun v H2 => v = .non ∧ Q (.ref x) H2) (WE fx.W σ) := by
  have w := Mo.wp_lift (Mo.wp_bind h.2)
  have hl := r.len
  have e2 : ∀ a o, H a = some o → upd (upd H dx (.own x)) x (.ins C dx []) a = some o := fun a o q => by rw [upd_ne (ne_of_none q hx), upd_ne (ne_of_none q hdx)]; exact q
  have hfx : Hf x = none := h.1.top.none hx
  have up : ∀ {Hf' H' : Hp}, Ste [x] Hf (upd (upd H dx (.own x)) x (.ins C dx [])) Hf' H' → Ste [] Hf H Hf' H' := fun {Hf' H'} st => ⟨st.sub, st.top, fun a o q _ k => st.keep a o (e2 a o q) (by simpa using ne_of_none q hx) k, fun a q => st.dom a (by
    cases z : H a with
    | none => exact absurd z q
    | some o => rw [e2 a o z]; simp), fun a o q => by
    rcases st.fresh a o q with z | z
    · exact .inl z
    · refine .inr ?_
      cases y : H a with
      | none => rfl
      | some u => (rw [e2 a u y] at z; cases z), fun t => st.tab (t.ext e2)⟩
  refine ⟨by rw [List.length_cons, ← hl]; exact hn, x, C, dx, vs, Hf, ds, rfl, ⟨fun a o q => e2 a o (h.1.top a o q), h.1.tb.1.ext e2, h.1.tb.2⟩, hfx, upd_same, cn.cl, na, r, ?_⟩
  cases z : g ds with
  | ok es =>
    rw [z] at w
    intro us Hf' H' st hp hnl l hf'
    refine ⟨rfl, ?_⟩
    have w' := Mo.wp_pure w
    have st0 := up st
    have sb : Sub Hf' (upd Hf' x (.ins C dx (ns.zip us))) := fun a o q => by
      have ne : a ≠ x := fun z => by rw [z, hf'] at q; cases q
      rw [upd_ne ne]; exact q
    have st1 : Ste [] Hf H (upd Hf' x (.ins C dx (ns.zip us))) H' := ⟨st0.sub.trans sb, fun a o q => by
        by_cases c : a = x
        · subst c; rw [upd_same] at q; cases q; exact hp
        · rw [upd_ne c] at q; exact st0.top a o q, st0.keep, st0.dom, fun a o q => by
        by_cases c : a = x
        · subst c; exact .inr hx
        · rw [upd_ne c] at q; exact st0.fresh a o q, st0.tab⟩
    exact w' (.ref x) _ H' st1.wide (st1.bag h.1.bag) ⟨x, C, dx, us, rfl, cn.mg, upd_same, hnl, l.mono sb⟩
  | ex e =>
    rw [z] at w
    exact fun cls dd Hf' H' st xi => w cls dd Hf' H' (h.1.step (up st).wide ((up st).bag h.1.bag)) xi
  | stuck => rw [z] at w; exact w
end
def fldD (cs : List Str) (f : Str) : D → Option D
  | .ins c ns ds => if c ∈ cs then (ns.idxOf? f).bind (ds[·]?) else none
  | _ => none
def FldOk (K : PySem.W.Frag) (mg : Str → Option Value) (f : Str) (cs : List Str) : Prop := ∀ c ∈ cs, ∃ C, mg c = some (.ref C) ∧ Cls K C ∧ NoAttr K C f
def insOk (cs : List Str) (m : Str) : D → Option Unit
  | .ins c ns _ => if c ∈ cs ∧ m ∉ ns then some () else none
  | _ => none
def dispM {α : Type} (L : List (Str × (List D → R α))) : D → List D → R α
  | .ins c ns vs, ds => match L.lookup c with
    | some g => g (.ins c ns vs :: ds)
    | none => .stuck
  | _, _ => .stuck
def PropG [DL.TC] (P : Program) (w : World) (K : PySem.W.Frag) (mg : Str → Option Value) (base : Heap) (k : Nat) (f : Str) (c : Str) (g : List D → R D) : Prop :=
  ∃ C p gf, mg c = some (.ref C) ∧ Cls K C ∧ PropOf K C f p gf ∧ FnP P w K mg base k gf [] (spR K mg false 1 g)
theorem lookup_mem {α : Type} {c : Str} {g : α} : ∀ {L : List (Str × α)}, L.lookup c = some g → (c, g) ∈ L
  | [], h => by cases h
  | (d, a) :: L, h => by
    by_cases q : c = d
    · subst q
      simp [List.lookup] at h
      subst h
      exact .head _
    · have q' : (c == d) = false := by simpa using q
      simp [List.lookup, q'] at h
      exact .tail _ (lookup_mem h)
section
variable {X : Cx} {fx : Fx} {m : Type → Type} [Mo m] {G : List Sl} {o : Expr} {es : List Expr} {pos p apos : Pos} {x : m D} {ys : m (List D)} {kk j : Nat} {f mn : Str} {cs : List Str} [DL.TC]
theorem de_fld (cs : List Str) (ho : PE X o (tE X.K X.mg fx G x)) (hf : FldOk X.K X.mg f cs) (hb : attributeBase o f X.env (eval o X.env) = eval o X.env := by rfl) : PE X (.Attribute o f pos) (tE X.K X.mg fx G (do let u ← x; DL.ask (fldD cs f u))) :=
  peI (pe_fld ho hb) fun σ H Q ⟨Hf, s, h⟩ => (h.bind.mono fun v1 H1 ⟨d1, Hf1, s1, sb1, r1, h1⟩ => by
    obtain ⟨d, e, q⟩ := h1.ask
    cases d1 with
    | ins c ns ds =>
      have e' : (if c ∈ cs then (ns.idxOf? f).bind (ds[·]?) else none) = some d := e
      by_cases hc : c ∈ cs
      · rw [if_pos hc] at e'
        obtain ⟨C, mC, cl, na⟩ := hf c hc
        obtain ⟨a, C', dx, vs, ea, mC', ha, hl, l⟩ := r1
        rw [mC] at mC'
        cases mC'
        cases e1 : ns.idxOf? f with
        | none => rw [e1] at e'; cases e'
        | some i =>
          rw [e1] at e'
          obtain ⟨v, ev, iv⟩ := l.get (show ds[i]? = some d from e')
          exact ⟨a, C, dx, _, v, ea, h1.1.top _ _ ha, cl, na, lookup_zip e1 ev, q v Hf1 H1 (.refl h1.1.top) iv⟩
      · rw [if_neg hc] at e'; cases e'
    | _ => cases e).to
end
end DL
namespace DL
open PySem PySem.Spec PyProof.Rows L2
def attrD (cs : List Str) (L : List (Str × (List D → R D))) (f : Str) : D → R D
  | .ins c ns ds => match L.lookup c with
    | some g => R.nx (g [.ins c ns ds])
    | none => match fldD cs f (.ins c ns ds) with
      | some d => .ok d
      | none => .stuck
  | _ => .stuck
section
variable {X : Cx} {fx : Fx} {m : Type → Type} [Mo m] {G : List Sl} {o : Expr} {es : List Expr} {pos p apos : Pos} {x : m D} {ys : m (List D)} {kk j : Nat} {f mn : Str} {cs : List Str} [DL.TC]
theorem getprop_P {pins : List (Addr × Obj)} {σ : L2.St} {H : Hp} {s : Shared} {Q : VK} {b : Bool} {E' : Value → Shared → Prop} {a C dx p g : Addr} {fs : List (Str × V)} {sp : Sp} (I : L2.Inv X pins σ H s) (ea : H a = some (.ins C dx fs)) (c : Cls X.K C) (hp : PropOf X.K C f p g)
    (F : FnP X.prog X.w X.K X.mg X.base j g [] sp) (hg : X.A.guards = some []) (hr : Room (j + 1) X.A) (h : sp [.ref a] H Q (fun _ _ _ => False)) :
    wpAny (model X.prog X.w) X.A (getAttr (.ref a) f b) (EP X pins σ Q) E' s := by
  obtain ⟨mA, O, _, _, _, _⟩ := ins_get I.hok ea
  obtain ⟨od, J, _⟩ := O.look
  obtain ⟨rest, hrec⟩ := hp.rec_
  have I1 := I.tok (s.toks + 1)
  have hc : (PySem.W.clsIn X.K C).isSome = true := by
    obtain ⟨cd, hc, _⟩ := PySem.W.any_some c.hd
    rw [hc]
    rfl
  refine PySem.W.get_bind I.kIn J (PySem.W.plainGet_of (c.get f)).1 (PySem.W.findObj_data hc hp.at_ hp.get hp.tak) (PySem.W.plainGet_of (c.get f)).2 (wpAny_call (PySem.W.prop_get (s := { s with toks := s.toks + 1 }) I.kIn hrec ?_))
  refine codeAny_mono (F X.A.in1 X.stack { s with toks := s.toks + 1 } H [.ref a] [] [.ref a] Q (fun _ _ _ => False) hg hr.in1 I1.env0.in1 rfl (.cons rfl .nil) h) fun r s' hq => ?_
  cases r with
  | error er =>
    exact (cxm_false hq).elim
  | ok fl =>
    cases fl with
    | ret u =>
      obtain ⟨v, H', I3, rv, q3⟩ := I1.after hq
      show wpAny _ _ (handedOut u) _ _ _
      rw [PySem.W.handedOut_of (handed_of rv)]
      exact wpAny_pure ⟨v, H', I3, rv, q3⟩
    | next => exact False.elim hq
    | brk => exact False.elim hq
    | cont => exact False.elim hq
theorem de_attr (cs : List Str) {L : List (Str × (List D → R D))} (Ck : Cok X fx kk) (ho : PE X o (tE X.K X.mg fx G x)) (hf : FldOk X.K X.mg f cs) (hL : ∀ q ∈ L, PropG X.prog X.w X.K X.mg X.base j f q.1 q.2) (hj : j + 1 ≤ kk := by decide) (hb : attributeBase o f X.env (eval o X.env) = eval o X.env := by rfl) :
    PE X (.Attribute o f pos) (tE X.K X.mg fx G (do let u ← x; Mo.lift (attrD cs L f u))) := by
  refine ⟨fun pins s σ H Q I ⟨Hf, s0, h⟩ => ?_⟩
  refine attr_of hb (thn (ho.run pins s σ H _ I (h.bind.to)) fun u s1 ⟨v, H1, I1, rx, d1, Hf1, s1', sb1, r1, h1⟩ => ?_)
  have w1 := Mo.wp_lift h1.2
  cases d1 with
  | ins c ns vs =>
    have r1' := r1
    obtain ⟨a, C', dx, us, ea, mC', hH, hl, l⟩ := r1
    subst ea
    cases (show u = Value.ref a from rx)
    cases hlk : L.lookup c with
    | some g =>
      obtain ⟨C, pp, gf, mC, cl, hp, F⟩ := hL _ (lookup_mem hlk)
      rw [mC'] at mC
      cases mC
      have e1 : attrD cs L f (.ins c ns vs) = R.nx (g [.ins c ns vs]) := by simp only [attrD, hlk]
      rw [e1] at w1
      refine getprop_P I1 (h1.1.top _ _ hH) cl hp F Ck.gd (Ck.rm.mono hj) ⟨rfl, Hf1, [.ins c ns vs], h1.1.topT, .cons r1' .nil, ?_⟩
      cases z : g [.ins c ns vs] with
      | ok d =>
        rw [z] at w1
        rw [show (c, g).snd [D.ins c ns vs] = R.ok d from z]
        intro v Hf' H' st i; exact w1 v Hf' H' (Ste.wide st) (Ste.bag st h1.1.bag) i
      | ex e => rw [z] at w1; exact w1.elim
      | stuck => rw [z] at w1; exact w1.elim
    | none =>
      cases hfd : fldD cs f (.ins c ns vs) with
      | none =>
        have e1 : attrD cs L f (.ins c ns vs) = .stuck := by simp only [attrD, hlk, hfd]
        rw [e1] at w1
        exact w1.elim
      | some d =>
        have e1 : attrD cs L f (.ins c ns vs) = .ok d := by simp only [attrD, hlk, hfd]
        rw [e1] at w1
        have e' : (if c ∈ cs then (ns.idxOf? f).bind (vs[·]?) else none) = some d := hfd
        by_cases hc : c ∈ cs
        · rw [if_pos hc] at e'
          obtain ⟨C, mC, cl, na⟩ := hf c hc
          rw [mC] at mC'
          cases mC'
          cases e2 : ns.idxOf? f with
          | none => rw [e2] at e'; cases e'
          | some i =>
            rw [e2] at e'
            obtain ⟨v, ev, iv⟩ := l.get (show vs[i]? = some d from e')
            exact getattr_ok I1 (h1.1.top _ _ hH) cl na (lookup_zip e2 ev) fun u' s2 I2 ru => ⟨v, H1, I2, ru, w1 v Hf1 H1 (.refl h1.1.top) h1.1.bag iv⟩
        · rw [if_neg hc] at e'; cases e'
  | _ => exact w1.elim
end
end DL
namespace DL
open PySem PySem.Spec PyProof.Rows L2
def toO : R D → Option D
  | .ok d => some d
  | _ => none
theorem ex_false [DL.TC] {P : Program} {w : World} {mg : Str → Option Value} {outer : List Env} {H : Hp} {s s' : Shared} {e : Value} (h : CXm P w mg outer H s (fun _ _ _ => False) e s') : False := cxm_false h
section
variable {X : Cx} {k n : Nat} {L : List (Str × (List D → R D))} [DL.TC]
theorem dun_run {A : Around} {E : Value → Shared → Prop} {pins : List (Addr × Obj)} {σ : L2.St} {H Hf : Hp} {s : Shared} {Q : VK} {f : Addr} {g : List D → R D} {ds : List D} {vs : List V} {us : List Value} {d : D} (F : FnP X.prog X.w X.K X.mg X.base k f [] (spR X.K X.mg false n g)) (hg : A.guards = some []) (hr : Room k A) (e0 : Env0 X.prog X.w X.K X.mg X.base A X.stack s H) (I : L2.Inv X pins σ H s)
    (sb : SubT Hf H) (i : IsL X.K X.mg Hf ds vs) (hn : vs.length = n) (r : Vals vs us) (e : toO (g ds) = some d) (q : ∀ u Hf' H', Ste [] Hf H Hf' H' → Is X.K X.mg Hf' d u → Q u H') : wpAny (model X.prog X.w) A (call (.ref f) us) (EP X pins σ Q) E s := by
  refine wpAny_call (codeAny_mono (F A X.stack s H us [] vs Q (fun _ _ _ => False) hg hr e0 rfl (by rw [List.append_nil]; exact r) ⟨hn, Hf, ds, sb, i, ?_⟩) fun r s' hq => ?_)
  · cases z : g ds with
    | ok d' => rw [z] at e; cases e; exact fun v Hf' H' st i => q v Hf' H' st i
    | ex e2 => rw [z] at e; cases e
    | stuck => rw [z] at e; cases e
  · cases r with
    | error e => exact (ex_false hq).elim
    | ok fl =>
      cases fl with
      | ret u => exact I.after hq
      | next => exact False.elim hq
      | brk => exact False.elim hq
      | cont => exact False.elim hq
end
section
variable {X : Cx} {k : Nat} {L : List (Str × (List D → R D))} [DL.TC]
theorem contains_K {prog : Program} {w : World} {A : Around} {E : Value → Shared → Prop} {s : Shared} {K : PySem.W.Frag} {x C f : Addr} {ox : Obj} {od : Option Obj} {b : Value} {Q : Bool → Shared → Prop} (X : K.In s.heap) (I : PySem.W.InstAt s.heap x ox C od)
    (hs : PySem.W.findIn K (.ref C) "__contains__" = some (some (.ref f))) (hf : PySem.W.isFn K (.ref f) = true) (h : wpAny (model prog w) A (call (.ref f) [.ref x, b]) (fun v s' => ∃ r, v = .bool r ∧ Q r s') E s) : wpAny (model prog w) A (contains (.ref x) b) Q E s := by
  unfold contains
  refine wpAny_holding ?_
  have e0 : stdlibNamesSay? (.ref x) b = none := rfl
  rw [e0]
  refine wpAny_bind (wpAny_bind (I.type.here ((PySem.W.looks_findIn X hs).here ?_)))
  refine wpAny_ite_false (by rfl) ?_
  simp only [callSpecialUnlessNone?]
  refine wpAny_bind (wpAny_bind (wpAny_bind (I.type.here ((PySem.W.looks_findIn X hs).here ?_))))
  refine wpAny_holding (wpAny_bind ((PySem.W.bind_fn X _ (beq_iff_eq.mp hf)).here ?_))
  refine wpAny_ite_false (by rfl) ?_
  refine wpAny_bind (wpAny_mono h (fun v s' hv => ?_) fun _ _ e => e)
  obtain ⟨r, rfl, q⟩ := hv
  exact wpAny_pure (wpAny_truthy_bool q)
end
end DL
namespace DL
open PySem PySem.Spec PyProof.Rows L2
def blO (o : Option D) : Option D := match o with
  | some (.bl b) => some (.bl b)
  | _ => none
def inO (L : List (Str × (List D → R D))) (a b : D) : Option D := match b with
  | .ins c ns ds => (L.lookup c).bind fun g => blO (toO (g [.ins c ns ds, a]))
  | b => inD a b
def DunC [DL.TC] (P : Program) (w : World) (K : PySem.W.Frag) (mg : Str → Option Value) (base : Heap) (k n : Nat) (m : Str) (c : Str) (g : List D → R D) : Prop :=
  ∃ C f, ClsN K mg c C ∧ PySem.W.findIn K (.ref C) m = some (some (.ref f)) ∧ PySem.W.isFn K (.ref f) = true ∧ FnP P w K mg base k f [] (spR K mg false n g)
section
variable {X : Cx} {k : Nat} {L : List (Str × (List D → R D))} [DL.TC]
theorem in_ins {pins : List (Addr × Obj)} {σ : L2.St} {H Hf : Hp} {s : Shared} {x y : V} {v u : Value} {c : Str} {ns : List Str} {ds : List D} {dx : D} {b : Bool} {Q : Bool → Shared → Prop} (hL : ∀ q ∈ L, DunC X.prog X.w X.K X.mg X.base k 2 "__contains__" q.1 q.2) (hg : X.A.guards = some []) (hr : Room k X.A) (I : L2.Inv X pins σ H s) (rx : L2.RelV x v) (ry : L2.RelV y u) (sb : SubT Hf H)
    (ix : Is X.K X.mg Hf dx x) (iy : Is X.K X.mg Hf (.ins c ns ds) y) (e : inO L dx (.ins c ns ds) = some (.bl b)) (q : ∀ Hf' H' s', Ste [] Hf H Hf' H' → L2.Inv X pins σ H' s' → Q b s') : wpAny (model X.prog X.w) X.A (contains u v) Q X.xe s := by
  have e' : ((L.lookup c).bind fun g => blO (toO (g [.ins c ns ds, dx]))) = some (.bl b) := e
  cases hlk : L.lookup c with
  | none => rw [hlk] at e'; cases e'
  | some g =>
    rw [hlk] at e'
    have e2 : blO (toO (g [.ins c ns ds, dx])) = some (.bl b) := e'
    have e3 : toO (g [.ins c ns ds, dx]) = some (.bl b) := by
      cases z : toO (g [.ins c ns ds, dx]) with
      | none => rw [z] at e2; cases e2
      | some d =>
        rw [z] at e2
        cases d <;> cases e2
        rfl
    obtain ⟨C, f, cn, hs, hf, F⟩ := hL _ (lookup_mem hlk)
    have iy' := iy
    obtain ⟨a, C', dx', us, ea, mC, hH, hl, l⟩ := iy
    rw [cn.mg] at mC
    cases mC
    subst ea
    cases (show u = Value.ref a from ry)
    obtain ⟨mA, O, _⟩ := ins_get I.hok (sb _ _ hH)
    obtain ⟨od, J, _⟩ := O.look
    refine contains_K I.kIn J hs hf ?_
    refine wpAny_mono (dun_run (us := [.ref a, v]) (Q := fun v H' => v = .bl b ∧ ∃ Hf', Ste [] Hf H Hf' H') F hg hr I.env0 I sb (.cons iy' (.cons ix .nil)) rfl (.cons rfl (.cons rx .nil)) e3 fun u Hf' H' st i => ⟨i, Hf', st⟩) (fun w s' z => ?_) fun _ _ z => z
    obtain ⟨z', H', I', rz, ez, Hf', st⟩ := z
    subst ez
    exact ⟨b, rz, q Hf' H' s' st I'⟩
theorem od_inO (hL : ∀ q ∈ L, DunC X.prog X.w X.K X.mg X.base k 2 "__contains__" q.1 q.2) (hg : X.A.guards = some []) (hr : Room k X.A) (hb : OpR X (compareOp .In) (rD2 X.K X.mg inD)) : OpR X (compareOp .In) (rD2 X.K X.mg (inO L)) := by
  intro pins s σ H x y v u Q I rx ry h
  obtain ⟨Hf, dx, dy, d, sb, ix, iy, e, q⟩ := h
  have other : inD dx dy = some d → wpAny (model X.prog X.w) X.A (compareOp .In v u) (EP X pins σ Q) X.xe s := fun e => hb pins s σ H x y v u Q I rx ry ⟨Hf, dx, dy, d, sb, ix, iy, e, q⟩
  cases dy with
  | ins c ns ds =>
    have hd : ∃ b, d = .bl b := by
      have e' : ((L.lookup c).bind fun g => blO (toO (g [.ins c ns ds, dx]))) = some d := e
      cases hlk : L.lookup c with
      | none => rw [hlk] at e'; cases e'
      | some g =>
        rw [hlk] at e'
        have e2 : blO (toO (g [.ins c ns ds, dx])) = some d := e'
        unfold blO at e2
        split at e2
        · cases e2; exact ⟨_, rfl⟩
        · cases e2
    obtain ⟨b, rfl⟩ := hd
    refine wpAny_bind (in_ins hL hg hr I rx ry sb ix iy e fun Hf' H' s' st I' => ?_)
    exact wpAny_pure ⟨.bl b, H', I', rfl, q _ Hf' H' st (is_bl _)⟩
  | _ => exact other e
def numD (i : Int) : List Nat := (Str.ofString (toString i)).cps.toList
def strD : List D → Option D
  | [.int i] => if i.natAbs.log2 < 1920 then some (.str (numD i)) else none
  | [.str s] => some (.str s)
  | _ => none
theorem numD_is {K : PySem.W.Frag} {mg : Str → Option Value} {H : Hp} {i : Int} (h : i.natAbs.log2 < 1920) : Is K mg H (.str (numD i)) (.str (toString i : String)) := by
  refine ⟨by unfold numD; simp, ?_⟩
  have := int_text_fits h
  simpa [numD, Str.length] using this
theorem oc_str : CallR X (.type "str") (rDs X.K X.mg strD) := by
  intro pins s σ H xs us Q I r h
  obtain ⟨Hf, ds, d, sb, l, e, q⟩ := h
  unfold strD at e
  split at e
  · split at e
    · rename_i i hi
      cases e
      obtain ⟨v, r1, rfl, rfl, rfl⟩ := l
      exact call_str_int pins s σ H _ us Q I r ⟨i, rfl, hi, q _ Hf H (.refl sb) (numD_is hi)⟩
    · cases e
  · cases e
    obtain ⟨v, r1, rfl, ⟨rfl, hz⟩, rfl⟩ := l
    exact SkE.call_str_str pins s σ H _ us Q I r ⟨_, rfl, q _ Hf H (.refl sb) ⟨rfl, hz⟩⟩
  · cases e
def strO (L : List (Str × (List D → R D))) : List D → Option D
  | [.ins c ns ds] => match (L.lookup c).bind fun g => toO (g [.ins c ns ds]) with
    | some (.str s) => some (.str s)
    | _ => none
  | ds => strD ds
theorem oc_strO (hL : ∀ q ∈ L, DunC X.prog X.w X.K X.mg X.base k 1 "__str__" q.1 q.2) (hg : X.A.guards = some []) (hr : Room (k + 2) X.A) : CallR X (.type "str") (rDs X.K X.mg (strO L)) := by
  intro pins s σ H xs us Q I r h
  obtain ⟨Hf, ds, d, sb, l, e, q⟩ := h
  unfold strO at e
  split at e
  · rename_i c ns vs
    split at e
    · rename_i z hi
      cases e
      cases hlk : L.lookup c with
      | none => rw [hlk] at hi; cases hi
      | some g =>
        rw [hlk] at hi
        obtain ⟨C, f, cn, hs, hf, F⟩ := hL _ (lookup_mem hlk)
        obtain ⟨v, r1, rfl, iv, rfl⟩ := l
        obtain ⟨u, rfl, ru⟩ := r.one
        have iv' := iv
        obtain ⟨a, C', dx', us', ea, mC, hH, hl, l'⟩ := iv
        rw [cn.mg] at mC
        cases mC
        subst ea
        cases (show u = Value.ref a from ru)
        obtain ⟨mA, O, _⟩ := ins_get I.hok (sb _ _ hH)
        obtain ⟨od, J, _⟩ := O.look
        have hr2 : Room k X.A.in1.in1 := (show Room (k + 1) X.A.in1 from Room.in1 hr).in1
        refine PySem.W.kso_call hr2.units0 I.kIn J hs hf ?_
        refine wpAny_mono (dun_run (us := [.ref a]) (Q := fun v H' => ∃ Hf', v = .str ⟨z.toArray⟩ ∧ z.length ≤ sizeLine ∧ Ste [] Hf H Hf' H') F hg hr2 I.env0.in1.in1 I sb (.cons iv' .nil) rfl (.cons rfl .nil) hi fun u Hf' H' st i => ⟨Hf', i.1, i.2, st⟩) (fun w s' z => ?_) fun _ _ z => z
        obtain ⟨z', H', I', rz, Hf', ez, hz, st⟩ := z
        subst ez
        obtain ⟨t, rfl⟩ := (show ∃ t, w = Value.str _ t from rz)
        exact ⟨.str _, H', I', ⟨_, rfl⟩, q _ Hf' H' st ⟨rfl, hz⟩⟩
    · cases e
  · exact oc_str pins s σ H xs us Q I r ⟨Hf, ds, d, sb, l, e, q⟩
end
end DL
namespace DL
open PySem PySem.Spec PyProof.Rows L2
def unN (n : Nat) : D → Option (List D)
  | .tup ds => if ds.length = n then some ds else none
  | _ => none
section
variable {X : Cx} {fx : Fx} {m : Type → Type} [Mo m] {G : List Sl} {α β γ : Type} {kk : Nat} {e : Expr} {rest : List Stmt} {ex : α → List Sl} {exb : β → List Sl} {pos : Pos} {x : m D} [DL.TC]
theorem dss_unp {tg : Expr} {g : TG} {u : D → Option γ} {st : List Sl → γ → List Sl} {is : List Nat} {k : γ → m (Fl α β)} (hg : PGd X fx tg g u st is) (he : PE X e (tE X.K X.mg fx G x)) (hr : ∀ c, PSs X rest (tS X.K X.mg fx (st G c) ex exb (k c)))
    (hs : swapsWithSole [tg] e pos.line X.env = pure false := by rfl) (hw : swappedStores [tg] e X.env = pure none := by rfl) (h1 : (assignEach [tg] X.env).map (·.2) = [assign tg X.env] := by rfl)
    (hgx : GxOk fx G := by first | exact True.intro | repeat' (first | exact True.intro | exact Or.inl rfl | exact Or.inr rfl | refine And.intro ?_ ?_)) :
    PSs X (.Assign [tg] e pos :: rest) (tS X.K X.mg fx G ex exb (do let d ← x; let c ← DL.ask (u d); k c)) := pssI (pss_cons (ps_asg he hg.1 hs hw h1) (pss_ex hr)) fun De σ H ⟨Hf, s, h⟩ =>
  ((h.bind hgx).mono fun v H1 ⟨d, Hf1, s1, sb, r, h1⟩ => by
    have w1 := Mo.wp_lift (Mo.wp_bind h1.2)
    cases hu : u d with
    | none => rw [hu] at w1; exact w1.elim
    | some c =>
      rw [hu] at w1
      exact hg.2 h1.1 r hu fun σ' _ _ st' => ⟨c, Hf1, s1, st', w1⟩).to
end
end DL
namespace DL
open PySem PySem.Spec PyProof.Rows L2
section
variable {X : Cx} {fx : Fx} {m : Type → Type} [Mo m] {G : List Sl} {pos : Pos} [DL.TC]
inductive KVs (X : Cx) (fx : Fx) (m : Type → Type) [Mo m] (G : List Sl) : List (Option Expr) → List Expr → List (List Nat) → m (List D) → List (TE × TE) → Prop
  | nil : KVs X fx m G [] [] [] (pure []) []
  | cons {t : Str} {j : Nat} {p : Pos} {ks : List (Option Expr)} {v : Expr} {vs : List Expr} {ls : List (List Nat)} {x : m D} {ys : m (List D)} {trs : List (TE × TE)} (l : List Nat) (hv : PE X v (tE X.K X.mg fx G x)) (r : KVs X fx m G ks vs ls ys trs) (ht : t = ⟨l.toArray⟩ := by first | rfl | decide +kernel) (hl : l.length ≤ 1000 := by decide) :
      KVs X fx m G (some (.Constant (.str t) j p) :: ks) (v :: vs) (l :: ls) (do let d ← x; let ds ← ys; pure (d :: ds)) ((fun σ H Q => Q (.str ⟨l.toArray⟩) H, tE X.K X.mg fx G x) :: trs)
theorem KVs.some {ks : List (Option Expr)} {vs : List Expr} {ls : List (List Nat)} {ys : m (List D)} {trs : List (TE × TE)} (h : KVs X fx m G ks vs ls ys trs) : ks.all (·.isSome) = true ∧ ks.length = vs.length ∧ ks.length = ls.length := by
  induction h with
  | nil => exact ⟨rfl, rfl, rfl⟩
  | cons l hv r ht hl ih => exact ⟨by simp [ih.1], by simp [ih.2.1], by simp [ih.2.2]⟩
end
end DL
namespace DL
open PySem PySem.Spec PyProof.Rows L2 StX
end DL
namespace DL
open PySem PySem.Spec PyProof.Rows L2
def partD (a b : D) : Option D := match a, b with
  | .str z, .str s => if s ≠ [] ∧ z.length ≤ 1000000 then some (match TL.par s [] z with
    | some (p, q) => .tup [.str p, .str s, .str q]
    | none => .tup [.str z, .str [], .str []]) else none
  | _, _ => none
theorem par_len {s : List Nat} : ∀ {z acc p q : List Nat}, TL.par s acc z = some (p, q) → p.length + q.length ≤ acc.length + z.length := by
  intro z
  induction z with
  | nil =>
    intro acc p q h
    unfold TL.par at h
    cases h
  | cons c z ih =>
    intro acc p q h
    unfold TL.par at h
    split at h
    · cases h
      have : (List.drop s.length (c :: z)).length ≤ (c :: z).length := by rw [List.length_drop]; omega
      omega
    · have := ih h
      simp at this ⊢
      omega
def digs (z : List Nat) : Bool := z.all fun c => decide (48 ≤ c) && decide (c ≤ 57)
def intXD : List D → Option D
  | [.str z] => if digs z = true ∧ z ≠ [] ∧ z.length ≤ 640 then some (.int ((NumText.digitsVal z : Nat) : Int)) else none
  | ds => intD ds
section
variable {X : Cx} {fx : Fx} {m : Type → Type} [Mo m] {G : List Sl} {o e : Expr} {apos pos : Pos} {x y : m D} [DL.TC]
theorem de_part (ho : PE X o (tE X.K X.mg fx G x)) (he : PE X e (tE X.K X.mg fx G y)) (hs : starEach [e] X.env = [(false, eval e X.env)] := by rfl) (hbase : attributeBase o "partition" X.env (eval o X.env) = eval o X.env := by rfl) (hline : (apos.endLine == pos.line) = true := by rfl) :
    PE X (.Call (.Attribute o "partition" apos) [e] [] pos) (tE X.K X.mg fx G (do let u ← x; let _ ← DL.ask (strOf u); let v ← y; DL.ask (partD u v))) :=
  peI (pe_partition ho he hs hbase hline) fun σ H Q ⟨Hf, s, h⟩ =>
  (h.bind.mono fun v1 H1 ⟨d1, Hf1, s1, sb1, r1, h1⟩ => by
    have k := Mo.wp_lift (Mo.wp_bind h1.2)
    cases d1 with
    | str z =>
      obtain ⟨rfl, hz1⟩ := r1
      refine ⟨⟨_, rfl⟩, ?_⟩
      have h2 : tX X.K X.mg fx G (fun H d v => Is X.K X.mg H d v) (do let v ← y; DL.ask (partD (.str z) v) : m D) Hf1 s1 σ H1 Q := ⟨h1.1, k⟩
      refine (h2.bind.mono fun v2 H2 ⟨d2, Hf2, s2, sb2, r2, h3⟩ => ?_).to
      have w3 := Mo.wp_lift h3.2
      cases d2 with
      | str S =>
        obtain ⟨rfl, hS⟩ := r2
        by_cases hc : S ≠ [] ∧ z.length ≤ 1000000
        · have hsz : sizeLine = 16777216 := sizeLine_eq
          refine ⟨⟨z.toArray⟩, ⟨S.toArray⟩, rfl, rfl, by simpa [Str.length] using hc.1, by rw [str_len]; omega, fun p hp => ?_⟩
          have hn := h3.1.new0 hp
          have st : Ste fx.bag Hf2 H2 (upd Hf2 p (.tup [.str (Txt.partition ⟨z.toArray⟩ ⟨S.toArray⟩).1, .str (Txt.partition ⟨z.toArray⟩ ⟨S.toArray⟩).2.1, .str (Txt.partition ⟨z.toArray⟩ ⟨S.toArray⟩).2.2])) (upd H2 p (.tup [.str (Txt.partition ⟨z.toArray⟩ ⟨S.toArray⟩).1, .str (Txt.partition ⟨z.toArray⟩ ⟨S.toArray⟩).2.1, .str (Txt.partition ⟨z.toArray⟩ ⟨S.toArray⟩).2.2])) := .new h3.1.top hp
          cases hp' : TL.par S [] z with
          | some pq =>
            obtain ⟨p1, q1⟩ := pq
            have e1 : partD (.str z) (.str S) = some (.tup [.str p1, .str S, .str q1]) := by
              show (if S ≠ [] ∧ z.length ≤ 1000000 then _ else none) = _
              rw [if_pos hc, hp']
            rw [e1] at w3
            have e2 := SX.partition_some (a := z) (b := S) hc.1 hp'
            rw [show (⟨z.toArray⟩ : Str) = SX.S z from rfl, show (⟨S.toArray⟩ : Str) = SX.S S from rfl, e2] at st ⊢
            have hl := par_len hp'
            rw [List.length_nil] at hl
            exact w3 (.ref p) _ _ st (h3.1.bag.upd hn.2.1) ⟨by show 3 ≤ sizeLine; omega, p, _, rfl, .inl (.inl upd_same), .cons ⟨rfl, by omega⟩ (.cons ⟨rfl, hS⟩ (.cons ⟨rfl, by omega⟩ .nil))⟩
          | none =>
            have e1 : partD (.str z) (.str S) = some (.tup [.str z, .str [], .str []]) := by
              show (if S ≠ [] ∧ z.length ≤ 1000000 then _ else none) = _
              rw [if_pos hc, hp']
            rw [e1] at w3
            have e2 := SX.partition_none (a := z) (b := S) hc.1 hp'
            rw [show (⟨z.toArray⟩ : Str) = SX.S z from rfl, show (⟨S.toArray⟩ : Str) = SX.S S from rfl, e2] at st ⊢
            exact w3 (.ref p) _ _ st (h3.1.bag.upd hn.2.1) ⟨by show 3 ≤ sizeLine; omega, p, _, rfl, .inl (.inl upd_same), .cons ⟨rfl, by omega⟩ (.cons ⟨rfl, by simp⟩ (.cons ⟨rfl, by simp⟩ .nil))⟩
        · have e1 : partD (.str z) (.str S) = none := if_neg hc
          rw [e1] at w3
          exact w3.elim
      | _ => exact w3.elim
    | _ => exact k.elim).to
end
abbrev sx (z : List Nat) : Str := ⟨z.toArray⟩
end DL
namespace DL
open PySem PySem.Spec PyProof.Rows L2 StX
end DL
namespace DL
open PySem PySem.Spec PyProof.Rows L2
def apI1 (fn : D → R (List D)) : List D → R (List D)
  | [a] => fn a
  | _ => .stuck
theorem apI1_len (f) : ∀ ds : List D, apI1 f ds ≠ .stuck → ds.length = 1 := fun ds h => by
  unfold apI1 at h
  split at h <;> first | rfl | exact absurd rfl h
def apI3 (fn : D → D → D → R (List D)) : List D → R (List D)
  | [a, b, c] => fn a b c
  | _ => .stuck
theorem apI3_len (f) : ∀ ds : List D, apI3 f ds ≠ .stuck → ds.length = 3 := fun ds h => by
  unfold apI3 at h
  split at h <;> first | rfl | exact absurd rfl h
end DL
namespace DL
open PySem PySem.Spec PyProof.Rows L2
end DL
namespace DL
open PySem
end DL
namespace DL
open PySem PySem.Spec PyProof.Rows L2
end DL
namespace DL
open PySem PySem.Spec PyProof.Rows L2 StX
end DL
namespace DL
open PySem PySem.Spec PyProof.Rows L2
end DL
namespace DL
open PySem PySem.Spec PyProof.Rows L2
end DL
namespace DL
open PySem PySem.Spec PyProof.Rows L2
theorem assign_attr {M : Model} {A : Around} {E : Value → Shared → Prop} {s : Shared} {env : Env} {o : Expr} {f : Str} {pos' : Pos} {u : Value} {Q : Unit → Shared → Prop}
    (h : wpAny M A (eval o env) (fun ov s₂ => wpAny M A (setAttr ov f u) Q E s₂) E s) : wpAny M A (assign (.Attribute o f pos') env u) Q E s := fun Γ p hΓ => by
  simp only [assign_Attribute, Sem.wp_bind', Sem.wp_holding, Sem.wp_cmd_standAt, Sem.wp_release, Sem.wp_pure']
  exact Sem.wp_mono M Γ _ (fun ov _ s₂ h₂ => h₂ Γ _ hΓ) (fun _ _ _ h' => h') _ _ (h Γ _ hΓ)
def gFld (K : PySem.W.Frag) (to : TE) (f : Str) : TG := fun y σ H Q => to σ H fun x H2 => ∃ a C dx fs, x = .ref a ∧ H2 a = some (.ins C dx fs) ∧ Cls K C ∧ NoAttr K C f ∧ fs.length < 1000 ∧ Q σ (upd H2 a (.ins C dx (putF f y fs)))
section
variable {X : Cx} {o : Expr} {to : TE} {f : Str} {pos' : Pos} [DL.TC]
theorem pg_fld (ho : PE X o to) : PG X (.Attribute o f pos') (gFld X.K to f) := by
  refine ⟨fun pins s σ H v u Q I r h => assign_attr (thn (ho.run pins s σ H _ I h) fun ov s2 ⟨x, H2, I2, rx, a, C, dx, fs, ex, ea, c, n, l, q2⟩ => ?_)⟩
  subst ex
  obtain rfl : ov = Value.ref a := rx
  exact setattr_ok I2 ea c n l r fun s3 I3 => ⟨σ, _, I3, q2⟩
end
end DL
namespace DL
open PySem L2
instance : LawfulMonad R := LawfulMonad.mk' (m := R) (id_map := fun x => by cases x <;> rfl) (pure_bind := fun _ _ => rfl) (bind_assoc := fun x _ _ => by cases x <;> rfl)
theorem M.ext {α : Type} {x y : M α} (h : ∀ s, x s = y s) : x = y := funext h
instance : LawfulMonad M := LawfulMonad.mk' (m := M)
  (id_map := fun x => M.ext fun s => by
    show (x s).bd (fun a s => .ok a s) = x s
    cases x s <;> rfl)
  (pure_bind := fun _ _ => rfl)
  (bind_assoc := fun x f g => M.ext fun s => by
    show ((x s).bd f).bd g = (x s).bd fun a => f a >>= g
    cases x s <;> rfl)
@[simp] theorem lift_R {α : Type} (r : R α) : (Mo.lift r : R α) = r := rfl
@[simp] theorem lift_M {α : Type} (a : α) : (Mo.lift (R.ok a) : M α) = pure a := rfl
@[simp] theorem noex_R {α : Type} (a : α) : (Mo.noex (R.ok a) : R α) = .ok a := rfl
@[simp] theorem noex_M {α : Type} (a : α) : (Mo.noex (pure a : M α) : M α) = pure a := rfl
@[simp] theorem askM {α : Type} (a : α) : (ask (some a) : M α) = pure a := rfl
@[simp] theorem mkL_R (ds : List D) : (mkL (R.ok ds) : R D) = .ok (.lst ds) := rfl
@[simp] theorem mkL_M (ds : List D) : (mkL (pure ds : M (List D)) : M D) = pure (.lst ds) := rfl
def Inv (s : S) : Prop := s.w = false ∧ 0 ≤ s.y ∧ s.y < 4294967296
def Ok {α : Type} (x : M α) (Q : α → Prop) : Prop := ∀ s, Inv s → ∃ a s', x s = .ok a s' ∧ Inv s' ∧ Q a
def OkR {α : Type} (x : R α) (Q : α → Prop) : Prop := ∃ a, x = .ok a ∧ Q a
section
variable {α β γ : Type} {Q : β → Prop} {P : α → Prop}
theorem ok_pure {a : β} (h : Q a) : Ok (pure a : M β) Q := fun s i => ⟨a, s, rfl, i, h⟩
theorem ok_bind {x : M α} {f : α → M β} (h : Ok x fun a => Ok (f a) Q) : Ok (x >>= f) Q := fun s i => by
  obtain ⟨a, s', e, i', q⟩ := h s i
  obtain ⟨b, s2, e2, i2, q2⟩ := q s' i'
  refine ⟨b, s2, ?_, i2, q2⟩
  show (x s).bd f = _
  rw [e]; exact e2
theorem ok_mono {x : M α} {P' : α → Prop} (h : Ok x P) (w : ∀ a, P a → P' a) : Ok x P' := fun s i => by
  obtain ⟨a, s', e, i', q⟩ := h s i
  exact ⟨a, s', e, i', w a q⟩
theorem ok_then {x : M α} {f : α → M β} (h : Ok x P) (w : ∀ a, P a → Ok (f a) Q) : Ok (x >>= f) Q := ok_bind (ok_mono h w)
theorem ok_noex {x : M α} (h : Ok x P) : Ok (Mo.noex x) P := fun s i => by
  obtain ⟨a, s', e, i', q⟩ := h s i
  refine ⟨a, s', ?_, i', q⟩
  show (x s).nx = _
  rw [e]; rfl
theorem ok_ite {c : Prop} [Decidable c] {x y : M α} (h1 : c → Ok x P) (h2 : ¬ c → Ok y P) : Ok (if c then x else y) P := by
  by_cases h : c
  · rw [if_pos h]; exact h1 h
  · rw [if_neg h]; exact h2 h
theorem okr_pure {a : β} (h : Q a) : OkR (.ok a) Q := ⟨a, rfl, h⟩
theorem okr_bind {x : R α} {f : α → R β} (h : OkR x fun a => OkR (f a) Q) : OkR (x >>= f) Q := by
  obtain ⟨a, rfl, q⟩ := h
  exact q
theorem okr_mono {x : R α} {P' : α → Prop} (h : OkR x P) (w : ∀ a, P a → P' a) : OkR x P' := by
  obtain ⟨a, rfl, q⟩ := h
  exact ⟨a, rfl, w a q⟩
theorem okr_then {x : R α} {f : α → R β} (h : OkR x P) (w : ∀ a, P a → OkR (f a) Q) : OkR (x >>= f) Q := okr_bind (okr_mono h w)
end
def FlQ (nr : Bool) (Q : D → Prop) : Fl Unit Empty → Prop
  | .nx _ => nr = false ∧ Q .non
  | .rt d => Q d
  | _ => False
theorem ok_runM {nr : Bool} {x : M (Fl Unit Empty)} {Q : D → Prop} (h : Ok x (FlQ nr Q)) : Ok (runM nr x) Q := fun s i => by
  obtain ⟨a, s', e, i', q⟩ := h s i
  unfold runM
  rw [e]
  cases a with
  | nx a =>
    obtain ⟨q1, q2⟩ := q
    subst q1
    exact ⟨.non, s', rfl, i', q2⟩
  | rt d => exact ⟨d, s', rfl, i', q⟩
  | bk b => exact b.elim
  | ct b => exact b.elim
theorem okr_runR {nr : Bool} {x : R (Fl Unit Empty)} {Q : D → Prop} (h : OkR x (FlQ nr Q)) : OkR (runR nr x) Q := by
  obtain ⟨a, rfl, q⟩ := h
  cases a with
  | nx a =>
    obtain ⟨q1, q2⟩ := q
    subst q1
    exact ⟨.non, rfl, q2⟩
  | rt d => exact ⟨d, rfl, q⟩
  | bk b => exact b.elim
  | ct b => exact b.elim
theorem runR_rt {nr : Bool} {d : D} : runR nr (.ok (.rt d)) = .ok d := rfl
section
variable {α β γ : Type}
@[simp] theorem seqR_nx {a : α} {k : α → R (Fl γ β)} : seqF (R.ok (.nx a)) k = k a := rfl
@[simp] theorem seqR_rt {d : D} {k : α → R (Fl γ β)} : seqF (R.ok (.rt d)) k = .ok (.rt d) := rfl
@[simp] theorem seqR_bk {b : β} {k : α → R (Fl γ β)} : seqF (R.ok (.bk b)) k = .ok (.bk b) := rfl
@[simp] theorem seqR_ct {b : β} {k : α → R (Fl γ β)} : seqF (R.ok (.ct b)) k = .ok (.ct b) := rfl
def SeqQ (k : α → Prop) (Q : Fl γ β → Prop) : Fl α β → Prop
  | .nx a => k a
  | .rt d => Q (.rt d)
  | .bk b => Q (.bk b)
  | .ct b => Q (.ct b)
theorem ok_seq {x : M (Fl α β)} {k : α → M (Fl γ β)} {Q : Fl γ β → Prop} (h : Ok x (SeqQ (fun a => Ok (k a) Q) Q)) : Ok (seqF x k) Q := ok_bind (ok_mono h fun f q => by
  cases f with
  | nx a => exact q
  | rt d => exact ok_pure q
  | bk b => exact ok_pure q
  | ct b => exact ok_pure q)
theorem okr_seq {x : R (Fl α β)} {k : α → R (Fl γ β)} {Q : Fl γ β → Prop} (h : OkR x (SeqQ (fun a => OkR (k a) Q) Q)) : OkR (seqF x k) Q := okr_bind (okr_mono h fun f q => by
  cases f with
  | nx a => exact q
  | rt d => exact okr_pure q
  | bk b => exact okr_pure q
  | ct b => exact okr_pure q)
def TurnQ (I : α → Prop) (Q : Fl α β → Prop) : Fl α α → Prop
  | .nx a => I a
  | .ct a => I a
  | .bk a => Q (.nx a)
  | .rt d => Q (.rt d)
theorem ok_for {u : D → Option γ} {xb : α → γ → M (Fl α α)} {Q : Fl α β → Prop} (I : Nat → α → Prop) (ds : List D) (a0 : α) (h0 : I 0 a0) (hs : ∀ i d a, ds[i]? = some d → I i a → ∃ c, u d = some c ∧ Ok (xb a c) (TurnQ (I (i + 1)) Q)) (he : ∀ a, I ds.length a → Q (.nx a)) : Ok (forF u xb ds a0) Q := by
  induction ds generalizing I a0 with
  | nil => exact ok_pure (he _ h0)
  | cons d ds ih =>
    unfold forF
    obtain ⟨c, e, h⟩ := hs 0 d a0 rfl h0
    rw [e]
    refine ok_bind (ok_pure (ok_bind (ok_mono h fun f q => ?_)))
    cases f with
    | nx a => exact ih (fun i => I (i + 1)) a q (fun i d' a' e' q' => hs (i + 1) d' a' (by simpa using e') q') (fun a q => he a (by simpa using q))
    | ct a => exact ih (fun i => I (i + 1)) a q (fun i d' a' e' q' => hs (i + 1) d' a' (by simpa using e') q') (fun a q => he a (by simpa using q))
    | bk a => exact ok_pure q
    | rt d => exact ok_pure q
theorem okr_for {u : D → Option γ} {xb : α → γ → R (Fl α α)} {Q : Fl α β → Prop} (I : Nat → α → Prop) (ds : List D) (a0 : α) (h0 : I 0 a0) (hs : ∀ i d a, ds[i]? = some d → I i a → ∃ c, u d = some c ∧ OkR (xb a c) (TurnQ (I (i + 1)) Q)) (he : ∀ a, I ds.length a → Q (.nx a)) : OkR (forF u xb ds a0) Q := by
  induction ds generalizing I a0 with
  | nil => exact okr_pure (he _ h0)
  | cons d ds ih =>
    unfold forF
    obtain ⟨c, e, h⟩ := hs 0 d a0 rfl h0
    rw [e]
    refine okr_bind (okr_pure (okr_bind (okr_mono h fun f q => ?_)))
    cases f with
    | nx a => exact ih (fun i => I (i + 1)) a q (fun i d' a' e' q' => hs (i + 1) d' a' (by simpa using e') q') (fun a q => he a (by simpa using q))
    | ct a => exact ih (fun i => I (i + 1)) a q (fun i d' a' e' q' => hs (i + 1) d' a' (by simpa using e') q') (fun a q => he a (by simpa using q))
    | bk a => exact okr_pure q
    | rt d => exact okr_pure q
theorem ok_forU {u : D → Option γ} {xb : Unit → γ → M (Fl Unit Unit)} {Q : Fl Unit β → Prop} (ds : List D) (hs : ∀ d ∈ ds, ∃ c, u d = some c ∧ Ok (xb () c) (TurnQ (fun _ => True) Q)) (he : Q (.nx ())) : Ok (forF u xb ds ()) Q :=
  ok_for (fun _ _ => True) ds () trivial (fun i d _ e _ => hs d (List.mem_of_getElem? e)) fun _ _ => he
theorem okr_forU {u : D → Option γ} {xb : Unit → γ → R (Fl Unit Unit)} {Q : Fl Unit β → Prop} (ds : List D) (hs : ∀ d ∈ ds, ∃ c, u d = some c ∧ OkR (xb () c) (TurnQ (fun _ => True) Q)) (he : Q (.nx ())) : OkR (forF u xb ds ()) Q :=
  okr_for (fun _ _ => True) ds () trivial (fun i d _ e _ => hs d (List.mem_of_getElem? e)) fun _ _ => he
end
theorem lcR {γ : Type} {u : D → Option γ} {xt : γ → R Bool} {xe : γ → R D} (c : D → γ) (p : D → Bool) (f : D → D) : ∀ ds : List D, (∀ d ∈ ds, u d = some (c d)) → (∀ d ∈ ds, xt (c d) = .ok (p d)) → (∀ d ∈ ds, p d = true → xe (c d) = .ok (f d)) → lcF u xt xe ds = .ok ((ds.filter p).map f)
  | [], _, _, _ => rfl
  | d :: ds, h1, h2, h3 => by
    have ih := lcR c p f ds (fun x m => h1 x (.tail _ m)) (fun x m => h2 x (.tail _ m)) (fun x m => h3 x (.tail _ m))
    unfold lcF
    rw [h1 d (.head _)]
    simp only [ask_some, R.bind_eq, R.bd, h2 d (.head _), noex_R]
    cases q : p d with
    | false => simp only [Bool.false_eq_true, if_false, ih, List.filter_cons, q]
    | true =>
      simp only [if_true, List.filter_cons, q, List.map_cons]
      rw [h3 d (.head _) q, ih]
      rfl
inductive All2 {α β : Type} (P : α → β → Prop) : List α → List β → Prop
  | nil : All2 P [] []
  | cons {x : α} {y : β} {xs : List α} {ys : List β} (h : P x y) (t : All2 P xs ys) : All2 P (x :: xs) (y :: ys)
theorem ok_lc {γ : Type} {u : D → Option γ} {xe : γ → M D} {P : D → D → Prop} : ∀ ds : List D, (∀ d ∈ ds, ∃ c, u d = some c ∧ Ok (xe c) (P d)) → Ok (lcF u (fun _ => pure true) xe ds) fun rs => All2 P ds rs
  | [], _ => ok_pure .nil
  | d :: ds, h => by
    unfold lcF
    obtain ⟨c, e, hx⟩ := h d (.head _)
    rw [e]
    refine ok_bind (ok_pure (ok_bind (ok_noex (ok_pure ?_))))
    simp only [if_true]
    exact ok_then (ok_noex hx) fun y py => ok_then (ok_lc ds fun x m => h x (.tail _ m)) fun r pr => ok_pure (.cons py pr)
theorem ok_bagX {Q : D → Prop} (h : ∀ i : Int, Q (.int i)) : Ok bagX Q := fun s i => ⟨.int s.x, s, by unfold bagX; rw [if_pos i.1], i, h _⟩
theorem ok_bagY {Q : D → Prop} (h : ∀ i : Int, 0 ≤ i → i < 4294967296 → Q (.int i)) : Ok bagY Q := fun s i => ⟨.int s.y, s, by unfold bagY; rw [if_pos i.1], i, h _ i.2.1 i.2.2⟩
theorem ok_setX {i : Int} {Q : Unit → Prop} (h : Q ()) : Ok (bagSetX i) Q := fun s j => ⟨(), { s with x := i }, by unfold bagSetX; rw [if_pos j.1], j, h⟩
theorem ok_setY {i : Int} {Q : Unit → Prop} (h0 : 0 ≤ i) (h1 : i < 4294967296) (h : Q ()) : Ok (bagSetY i) Q := fun s j => ⟨(), { s with y := i }, by unfold bagSetY; rw [if_pos j.1], ⟨j.1, h0, h1⟩, h⟩
theorem okr_bag {α β : Type} {x y : Int} {k : M (Fl α β)} {Q : Fl α β → Prop} (h0 : 0 ≤ y) (h1 : y < 4294967296) (h : Ok k Q) : OkR (withBag (.lst [.int x, .int y]) k) Q := by
  obtain ⟨a, s', e, _, q⟩ := h ⟨x, y, 0, [], false⟩ ⟨rfl, h0, h1⟩
  refine ⟨a, ?_, q⟩
  unfold withBag
  simp only [e]
theorem mul_ii {i j : Int} (hi : i.natAbs < 2 ^ 64) (hj : j.natAbs < 2 ^ 64) : mulD (.int i) (.int j) = some (.int (i * j)) := by
  have h1 := PySem.Flt.log2_lt_of (n := i.natAbs) (k := 64) (by decide) hi
  have h2 := PySem.Flt.log2_lt_of (n := j.natAbs) (k := 64) (by decide) hj
  exact if_pos (show i.natAbs.log2 + j.natAbs.log2 < 1000000 by omega)
theorem mod_ii {i j : Int} (hj : 0 < j) : modD (.int i) (.int j) = some (.int (i % j)) := if_pos hj
theorem fdiv_ii {i j : Int} (hj : 0 < j) (h : j.natAbs < 2 ^ 64) : fdivD (.int i) (.int j) = some (.int (i / j)) := by
  have h1 := PySem.Flt.log2_lt_of (n := j.natAbs) (k := 64) (by decide) h
  exact if_pos (show 0 < j ∧ j.natAbs.log2 < 9000 from ⟨hj, by omega⟩)
@[simp] theorem add_ii {i j : Int} : addD (.int i) (.int j) = some (.int (i + j)) := rfl
@[simp] theorem sub_ii {i j : Int} : subD (.int i) (.int j) = some (.int (i - j)) := rfl
@[simp] theorem lt_ii {i j : Int} : ltD (.int i) (.int j) = some (.bl (decide (i < j))) := rfl
@[simp] theorem le_ii {i j : Int} : leD (.int i) (.int j) = some (.bl (decide (i ≤ j))) := rfl
@[simp] theorem gt_ii {i j : Int} : gtD (.int i) (.int j) = some (.bl (decide (j < i))) := rfl
@[simp] theorem ge_ii {i j : Int} : geD (.int i) (.int j) = some (.bl (decide (j ≤ i))) := rfl
@[simp] theorem eq_ii {i j : Int} : eqD (.int i) (.int j) = some (.bl (decide (i = j))) := rfl
@[simp] theorem ne_ii {i j : Int} : neD (.int i) (.int j) = some (.bl (!decide (i = j))) := rfl
@[simp] theorem eq_ss {a b : List Nat} : eqD (.str a) (.str b) = some (.bl (decide (a = b))) := rfl
@[simp] theorem ne_ss {a b : List Nat} : neD (.str a) (.str b) = some (.bl (!decide (a = b))) := rfl
@[simp] theorem bOf_bl {b : Bool} : bOf (.bl b) = some b := rfl
@[simp] theorem tru_bl {b : Bool} : truD (.bl b) = some b := rfl
@[simp] theorem tru_str {s : List Nat} : truD (.str s) = some (!s.isEmpty) := rfl
@[simp] theorem tru_lst {s : List D} : truD (.lst s) = some (!s.isEmpty) := rfl
@[simp] theorem tru_tup {s : List D} : truD (.tup s) = some (!s.isEmpty) := rfl
@[simp] theorem tru_int {i : Int} : truD (.int i) = some (i != 0) := rfl
@[simp] theorem int_int {i : Int} : intD [.int i] = some (.int i) := rfl
@[simp] theorem len_lst {s : List D} : lenD [.lst s] = some (.int s.length) := rfl
@[simp] theorem len_tup {s : List D} : lenD [.tup s] = some (.int s.length) := rfl
@[simp] theorem len_str {s : List Nat} : lenD [.str s] = some (.int s.length) := rfl
@[simp] theorem len_scr {s : List Int} : lenD [.scr s] = some (.int s.length) := rfl
@[simp] theorem it_lst {s : List D} : itD (.lst s) = some s := rfl
@[simp] theorem it_tup {s : List D} : itD (.tup s) = some s := rfl
@[simp] theorem it_str {s : List Nat} : itD (.str s) = some (chrs s) := rfl
@[simp] theorem int_of {i : Int} : intOf (.int i) = some i := rfl
@[simp] theorem flat_int {i : Int} : flatD (.int i) = some (.int i) := rfl
@[simp] theorem flat_bl {i : Bool} : flatD (.bl i) = some (.bl i) := rfl
@[simp] theorem flat_str {i : List Nat} : flatD (.str i) = some (.str i) := rfl
@[simp] theorem str_of {i : List Nat} : strOf (.str i) = some i := rfl
theorem sz_ok {ds : List D} (h : ds.length ≤ 1000000) : szL ds = some ds := if_pos (by rw [sizeLine_eq]; omega)
theorem apd_ok {ds : List D} {d : D} (h : ds.length < 1000000) : apd ds d = some (ds ++ [d]) := if_pos (by rw [sizeLine_eq]; omega)
theorem rng1_ok {j : Int} (h0 : -4611686018427387904 ≤ j) (h : j ≤ 1000000) : rng1 [.int j] = some (rangeL 0 j.toNat) := if_pos ⟨h0, h⟩
theorem range_len {lo : Int} {n : Nat} : (rangeL lo n).length = n := by simp [rangeL]
theorem range_mem {lo : Int} {n : Nat} {d : D} (h : d ∈ rangeL lo n) : ∃ k : Nat, k < n ∧ d = .int (lo + k) := by
  unfold rangeL at h
  obtain ⟨k, hk, rfl⟩ := List.mem_map.mp h
  exact ⟨k, List.mem_range.mp hk, rfl⟩
theorem range_get {lo : Int} {n i : Nat} {d : D} (h : (rangeL lo n)[i]? = some d) : i < n ∧ d = .int (lo + i) := by
  unfold rangeL at h
  rw [List.getElem?_map] at h
  by_cases c : i < n
  · rw [List.getElem?_range c] at h
    cases h
    exact ⟨c, rfl⟩
  · rw [List.getElem?_eq_none (by simpa using c)] at h
    cases h
theorem ix_lst {ds : List D} {i : Int} (h0 : 0 ≤ i) (h : i < ds.length) : ixD (.lst ds) (.int i) = some (ds[i.toNat]'(by omega)) := by
  unfold ixD L2.atI ixN
  simp only
  rw [if_pos h0, if_pos h]
  exact List.getElem?_eq_getElem (by omega)
theorem ixN_ok {n : Nat} {i : Int} (h0 : 0 ≤ i) (h : i < n) : ixN n i = some i.toNat := by
  unfold ixN
  rw [if_pos h0, if_pos h]
theorem pop_ok {ds : List D} {i : Int} (h0 : 0 ≤ i) (h : i < ds.length) : popI ds (.int i) = some (ds[i.toNat]'(by omega), ds.eraseIdx i.toNat) := by
  unfold popI
  simp only [ixN_ok h0 h]
  rw [List.getElem?_eq_getElem (by omega)]
  rfl
end DL
namespace FN
open DL
def c_CHARACTERS : D := (.str [48, 49, 50, 51, 52, 53, 54, 55, 56, 57, 97, 98, 99, 100, 101, 102, 103, 104, 105, 106, 107, 108, 109, 110, 111, 112, 113, 114, 115, 116, 117, 118, 119, 120, 121, 122])
def c_LONGEST_LABEL : D := (.int (20))
def b_is_label_344b (a0 : D) : R (Fl Unit Empty) := (do let t16 ← (DL.orM (DL.notM (do let x2 ← (do let x1 ← (pure a0); DL.ask (isiD "str" x1)); DL.ask (truD x2))) (DL.notM (do let x6 ← (chainM leD leD (pure (.int 1)) (do let r5 ← (do let x3 ← (pure a0); let r4 ← pure []; pure (x3 :: r4)); DL.ask (lenD r5)) (pure c_LONGEST_LABEL)); DL.ask (bOf x6)))); seqF (if t16 = true then (do let v8 ← (pure (.bl false)); pure (.rt v8)) else (pure (.nx ()))) fun (a7 : Unit) => (do let v15 ← (notV (mkL (do let r14 ← (do let r9 ← (pure a0); DL.ask (itD r9)); lcF (fun d => some d) (fun (c11 : D) => (do let x12 ← (pure c11); let y13 ← (pure c_CHARACTERS); DL.ask ((notInD x12 y13).bind bOf))) (fun (c11 : D) => (pure c11)) r14))); pure (.rt v15)))
def m_is_label_344b : List D → R D := apR1 fun a0 => runR false (b_is_label_344b a0)
theorem n_is_label_344b : ∀ ds : List D, m_is_label_344b ds ≠ .stuck → ds.length = 1 := apR1_len _
def b__law_bag_fbbe (a0 a1 : D) : R (Fl Unit Empty) := (do let v1 ← (iteM (do let x5 ← (pure a1); let y6 ← (do let r4 ← (do let x2 ← (pure a0); let r3 ← pure []; pure (x2 :: r3)); DL.ask (lenD r4)); DL.ask ((ltD x5 y6).bind bOf)) (do let r11 ← (do let x9 ← (do let x7 ← (pure a0); let y8 ← (pure a1); DL.ask (ixD x7 y8)); let r10 ← pure []; pure (x9 :: r10)); DL.ask (absD r11)) (pure (.int 0))); (do let v12 ← (do let x15 ← (pure (.int 52361)); let y16 ← (do let x13 ← (pure (.int 7919)); let y14 ← (pure a1); DL.ask (mulD x13 y14)); DL.ask (addD x15 y16)); (do let r55 ← (do let r24 ← (do let x22 ← (do let x19 ← (pure a0); let l20 ← (pure none); let u21 ← (do let x17 ← (pure (.int 63)); let i18 ← DL.ask (intOf x17); pure (some i18)); DL.ask (sliceD x19 l20 u21)); let r23 ← pure []; pure (x22 :: r23)); DL.ask (enumOf r24)); seqF (forF un2 (fun (a25 : D) (c26 : D × D) => (do let v27 ← (do let x44 ← (do let r43 ← (do let x41 ← (do let x39 ← (do let x35 ← (do let x28 ← (pure a25); let y29 ← (pure (.int 41358)); DL.ask (mulD x28 y29)); let y36 ← (do let x33 ← (do let r32 ← (do let x30 ← (pure c26.2); let r31 ← pure []; pure (x30 :: r31)); DL.ask (intD r32)); let y34 ← (pure (.int 2147483587)); DL.ask (modD x33 y34)); DL.ask (addD x35 y36)); let y40 ← (do let x37 ← (pure (.int 10007)); let y38 ← (pure c26.1); DL.ask (mulD x37 y38)); DL.ask (addD x39 y40)); let r42 ← pure []; pure (x41 :: r42)); DL.ask (intD r43)); let y45 ← (pure (.int 2147483549)); DL.ask (modD x44 y45)); (pure (.nx v27)))) r55 v12) fun (a46 : D) => (do let v54 ← (do let r53 ← (do let x51 ← (iteM (do let x47 ← (pure v1); let y48 ← (do let x ← (pure (.int 10)); let y ← (pure (.int 18)); DL.ask (powC x y)); DL.ask ((geD x47 y48).bind bOf)) (pure v1) (pure (.int 0))); let r52 ← (do let x49 ← (pure a46); let r50 ← pure []; pure (x49 :: r50)); pure (x51 :: r52)); DL.ask (szL r53)); pure (.rt (.lst v54))))))
def m__law_bag_fbbe : List D → R D := apR2 fun a0 a1 => runR true (b__law_bag_fbbe a0 a1)
theorem n__law_bag_fbbe : ∀ ds : List D, m__law_bag_fbbe ds ≠ .stuck → ds.length = 2 := apR2_len _
def b__law_take_6859 (a1 : D) : M (Fl Unit Empty) := (do let t40 ← (do let x1 ← bagX; let y2 ← (pure (.int 0)); DL.ask ((gtD x1 y2).bind bOf)); seqF (if t40 = true then (do let v4 ← (do let x8 ← (do let r7 ← (do let x5 ← bagX; let r6 ← pure []; pure (x5 :: r6)); DL.ask (intD r7)); let y9 ← (pure a1); DL.ask (modD x8 y9)); (do let v10 ← (do let x11 ← bagX; let y12 ← (pure a1); DL.ask (fdivD x11 y12)); let i13 ← DL.ask (intOf v10); bagSetX i13; (do let v14 ← (pure v4); pure (.rt v14)))) else (pure (.nx ()))) fun (a3 : Unit) => (do let v15 ← (do let x23 ← (do let r22 ← (do let x20 ← (do let x18 ← (do let x16 ← bagY; let y17 ← (pure (.int 69621)); DL.ask (mulD x16 y17)); let y19 ← (pure (.int 30011)); DL.ask (addD x18 y19)); let r21 ← pure []; pure (x20 :: r21)); DL.ask (intD r22)); let y24 ← (pure (.int 2147483543)); DL.ask (modD x23 y24)); let i25 ← DL.ask (intOf v15); bagSetY i25; (do let v39 ← (do let x37 ← (do let x35 ← (do let x33 ← (do let r32 ← (do let x30 ← (do let x28 ← (do let x26 ← bagY; let y27 ← (pure (.int 7)); DL.ask (fdivD x26 y27)); let y29 ← (pure (.int 16807)); DL.ask (mulD x28 y29)); let r31 ← pure []; pure (x30 :: r31)); DL.ask (intD r32)); let y34 ← (pure (.int 2147483647)); DL.ask (modD x33 y34)); let y36 ← (pure (.int 128)); DL.ask (fdivD x35 y36)); let y38 ← (pure a1); DL.ask (modD x37 y38)); pure (.rt v39))))
def m__law_take_6859 : List D → M D := apM1 fun a1 => runM false (b__law_take_6859 a1)
theorem n__law_take_6859 : ∀ ds s, m__law_take_6859 ds s ≠ .stuck → ds.length = 1 := apM1_len _
def b__law_of_bf28 (a1 : D) : M (Fl Unit Empty) := (do let v9 ← (do let x7 ← (pure a1); let y8 ← (do let r6 ← (do let x4 ← (do let r3 ← (do let x1 ← (pure a1); let r2 ← pure []; pure (x1 :: r2)); DL.ask (lenD r3)); let r5 ← pure []; pure (x4 :: r5)); m__law_take_6859 r6); DL.ask (ixD x7 y8)); pure (.rt v9))
def m__law_of_bf28 : List D → M D := apM1 fun a1 => runM false (b__law_of_bf28 a1)
theorem n__law_of_bf28 : ∀ ds s, m__law_of_bf28 ds s ≠ .stuck → ds.length = 1 := apM1_len _
theorem take_ok {n : Int} (h0 : 0 < n) (h1 : n < 4294967296) : Ok (m__law_take_6859 [.int n]) fun d => ∃ i, d = .int i ∧ 0 ≤ i ∧ i < n := by
  refine ok_runM ?_
  unfold b__law_take_6859
  simp only [pure_bind, bind_assoc]
  refine ok_bind (ok_bagX fun i => ?_)
  simp only [gt_ii, Option.bind_some, bOf_bl, askM, pure_bind]
  have hm : ∀ j : Int, FlQ false (fun d => ∃ i, d = .int i ∧ 0 ≤ i ∧ i < n) (.rt (.int (j % n))) := fun j => ⟨_, rfl, Int.emod_nonneg _ (by omega), Int.emod_lt_of_pos _ h0⟩
  refine ok_seq (ok_ite (fun _ => ?_) fun _ => ok_pure ?_)
  · refine ok_bind (ok_bagX fun i => ?_)
    simp only [int_int, askM, pure_bind, mod_ii h0]
    refine ok_bind (ok_bagX fun j => ?_)
    simp only [fdiv_ii h0 (by omega), askM, pure_bind, int_of]
    exact ok_bind (ok_setX (ok_pure (hm _)))
  · show Ok _ _
    refine ok_bind (ok_bagY fun i h2 h3 => ?_)
    simp only [mul_ii (i := i) (j := 69621) (by omega) (by omega), askM, pure_bind, add_ii, int_int, mod_ii (j := 2147483543) (by omega), int_of]
    refine ok_bind (ok_setY (Int.emod_nonneg _ (by omega)) (Int.lt_trans (Int.emod_lt_of_pos _ (by omega)) (by omega)) ?_)
    refine ok_bind (ok_bagY fun j h4 h5 => ?_)
    simp only [fdiv_ii (i := j) (j := 7) (by omega) (by omega), askM, pure_bind]
    have hj : (j / 7).natAbs < 2 ^ 64 := by omega
    simp only [mul_ii (i := j / 7) (j := 16807) hj (by omega), askM, pure_bind, int_int, mod_ii (j := 2147483647) (by omega), fdiv_ii (j := 128) (by omega) (by omega), mod_ii h0]
    exact ok_pure (hm _)
theorem bag_ok (ns : List Int) {i : Int} (h0 : 0 ≤ i) (h1 : i < 1000) : OkR (m__law_bag_fbbe [.scr ns, .int i]) fun d => ∃ x y, d = .lst [.int x, .int y] ∧ 0 ≤ y ∧ y < 4294967296 := by
  refine okr_runR ?_
  unfold b__law_bag_fbbe
  have hx : ∃ x : Int, iteM (m := R) (do let x5 ← (pure (.int i)); let y6 ← (do let r4 ← (do let x2 ← (pure (.scr ns)); let r3 ← pure []; pure (x2 :: r3)); DL.ask (lenD r4)); DL.ask ((ltD x5 y6).bind bOf)) (do let r11 ← (do let x9 ← (do let x7 ← (pure (.scr ns)); let y8 ← (pure (.int i)); DL.ask (ixD x7 y8)); let r10 ← pure []; pure (x9 :: r10)); DL.ask (absD r11)) (pure (.int 0)) = .ok (.int x) := by
    simp only [iteM, R.pure_eq, R.bind_eq, R.bd, len_scr, ask_some, lt_ii, Option.bind_some, bOf_bl]
    by_cases c : i < (ns.length : Int)
    · rw [if_pos (by simpa using c)]
      have e : ixD (.scr ns) (.int i) = some (.int (ns[i.toNat]'(by omega))) := by
        unfold ixD L2.atI
        simp only [ixN_ok h0 c]
        show Option.map D.int (ns[i.toNat]?) = _
        rw [List.getElem?_eq_getElem (by omega)]
        rfl
      rw [e]
      exact ⟨_, rfl⟩
    · rw [if_neg (by simpa using c)]
      exact ⟨_, rfl⟩
  obtain ⟨x, hx⟩ := hx
  rw [hx]
  simp only [R.pure_eq, R.bind_eq, R.bd, mul_ii (i := 7919) (j := i) (by omega) (by omega), ask_some, add_ii, int_of, sliceD, enumOf]
  have hz : (cutL ns none (some 63)).length ≤ 63 := by
    unfold cutL
    have e1 : HT.sIx ns.length 0 none = 0 := rfl
    have e2 : HT.sIx ns.length ns.length (some 63) ≤ 63 := by unfold HT.sIx; simp only; split <;> omega
    rw [List.length_take]
    omega
  refine okr_seq (okr_for (fun _ a => ∃ m : Int, a = .int m ∧ 0 ≤ m ∧ m < 4294967296) _ _ ⟨_, rfl, by omega, by omega⟩ ?_ ?_)
  · rintro k d a hd ⟨m, rfl, h2, h3⟩
    unfold enumL at hd
    rw [List.getElem?_mapIdx, List.getElem?_map] at hd
    cases e : (cutL ns none (some 63))[k]? with
    | none => rw [e] at hd; cases hd
    | some z =>
      rw [e] at hd
      cases hd
      have hk : k < 63 := Nat.lt_of_lt_of_le (List.getElem?_eq_some_iff.mp e).1 hz
      refine ⟨(.int (k : Int), .int z), rfl, ?_⟩
      simp only [mul_ii (i := m) (j := 41358) (by omega) (by omega), ask_some, R.bd, int_int, mod_ii (j := 2147483587) (by omega), add_ii, mul_ii (i := 10007) (j := (k : Int)) (by omega) (by omega), mod_ii (j := 2147483549) (by omega)]
      exact okr_pure ⟨_, rfl, Int.emod_nonneg _ (by omega), Int.lt_trans (Int.emod_lt_of_pos _ (by omega)) (by omega)⟩
  · rintro a ⟨m, rfl, h2, h3⟩
    show OkR _ _
    have e3 : powC (.int 10) (.int 18) = some (.int 1000000000000000000) := rfl
    simp only [e3, ask_some, R.bd, iteM, R.bind_eq, R.pure_eq, ge_ii, Option.bind_some, bOf_bl]
    by_cases c : (1000000000000000000 : Int) ≤ x
    · rw [if_pos (by simpa using c)]
      exact okr_pure ⟨_, _, rfl, h2, h3⟩
    · rw [if_neg (by simpa using c)]
      exact okr_pure ⟨_, _, rfl, h2, h3⟩
theorem of_ok {ds : List D} (h0 : ds ≠ []) (h1 : ds.length ≤ 1000000) : Ok (m__law_of_bf28 [.lst ds]) fun d => d ∈ ds := by
  refine ok_runM ?_
  unfold b__law_of_bf28
  have hp : 0 < ds.length := List.length_pos_iff.mpr h0
  simp only [pure_bind, bind_assoc, len_lst, askM]
  refine ok_then (take_ok (n := ds.length) (by omega) (by omega)) ?_
  rintro d ⟨i, rfl, h2, h3⟩
  simp only [ix_lst h2 h3, askM, pure_bind]
  exact ok_pure (List.getElem_mem _)
theorem erase_map {α β : Type} (f : α → β) (l : List α) (i : Nat) : (l.map f).eraseIdx i = (l.eraseIdx i).map f := by
  rw [List.eraseIdx_eq_take_drop_succ, List.eraseIdx_eq_take_drop_succ, List.map_append, List.map_take, List.map_drop]
def CH : List Nat := [48, 49, 50, 51, 52, 53, 54, 55, 56, 57, 97, 98, 99, 100, 101, 102, 103, 104, 105, 106, 107, 108, 109, 110, 111, 112, 113, 114, 115, 116, 117, 118, 119, 120, 121, 122]
theorem list_str {s : List Nat} : listD [.str s] = some (chrs s) := rfl
theorem chrs_len {s : List Nat} : (chrs s).length = s.length := by simp [chrs]
def isLab (n : Nat) (z : List Nat) : Bool := decide (1 ≤ z.length) && (decide (z.length ≤ n) && z.all fun c => decide (c ∈ CH))
def labD : D → Bool
  | .str z => isLab 20 z
  | _ => false
theorem labD_str {z : List Nat} : labD (.str z) = isLab 20 z := rfl
def isStr : D → Bool
  | .str _ => true
  | _ => false
theorem isi_str {d : D} {T : String} (h : tyD d = some T) : isiD "str" d = some (.bl (isStr d)) := by
  cases d with
  | non => exact congrArg (Option.map D.bl) (show L2.kitB "NoneType" "str" = some false by decide +kernel)
  | bl _ => exact congrArg (Option.map D.bl) (show L2.kitB "bool" "str" = some false by decide +kernel)
  | int _ => exact congrArg (Option.map D.bl) (show L2.kitB "int" "str" = some false by decide +kernel)
  | str _ => exact congrArg (Option.map D.bl) (show L2.kitB "str" "str" = some true by decide +kernel)
  | tup _ => exact congrArg (Option.map D.bl) (show L2.kitB "tuple" "str" = some false by decide +kernel)
  | lst _ => exact congrArg (Option.map D.bl) (show L2.kitB "list" "str" = some false by decide +kernel)
  | scr _ => exact congrArg (Option.map D.bl) (show L2.kitB "list" "str" = some false by decide +kernel)
  | dic _ _ => exact congrArg (Option.map D.bl) (show L2.kitB "dict" "str" = some false by decide +kernel)
  | ndc _ _ => cases h
  | ins _ _ _ => cases h
  | xc _ _ _ _ => cases h
theorem chrs_mem {z : List Nat} {d : D} (h : d ∈ chrs z) : ∃ c ∈ z, d = .str [c] := by
  obtain ⟨c, m, rfl⟩ := List.mem_map.mp h
  exact ⟨c, m, rfl⟩
def sgn : D → Nat
  | .str [c] => c
  | _ => 0
theorem filter_chrs (p : Nat → Bool) : ∀ z : List Nat, (chrs z).filter (fun d => p (sgn d)) = chrs (z.filter p)
  | [] => rfl
  | c :: z => by
    show ((D.str [c]) :: chrs z).filter (fun d => p (sgn d)) = _
    rw [List.filter_cons, List.filter_cons, filter_chrs p z]
    show (if p c = true then _ else _) = _
    cases p c <;> rfl
theorem filter_none {α : Type} (p : α → Bool) (z : List α) : (z.filter fun c => !p c).isEmpty = z.all p := by
  induction z with
  | nil => rfl
  | cons c z ih =>
    rw [List.filter_cons, List.all_cons, ← ih]
    cases p c <;> rfl
theorem chrs_empty (z : List Nat) : (chrs z).isEmpty = z.isEmpty := by cases z <;> rfl
theorem is_label_ok {d : D} {T : String} (h : tyD d = some T) : m_is_label_344b [d] = .ok (.bl (labD d)) := by
  unfold m_is_label_344b apR1 b_is_label_344b
  simp only [R.pure_eq, R.bind_eq, R.bd, isi_str h, ask_some, tru_bl, DL.orM, DL.notM]
  cases d with
  | str z =>
    simp only [isStr, Bool.not_true, Bool.false_eq_true, if_false, chainM, R.pure_eq, R.bind_eq, R.bd, len_str, ask_some, le_ii, Option.bind_some, bOf_bl, c_LONGEST_LABEL]
    by_cases h1 : 1 ≤ z.length
    · have e1 : decide ((1 : Int) ≤ (z.length : Int)) = true := decide_eq_true (by omega)
      simp only [e1, if_true, R.bd, ask_some, bOf_bl]
      by_cases h2 : z.length ≤ 20
      · have e2 : decide ((z.length : Int) ≤ 20) = true := decide_eq_true (by omega)
        simp only [e2, Bool.not_true, Bool.false_eq_true, if_false, seqR_nx, it_str, ask_some, R.bd]
        rw [lcR (c := fun d => d) (p := fun d => !decide (sgn d ∈ CH)) (f := fun d => d) _ (fun _ _ => rfl) (fun d m => ?_) (fun _ _ _ => rfl)]
        · rw [filter_chrs (fun c => !decide (c ∈ CH))]
          simp only [List.map_id', mkL_R, notV, R.bind_eq, R.bd, tru_lst, ask_some, R.pure_eq, runR_rt, chrs_empty, filter_none, Bool.not_not]
          rw [labD_str]
          unfold isLab
          rw [decide_eq_true h1, decide_eq_true h2]
          rfl
        · obtain ⟨c, _, rfl⟩ := chrs_mem m
          rfl
      · have e2 : decide ((z.length : Int) ≤ 20) = false := decide_eq_false (by omega)
        simp only [e2, Bool.not_false, if_true, seqR_rt, runR_rt]
        rw [labD_str]
        unfold isLab
        rw [decide_eq_true h1, decide_eq_false h2]
        rfl
    · have e1 : decide ((1 : Int) ≤ (z.length : Int)) = false := decide_eq_false (by omega)
      simp only [e1, Bool.false_eq_true, if_false, R.bd, ask_some, bOf_bl, Bool.not_false, if_true, seqR_rt, runR_rt]
      rw [labD_str]
      unfold isLab
      rw [decide_eq_false h1]
      rfl
  | ins _ _ _ => cases h
  | xc _ _ _ _ => cases h
  | _ => rfl
end FN
namespace DL
open PySem
theorem ok_seqP {α β γ : Type} {x : M (Fl α β)} {k : α → M (Fl γ β)} {Q : Fl γ β → Prop} (P : α → Prop) (h : Ok x (SeqQ P Q)) (w : ∀ a, P a → Ok (k a) Q) : Ok (seqF x k) Q := ok_seq (ok_mono h fun f q => by
  cases f with
  | nx a => exact w a q
  | rt d => exact q
  | bk b => exact q
  | ct b => exact q)
theorem askR {α : Type} {a : α} : (ask (some a) : R α) = pure a := rfl
theorem okpR {α : Type} {a : α} : (R.ok a) = (pure a : R α) := rfl
theorem lift_pR {α : Type} {a : R α} : (Mo.lift a : R α) = a := rfl
theorem okr_p {α : Type} {a : α} {Q : α → Prop} (h : Q a) : OkR (pure a : R α) Q := ⟨a, rfl, h⟩
theorem lc_map {xe : D → R D} (f : D → D) (ds : List D) (h : ∀ d ∈ ds, xe d = pure (f d)) : lcF (fun d => some d) (fun _ => (pure true : R Bool)) xe ds = pure (ds.map f) := by
  have e := lcR (u := fun d => some d) (xt := fun _ => .ok true) (xe := xe) (c := fun d => d) (p := fun _ => true) (f := f) ds (fun _ _ => rfl) (fun _ _ => rfl) (fun d m _ => h d m)
  rw [List.filter_eq_self.mpr (fun _ _ => rfl)] at e
  exact e
theorem mul_s {a : List Nat} {k : Nat} (h0 : k < 1000000) (h : a.length * k ≤ 1000000) : mulD (.str a) (.int k) = some (.str (List.replicate k a).flatten) := by
  have e : ∀ i : Int, mulD (.str a) (.int i) = if 0 ≤ i ∧ i < 1000000 ∧ a.length * i.toNat ≤ 1000000 then some (.str (List.replicate i.toNat a).flatten) else none := fun i => rfl
  rw [e, Int.toNat_natCast, if_pos ⟨by omega, by omega, h⟩]
theorem rep_mem {α : Type} {a : List α} {c : α} : ∀ {k : Nat}, c ∈ (List.replicate k a).flatten → c ∈ a
  | 0, h => by simp at h
  | k + 1, h => by
    rw [List.replicate_succ, List.flatten_cons] at h
    rcases List.mem_append.mp h with h | h
    · exact h
    · exact rep_mem h
def Tx (n : Nat) (z : List Nat) : Prop := z.length ≤ n ∧ ∀ c ∈ z, c < 1114112
theorem Tx.up {n m : Nat} {z : List Nat} (h : Tx n z) (w : n ≤ m) : Tx m z := ⟨Nat.le_trans h.1 w, h.2⟩
theorem Tx.app {n m : Nat} {a b : List Nat} (h : Tx n a) (k : Tx m b) : Tx (n + m) (a ++ b) := ⟨by rw [List.length_append]; exact Nat.add_le_add h.1 k.1, fun c hc => by
  rcases List.mem_append.mp hc with hc | hc
  · exact h.2 c hc
  · exact k.2 c hc⟩
theorem cutL_mem {α : Type} {z : List α} {lo hi : Option Int} {c : α} (h : c ∈ cutL z lo hi) : c ∈ z := by
  unfold cutL at h
  exact List.mem_of_mem_drop (List.mem_of_mem_take h)
theorem add_ss {a b : List Nat} (h : a.length + b.length ≤ 1000000) : addD (.str a) (.str b) = some (.str (a ++ b)) := if_pos (by rw [sizeLine_eq]; omega)
theorem add_ll {a b : List D} (h : a.length + b.length ≤ 1000000) : addD (.lst a) (.lst b) = some (.lst (a ++ b)) := if_pos (by rw [sizeLine_eq]; omega)
@[simp] theorem slice_s {z : List Nat} {lo hi : Option Int} : sliceD (.str z) lo hi = some (.str (cutL z lo hi)) := rfl
@[simp] theorem slice_l {z : List D} {lo hi : Option Int} : sliceD (.lst z) lo hi = some (.lst (cutL z lo hi)) := rfl
theorem cut_hi {α : Type} {z : List α} {i : Int} (h : 0 ≤ i) : cutL z none (some i) = z.take i.toNat := by
  unfold cutL
  have e1 : HT.sIx z.length 0 none = 0 := rfl
  have e2 : HT.sIx z.length z.length (some i) = min i.toNat z.length := by
    unfold HT.sIx
    simp only
    split <;> omega
  rw [e1, e2, List.drop_zero, Nat.sub_zero, List.take_eq_take_iff]
  omega
theorem cut_lo {α : Type} {z : List α} {i : Int} (h : 0 ≤ i) : cutL z (some i) none = z.drop i.toNat := by
  unfold cutL
  have e1 : HT.sIx z.length z.length none = z.length := rfl
  have e2 : HT.sIx z.length 0 (some i) = min i.toNat z.length := by
    unfold HT.sIx
    simp only
    split <;> omega
  rw [e1, e2]
  by_cases c : i.toNat ≤ z.length
  · rw [Nat.min_eq_left c, List.take_of_length_le (by simp)]
  · rw [Nat.min_eq_right (by omega), List.drop_eq_nil_of_le (Nat.le_refl _), List.drop_eq_nil_of_le (by omega)]
    simp
theorem joinN_nil : ∀ ps : List (List Nat), joinN [] ps = ps.flatten
  | [] => rfl
  | [p] => by simp [joinN]
  | p :: q :: r => by rw [joinN, joinN_nil (q :: r)]; simp
theorem strs_map : ∀ ps : List (List Nat), strsOf (ps.map .str) = some ps
  | [] => rfl
  | p :: ps => by
    show (strsOf (ps.map .str)).map (p :: ·) = _
    rw [strs_map ps]
    rfl
theorem join_ok {S : List Nat} {ps : List (List Nat)} (h : (ps.map (·.length)).sum + ps.length * S.length ≤ 16777216) : joinD (.str S) (.lst (ps.map .str)) = some (.str (joinN S ps)) := by
  unfold joinD
  show (match strsOf (ps.map .str) with | some ps => _ | none => _) = _
  rw [strs_map]
  exact if_pos h
theorem flat_ones : ∀ z : List Nat, (z.map fun c => [c]).flatten = z
  | [] => rfl
  | c :: z => by simp [flat_ones z]
theorem sum_ones : ∀ z : List Nat, ((z.map fun c => [c]).map (·.length)).sum = z.length
  | [] => rfl
  | c :: z => by rw [List.map_cons, List.map_cons, List.sum_cons, sum_ones z]; simp; omega
theorem join_chrs {z : List Nat} (h : z.length ≤ 1000000) : joinD (.str []) (.lst (chrs z)) = some (.str z) := by
  have e : chrs z = (z.map fun c => [c]).map .str := by unfold chrs; rw [List.map_map]; rfl
  rw [e, join_ok, joinN_nil, flat_ones]
  rw [sum_ones]
  simp
  omega
theorem drawn_chrs {α : Type} {cs : List Nat} : ∀ {xs : List α} {rs : List D}, All2 (fun _ r => r ∈ chrs cs) xs rs → ∃ z, rs = chrs z ∧ z.length = xs.length ∧ ∀ c ∈ z, c ∈ cs
  | _, _, .nil => ⟨[], rfl, rfl, by simp⟩
  | _, _, .cons h t => by
    obtain ⟨z, rfl, e, hz⟩ := drawn_chrs t
    obtain ⟨c, m, rfl⟩ := List.mem_map.mp h
    refine ⟨c :: z, rfl, by simp [e], fun x hx => ?_⟩
    rcases List.mem_cons.mp hx with rfl | hx
    · exact m
    · exact hz x hx
theorem repr_ex {d : D} {p : PyData} (h : toPy d = some p) (h1 : p.layable0 = true) (h2 : p.intsShort 13 = true) (h3 : p.showable = true) (h4 : p.depth ≤ 60) : ∃ s, reprD [d] = some (.str s) := by
  unfold reprD
  simp only [h]
  refine ⟨_, if_pos ?_⟩
  simp only [Bool.and_eq_true, Bool.not_eq_true', decide_eq_true_eq]
  refine ⟨⟨⟨h3, PyData.hasDict_of_layable h1⟩, h4⟩, ?_⟩
  have := PyProof.Rows.shown_le13 h1 h2
  rw [sizeLine_eq]
  omega
theorem toPyL_strs : ∀ zs : List (List Nat), toPyL (zs.map .str) = some (zs.map fun z => .str ⟨z.toArray⟩)
  | [] => by simp [toPyL]
  | z :: zs => by simp [toPyL, toPy, toPyL_strs zs]
theorem lay_strs : ∀ {zs : List (List Nat)}, (∀ z ∈ zs, Tx 1000 z) → PyData.canLayAll0 (zs.map fun z => .str ⟨z.toArray⟩) = true ∧ PyData.depthAll (zs.map fun z => .str ⟨z.toArray⟩) = 0 ∧ PyData.weightAll (zs.map fun z => .str ⟨z.toArray⟩) ≤ zs.length * 1001 ∧ PyData.intsShortAll 13 (zs.map fun z => .str ⟨z.toArray⟩) = true ∧ PyData.showableAll (zs.map fun z => .str ⟨z.toArray⟩) = true
  | [], _ => by simp [PyData.canLayAll0, PyData.depthAll, PyData.weightAll, PyData.intsShortAll, PyData.showableAll]
  | z :: zs, h => by
    obtain ⟨h1, h2, h3, h4, h5⟩ := lay_strs fun x m => h x (.tail _ m)
    have hz := h z (.head _)
    refine ⟨?_, ?_, ?_, ?_, ?_⟩
    · rw [List.map_cons, PyData.canLayAll0, h1]
      simp only [PyData.canLay0, Bool.and_true, PyData.strOk]
      simpa using hz.2
    · rw [List.map_cons, PyData.depthAll, h2, PyData.depth]; rfl
    · rw [List.map_cons, PyData.weightAll, PyData.weight, List.length_cons]
      have := hz.1
      simp only [List.size_toArray]
      omega
    · rw [List.map_cons, PyData.intsShortAll, h4, PyData.intsShort]; rfl
    · rw [List.map_cons, PyData.showableAll, h5, PyData.showable]; rfl
theorem str_beq (a b : List Nat) : PyData.eqv (.str ⟨a.toArray⟩) (.str ⟨b.toArray⟩) = decide (a = b) := by
  rw [PyData.eqv]
  by_cases h : a = b
  · subst h
    simp
  · rw [decide_eq_false h]
    have : (⟨a.toArray⟩ : Str) ≠ ⟨b.toArray⟩ := fun z => by
      have z2 : a.toArray = b.toArray := Str.mk.inj z
      exact h (by simpa using z2)
    simpa using this
theorem any_strs (a : List Nat) : ∀ zs : List (List Nat), ((zs.map fun z => PyData.str ⟨z.toArray⟩).any fun z => PyData.eqv z (.str ⟨a.toArray⟩)) = decide (a ∈ zs)
  | [] => rfl
  | z :: zs => by
    rw [List.map_cons, List.any_cons, any_strs a zs, str_beq]
    by_cases h : a = z
    · subst h; simp
    · have h' : ¬ z = a := fun e => h e.symm
      simp [h, h']
theorem shaped_str {n : Nat} {a : List Nat} (h : Tx n a) : SeqAt.shaped (.str ⟨a.toArray⟩) = true := by
  unfold SeqAt.shaped
  simp only [PyData.canLay0, PyData.strOk, PyData.depth]
  simpa using h.2
theorem shaped_strs {zs : List (List Nat)} (h : ∀ z ∈ zs, Tx 1000 z) : SeqAt.shaped (.list (zs.map fun z => .str ⟨z.toArray⟩)) = true ∧ SeqAt.shaped (.tuple (zs.map fun z => .str ⟨z.toArray⟩)) = true := by
  obtain ⟨h1, h2, _⟩ := lay_strs h
  unfold SeqAt.shaped
  simp only [PyData.canLay0, h1, PyData.depth, h2]
  exact ⟨rfl, rfl⟩
theorem in_strs {n : Nat} {a : List Nat} {zs : List (List Nat)} (ha : Tx n a) (h : ∀ z ∈ zs, Tx 1000 z) : inD (.str a) (.lst (zs.map .str)) = some (.bl (decide (a ∈ zs))) := by
  have e : inP (.str a) (.lst (zs.map .str)) = some (decide (a ∈ zs)) := by
    unfold inP
    split
    · rename_i q; cases q
    · rename_i ds _ q
      cases q
      rw [toPy, toPy, toPyL_strs]
      simp only [Option.map_some, shaped_str ha, (shaped_strs h).1, Bool.and_self, if_true, any_strs]
    · rename_i q; cases q
    · rename_i q _ _; exact absurd rfl (q _)
  unfold inD
  rw [e]
  rfl
theorem bols_map {α : Type} (f : α → Bool) : ∀ xs : List α, bolsOf (xs.map fun x => .bl (f x)) = some (xs.map f)
  | [] => rfl
  | x :: xs => by
    show (bolsOf _).map (_ :: ·) = _
    rw [bols_map f xs]
    rfl
theorem all_map {α : Type} (f : α → Bool) (xs : List α) : allD [.lst (xs.map fun x => .bl (f x))] = some (.bl (xs.all f)) := by
  unfold allD
  simp only [bols_map, Option.map_some, List.all_map]
  rfl
end DL
namespace DL
open PySem
mutual
def wt : D → Nat
  | .str z => z.length
  | .tup ds => wtL ds + 1
  | .lst ds => wtL ds + 1
  | .int _ => 70
  | _ => 1
def wtL : List D → Nat
  | [] => 0
  | d :: ds => wt d + 1 + wtL ds
end
mutual
def nic : Nat → D → Bool
  | _, .non => true
  | _, .bl _ => true
  | _, .int i => decide (i.natAbs < 10 ^ 20)
  | _, .str z => z.all fun c => decide (c < 1114112)
  | n + 1, .tup ds => nicL n ds
  | n + 1, .lst ds => nicL n ds
  | _, _ => false
def nicL : Nat → List D → Bool
  | _, [] => true
  | n, d :: ds => nic n d && nicL n ds
end
mutual
def py : D → PyData
  | .non => .none
  | .bl b => .bool b
  | .int i => .int i
  | .str s => .str ⟨s.toArray⟩
  | .tup ds => .tuple (pyL ds)
  | .lst ds => .list (pyL ds)
  | _ => .none
def pyL : List D → List PyData
  | [] => []
  | d :: ds => py d :: pyL ds
end
mutual
def deq : D → D → Bool
  | .non, .non => true
  | .bl a, .bl b => a == b
  | .bl a, .int j => (if a then 1 else 0) == j
  | .int i, .bl b => i == (if b then 1 else 0)
  | .int i, .int j => i == j
  | .str x, .str y => decide (x = y)
  | .lst xs, .lst ys => deqL xs ys
  | .tup xs, .tup ys => deqL xs ys
  | _, _ => false
def deqL : List D → List D → Bool
  | [], [] => true
  | x :: xs, y :: ys => deq x y && deqL xs ys
  | _, _ => false
end
theorem int20 {i : Int} (h : i.natAbs < 10 ^ 20) : i.natAbs.log2 < 67 := PySem.Flt.log2_lt_of (k := 67) (by decide) (Nat.lt_of_lt_of_le h (by decide))
theorem shown20 {i : Int} (h : i.natAbs < 10 ^ 20) : (PyData.shown (.int i)).length ≤ 21 := by
  have e := int_text_length_le10 (k := 20) (by decide) h
  show (Str.ofString (toString i)).length ≤ 21
  rw [ofString_length]; exact e
structure NicP (n : Nat) (w : Nat) (p : PyData) : Prop where
  lay : p.canLay0 = true
  dep : p.depth ≤ n
  sho : p.showable = true
  lea : p.leavesShort 25 = true
  wei : p.weight ≤ w
  nod : p.hasDict = false
structure NicL (n : Nat) (w : Nat) (p : List PyData) : Prop where
  lay : PyData.canLayAll0 p = true
  dep : PyData.depthAll p ≤ n
  sho : PyData.showableAll p = true
  lea : PyData.leavesShortAll 25 p = true
  wei : PyData.weightAll p ≤ w
  nod : PyData.hasDictAll p = false
mutual
theorem nic_ok : ∀ (n : Nat) (d : D), nic n d = true → toPy d = some (py d) ∧ NicP n (wt d) (py d)
  | n, .non, _ => ⟨by simp [toPy, py], by constructor <;> simp [py, PyData.canLay0, PyData.depth, PyData.showable, PyData.leavesShort, PyData.weight, PyData.hasDict, wt]⟩
  | n, .bl _, _ => ⟨by simp [toPy, py], by constructor <;> simp [py, PyData.canLay0, PyData.depth, PyData.showable, PyData.leavesShort, PyData.weight, PyData.hasDict, wt]⟩
  | n, .int i, h => by
    have h' : i.natAbs < 10 ^ 20 := by simpa [nic] using h
    have hl := int20 h'
    refine ⟨by simp [toPy, py], ?_⟩
    constructor <;> simp [py, PyData.canLay0, PyData.depth, PyData.showable, PyData.leavesShort, PyData.hasDict]
    · omega
    · have := shown20 h'; omega
    · simp only [PyData.weight, wt]
      split <;> omega
  | n, .str z, h => by
    have h' : ∀ c ∈ z, c < 1114112 := by simpa [nic] using h
    refine ⟨by simp [toPy, py], ?_⟩
    constructor <;> simp [py, PyData.canLay0, PyData.depth, PyData.showable, PyData.leavesShort, PyData.hasDict, PyData.strOk, PyData.weight, wt]
    · exact h'
    · intro c hc; have := h' c hc; omega
  | n + 1, .tup ds, h => by
    obtain ⟨e, q⟩ := nicL_ok n ds (by simpa [nic] using h)
    refine ⟨by rw [toPy, e]; simp [py], ?_⟩
    constructor <;> simp only [py, PyData.canLay0, PyData.depth, PyData.showable, PyData.leavesShort, PyData.hasDict, PyData.weight, wt]
    · exact q.lay
    · exact Nat.succ_le_succ q.dep
    · exact q.sho
    · exact q.lea
    · exact Nat.le_succ_of_le q.wei
    · exact q.nod
  | n + 1, .lst ds, h => by
    obtain ⟨e, q⟩ := nicL_ok n ds (by simpa [nic] using h)
    refine ⟨by rw [toPy, e]; simp [py], ?_⟩
    constructor <;> simp only [py, PyData.canLay0, PyData.depth, PyData.showable, PyData.leavesShort, PyData.hasDict, PyData.weight, wt]
    · exact q.lay
    · exact Nat.succ_le_succ q.dep
    · exact q.sho
    · exact q.lea
    · exact Nat.le_succ_of_le q.wei
    · exact q.nod
  | 0, .tup _, h => by simp [nic] at h
  | 0, .lst _, h => by simp [nic] at h
  | n, .dic _ _, h => by simp [nic] at h
  | n, .ndc _ _, h => by simp [nic] at h
  | n, .ins _ _ _, h => by simp [nic] at h
  | n, .scr _, h => by simp [nic] at h
  | n, .xc _ _ _ _, h => by simp [nic] at h
theorem nicL_ok : ∀ (n : Nat) (ds : List D), nicL n ds = true → toPyL ds = some (pyL ds) ∧ NicL n (wtL ds) (pyL ds)
  | n, [], _ => ⟨by simp [toPyL, pyL], by constructor <;> simp [pyL, PyData.canLayAll0, PyData.depthAll, PyData.showableAll, PyData.leavesShortAll, PyData.weightAll, PyData.hasDictAll, wtL]⟩
  | n, d :: ds, h => by
    have h' : nic n d = true ∧ nicL n ds = true := by simpa [nicL] using h
    obtain ⟨e1, q1⟩ := nic_ok n d h'.1
    obtain ⟨e2, q2⟩ := nicL_ok n ds h'.2
    refine ⟨by simp [toPyL, e1, e2, pyL], ?_⟩
    have := q1.wei
    have := q2.wei
    have := q1.dep
    have := q2.dep
    constructor <;> simp only [pyL, PyData.canLayAll0, PyData.depthAll, PyData.showableAll, PyData.leavesShortAll, PyData.weightAll, PyData.hasDictAll, wtL]
    · rw [q1.lay, q2.lay]; rfl
    · omega
    · rw [q1.sho, q2.sho]; rfl
    · rw [q1.lea, q2.lea]; rfl
    · omega
    · rw [q1.nod, q2.nod]; rfl
end
theorem repr_nic {n : Nat} {d : D} (h : nic n d = true) (hn : n ≤ 60) (w : wt d ≤ 500000) : ∃ s, reprD [d] = some (.str s) := by
  obtain ⟨e, q⟩ := nic_ok n d h
  unfold reprD
  simp only [e]
  refine ⟨_, if_pos ?_⟩
  simp only [Bool.and_eq_true, Bool.not_eq_true', decide_eq_true_eq]
  refine ⟨⟨⟨q.sho, q.nod⟩, Nat.le_trans q.dep hn⟩, ?_⟩
  have h1 := PyData.shown_le 25 (by decide) (py d) q.lea
  have h2 := q.wei
  rw [sizeLine_eq]
  omega
theorem shaped_nic {n : Nat} {d : D} (h : nic n d = true) (hn : n ≤ 60) : toPy d = some (py d) ∧ SeqAt.shaped (py d) = true := by
  obtain ⟨e, q⟩ := nic_ok n d h
  refine ⟨e, ?_⟩
  unfold SeqAt.shaped
  rw [q.lay]
  have := q.dep
  simp only [Bool.true_and, decide_eq_true_eq]
  omega
theorem str_eqv (x y : List Nat) : ((⟨x.toArray⟩ : Str) == ⟨y.toArray⟩) = decide (x = y) := by
  have := str_beq x y
  rw [PyData.eqv] at this
  exact this
mutual
theorem deq_py : ∀ (n m : Nat) (a b : D), nic n a = true → nic m b = true → PyData.eqv (py a) (py b) = deq a b
  | n, m, .non, b, _, hb => by cases b <;> simp [py, PyData.eqv, deq] <;> simp [nic] at hb
  | n, m, .bl x, b, _, hb => by cases b <;> simp [py, PyData.eqv, deq] <;> simp [nic] at hb
  | n, m, .int x, b, _, hb => by cases b <;> simp [py, PyData.eqv, deq] <;> simp [nic] at hb
  | n, m, .str x, b, _, hb => by cases b <;> simp [py, PyData.eqv, deq, str_eqv] <;> simp [nic] at hb
  | n + 1, m, .tup x, b, ha, hb => by
    cases b with
    | tup y =>
      cases m with
      | zero => simp [nic] at hb
      | succ m =>
        simp only [py, PyData.eqv, deq]
        exact deqL_py n m x y (by simpa [nic] using ha) (by simpa [nic] using hb)
    | _ => simp [py, PyData.eqv, deq] <;> simp [nic] at hb
  | n + 1, m, .lst x, b, ha, hb => by
    cases b with
    | lst y =>
      cases m with
      | zero => simp [nic] at hb
      | succ m =>
        simp only [py, PyData.eqv, deq]
        exact deqL_py n m x y (by simpa [nic] using ha) (by simpa [nic] using hb)
    | _ => simp [py, PyData.eqv, deq] <;> simp [nic] at hb
  | 0, m, .tup _, b, h, _ => by simp [nic] at h
  | 0, m, .lst _, b, h, _ => by simp [nic] at h
  | n, m, .dic _ _, b, h, _ => by simp [nic] at h
  | n, m, .ndc _ _, b, h, _ => by simp [nic] at h
  | n, m, .ins _ _ _, b, h, _ => by simp [nic] at h
  | n, m, .scr _, b, h, _ => by simp [nic] at h
  | n, m, .xc _ _ _ _, b, h, _ => by simp [nic] at h
theorem deqL_py : ∀ (n m : Nat) (a b : List D), nicL n a = true → nicL m b = true → PyData.eqvAll (pyL a) (pyL b) = deqL a b
  | n, m, [], [], _, _ => by simp [pyL, PyData.eqvAll, deqL]
  | n, m, [], _ :: _, _, _ => by simp [pyL, PyData.eqvAll, deqL]
  | n, m, _ :: _, [], _, _ => by simp [pyL, PyData.eqvAll, deqL]
  | n, m, x :: xs, y :: ys, h, k => by
    have h' : nic n x = true ∧ nicL n xs = true := by simpa [nicL] using h
    have k' : nic m y = true ∧ nicL m ys = true := by simpa [nicL] using k
    simp only [pyL, PyData.eqvAll, deqL]
    rw [deq_py n m x y h'.1 k'.1, deqL_py n m xs ys h'.2 k'.2]
end
theorem eqP_nic {n m : Nat} {a b : D} (ha : nic n a = true) (hb : nic m b = true) (hn : n ≤ 60) (hm : m ≤ 60) : eqP a b = some (deq a b) := by
  have e : eqS a b = some (deq a b) := by
    obtain ⟨e1, s1⟩ := shaped_nic ha hn
    obtain ⟨e2, s2⟩ := shaped_nic hb hm
    unfold eqS
    rw [e1, e2]
    simp only [s1, s2, Bool.and_self, if_true, deq_py n m a b ha hb]
  unfold eqP
  split
  · simp [deq]
  · simp [deq]; rw [Bool.eq_iff_iff]; simp
  · simp [deq]; rw [Bool.eq_iff_iff]; simp
  · simp [deq]
  · exact e
theorem eq_nic {n m : Nat} {a b : D} (ha : nic n a = true) (hb : nic m b = true) (hn : n ≤ 60) (hm : m ≤ 60) : eqD a b = some (.bl (deq a b)) := by unfold eqD; rw [eqP_nic ha hb hn hm]; rfl
theorem nicL_iff {n : Nat} : ∀ {ds : List D}, nicL n ds = true ↔ ∀ d ∈ ds, nic n d = true
  | [] => by simp [nicL]
  | d :: ds => by simp [nicL, nicL_iff (ds := ds)]
theorem nic_strs {n : Nat} {zs : List (List Nat)} (h : ∀ z ∈ zs, ∀ c ∈ z, c < 1114112) : nicL n (zs.map .str) = true := nicL_iff.mpr fun d m => by
  obtain ⟨z, hz, rfl⟩ := List.mem_map.mp m
  simpa [nic] using h z hz
theorem wtL_le {k : Nat} : ∀ {ds : List D}, (∀ d ∈ ds, wt d ≤ k) → wtL ds ≤ ds.length * (k + 1)
  | [], _ => by simp [wtL]
  | d :: ds, h => by
    have h1 := h d (.head _)
    have h2 := wtL_le (ds := ds) fun x m => h x (.tail _ m)
    simp only [wtL, List.length_cons, Nat.succ_mul]
    omega
theorem deqL_strs : ∀ {A B : List (List Nat)}, deqL (A.map .str) (B.map .str) = decide (A = B)
  | [], [] => by simp [deqL]
  | [], _ :: _ => by simp [deqL]
  | _ :: _, [] => by simp [deqL]
  | a :: A, b :: B => by
    simp only [List.map_cons, deqL, deq, deqL_strs (A := A) (B := B)]
    by_cases h : a = b <;> by_cases k : A = B <;> simp [h, k]
mutual
theorem nic_mono : ∀ (n m : Nat) (d : D), n ≤ m → nic n d = true → nic m d = true
  | n, m, .non, _, _ => by simp [nic]
  | n, m, .bl _, _, _ => by simp [nic]
  | n, m, .int _, _, h => by simpa [nic] using h
  | n, m, .str _, _, h => by simpa [nic] using h
  | n + 1, m + 1, .tup ds, k, h => by
    have := nicL_mono n m ds (by omega) (by simpa [nic] using h)
    simpa [nic] using this
  | n + 1, m + 1, .lst ds, k, h => by
    have := nicL_mono n m ds (by omega) (by simpa [nic] using h)
    simpa [nic] using this
  | n + 1, 0, .tup _, k, h => by omega
  | n + 1, 0, .lst _, k, h => by omega
  | 0, m, .tup _, _, h => by simp [nic] at h
  | 0, m, .lst _, _, h => by simp [nic] at h
  | n, m, .dic _ _, _, h => by simp [nic] at h
  | n, m, .ndc _ _, _, h => by simp [nic] at h
  | n, m, .ins _ _ _, _, h => by simp [nic] at h
  | n, m, .scr _, _, h => by simp [nic] at h
  | n, m, .xc _ _ _ _, _, h => by simp [nic] at h
theorem nicL_mono : ∀ (n m : Nat) (ds : List D), n ≤ m → nicL n ds = true → nicL m ds = true
  | n, m, [], _, _ => by simp [nicL]
  | n, m, d :: ds, k, h => by
    have h' : nic n d = true ∧ nicL n ds = true := by simpa [nicL] using h
    simp only [nicL, nic_mono n m d k h'.1, nicL_mono n m ds k h'.2, Bool.and_self]
end
theorem nic_tup {n : Nat} {ds : List D} : nic (n + 1) (.tup ds) = nicL n ds := by simp [nic]
theorem nic_lst {n : Nat} {ds : List D} : nic (n + 1) (.lst ds) = nicL n ds := by simp [nic]
end DL
namespace DL
open PySem PySem.W
def pr (z : List Nat) : PyData := .tuple [.int z.length, .str ⟨z.toArray⟩]
end DL
namespace FN
open DL
def okRow (A : List (List Nat)) : Bool := decide (A.length ≤ 20) && A.all (isLab 20)
theorem isLab_iff {n : Nat} {z : List Nat} : isLab n z = true ↔ 1 ≤ z.length ∧ z.length ≤ n ∧ ∀ c ∈ z, c ∈ CH := by
  unfold isLab
  simp
theorem ch_lt {c : Nat} (h : c ∈ CH) : c < 1114112 := by
  have : ∀ x ∈ CH, x < 1114112 := by decide
  exact this c h
theorem lab_tx {z : List Nat} (h : isLab 20 z = true) : Tx 20 z := ⟨(isLab_iff.mp h).2.1, fun c m => ch_lt ((isLab_iff.mp h).2.2 c m)⟩
theorem szCH : DL.szL (chrs [48, 49, 50, 51, 52, 53, 54, 55, 56, 57, 97, 98, 99, 100, 101, 102, 103, 104, 105, 106, 107, 108, 109, 110, 111, 112, 113, 114, 115, 116, 117, 118, 119, 120, 121, 122]) = some (chrs CH) := sz_ok (by decide)
theorem exch_len {z : List Nat} {p : Int} {c : Nat} (h0 : 0 ≤ p) (h1 : p < z.length) : (cutL z none (some p) ++ [c] ++ cutL z (some (p + 1)) none).length = z.length := by
  rw [cut_hi h0, cut_lo (by omega), List.length_append, List.length_append, List.length_take, List.length_drop, List.length_singleton]
  omega
end FN
namespace FN
open DL
def c_MOST_PORT : D := (.int (65535))
def b_default_port_11a4 (a0 : D) : R (Fl Unit Empty) := (do let v3 ← (iteM (do let x1 ← (pure a0); let y2 ← (pure (.str [104, 116, 116, 112])); DL.ask ((eqD x1 y2).bind bOf)) (pure (.int 80)) (pure (.int 443))); pure (.rt v3))
def m_default_port_11a4 : List D → R D := apR1 fun a0 => (runR false (b_default_port_11a4 a0))
end FN
namespace FN
open DL PySem PySem.W
theorem ix_str {z : List Nat} {i : Int} (h0 : 0 ≤ i) (h : i < z.length) : ∃ c, c ∈ z ∧ ixD (.str z) (.int i) = some (.str [c]) := by
  refine ⟨z[i.toNat]'(by omega), List.getElem_mem _, ?_⟩
  unfold ixD L2.atI
  simp only [ixN_ok h0 h]
  show Option.map (fun c => D.str [c]) (z[i.toNat]?) = _
  rw [List.getElem?_eq_getElem (by omega)]
  rfl
theorem tup_lst {ds : List D} : tupleD [.lst ds] = some (.tup ds) := rfl
theorem sub_ii {i j : Int} : subD (.int i) (.int j) = some (.int (i - j)) := rfl
theorem neg_i {i : Int} : negD (.int i) = some (.int (-i)) := rfl
theorem lti {i j : Int} : (ltD (.int i) (.int j)).bind bOf = some (decide (i < j)) := rfl
theorem gti {i j : Int} : (gtD (.int i) (.int j)).bind bOf = some (decide (j < i)) := rfl
def Sm (n W : Nat) (d : D) : Prop := nic n d = true ∧ wt d ≤ W
theorem Sm.mono {n m W V : Nat} {d : D} (h : Sm n W d) (h1 : n ≤ m) (h2 : W ≤ V) : Sm m V d := ⟨nic_mono n m d h1 h.1, Nat.le_trans h.2 h2⟩
theorem sm_lst {n W k : Nat} {ds : List D} (h : ∀ d ∈ ds, Sm n W d) (hl : ds.length ≤ k) : Sm (n + 1) (k * (W + 1) + 1) (.lst ds) := by
  refine ⟨by rw [nic_lst]; exact nicL_iff.mpr fun d m => (h d m).1, ?_⟩
  have := wtL_le (k := W) fun d m => (h d m).2
  have h2 : ds.length * (W + 1) ≤ k * (W + 1) := Nat.mul_le_mul_right _ hl
  simp only [wt]; omega
theorem sm_tup {n W k : Nat} {ds : List D} (h : ∀ d ∈ ds, Sm n W d) (hl : ds.length ≤ k) : Sm (n + 1) (k * (W + 1) + 1) (.tup ds) := by
  refine ⟨by rw [nic_tup]; exact nicL_iff.mpr fun d m => (h d m).1, ?_⟩
  have := wtL_le (k := W) fun d m => (h d m).2
  have h2 : ds.length * (W + 1) ≤ k * (W + 1) := Nat.mul_le_mul_right _ hl
  simp only [wt]; omega
theorem sm_int {n W : Nat} {i : Int} (h : i.natAbs < 10 ^ 20) (hW : 70 ≤ W) : Sm n W (.int i) := ⟨by cases n <;> simpa [nic] using h, hW⟩
theorem sm_tx {n W k : Nat} {z : List Nat} (h : Tx k z) (hW : k ≤ W) : Sm n W (.str z) := ⟨by cases n <;> simpa [nic] using h.2, Nat.le_trans h.1 hW⟩
theorem sm_bl {n W : Nat} {b : Bool} (hW : 1 ≤ W) : Sm n W (.bl b) := ⟨by cases n <;> rfl, hW⟩
theorem add_tt {a b : List D} (h : a.length + b.length ≤ 1000000) : addD (.tup a) (.tup b) = some (.tup (a ++ b)) := if_pos (by rw [sizeLine_eq]; omega)
theorem slice_t {z : List D} {lo hi : Option Int} : sliceD (.tup z) lo hi = some (.tup (cutL z lo hi)) := rfl
theorem cutL_mem {α : Type} {z : List α} {lo hi : Option Int} {x : α} (h : x ∈ cutL z lo hi) : x ∈ z := List.mem_of_mem_drop (List.mem_of_mem_take h)
theorem join_tup {S : List Nat} {ps : List (List Nat)} (h : (ps.map (·.length)).sum + ps.length * S.length ≤ 16777216) : joinD (.str S) (.tup (ps.map .str)) = some (.str (joinN S ps)) := by
  unfold joinD
  show (match strsOf (ps.map .str) with | some ps => _ | none => _) = _
  rw [strs_map]
  exact if_pos h
theorem sum_le {A : List (List Nat)} {k : Nat} (h : ∀ z ∈ A, z.length ≤ k) : (A.map (·.length)).sum ≤ A.length * k := by
  induction A with
  | nil => simp
  | cons z A ih =>
    have h1 := h z (.head _)
    have h2 := ih fun w m => h w (.tail _ m)
    rw [List.map_cons, List.sum_cons, List.length_cons, Nat.succ_mul]
    omega
theorem le_l {i j : Int} : leD (.int i) (.int j) = some (.bl (decide (i ≤ j))) := rfl
def kHttp : List Nat := [104, 116, 116, 112]
def kHttps : List Nat := [104, 116, 116, 112, 115]
theorem row_sum {A : List (List Nat)} (h : okRow A = true) : A.length ≤ 20 ∧ (A.map (·.length)).sum ≤ 400 := by
  simp only [okRow, Bool.and_eq_true, decide_eq_true_eq, List.all_eq_true] at h
  have := sum_le (A := A) (k := 20) fun z m => (lab_tx (h.2 z m)).1
  exact ⟨h.1, by omega⟩
theorem sz2 {a b : D} : szL [a, b] = some [a, b] := sz_ok (by simp)
end FN
namespace FN
open DL
def b_port_of_e04e (a0 : D) : R (Fl Unit Empty) := (do let t31 ← (DL.orM (do let x1 ← (pure a0); let y2 ← (pure (.str [])); DL.ask ((eqD x1 y2).bind bOf)) (DL.orM (do let x6 ← (do let r5 ← (do let x3 ← (pure a0); let r4 ← pure []; pure (x3 :: r4)); DL.ask (lenD r5)); let y7 ← (pure (.int 5)); DL.ask ((gtD x6 y7).bind bOf)) (do let x10 ← (do let x8 ← (pure a0); let y9 ← (pure (.int 0)); DL.ask (ixD x8 y9)); let y11 ← (pure (.str [48])); DL.ask ((eqD x10 y11).bind bOf)))); seqF (if t31 = true then (do let v13 ← (pure .non); pure (.rt v13)) else (pure (.nx ()))) fun (q12 : Unit) => (do let r30 ← (do let r14 ← (pure a0); DL.ask (itD r14)); seqF (forF (fun d => some d) (fun (q15 : Unit) (c16 : D) => (do let t21 ← (do let x17 ← (pure c16); let y18 ← (pure (.str [48, 49, 50, 51, 52, 53, 54, 55, 56, 57])); DL.ask ((notInD x17 y18).bind bOf)); seqF (if t21 = true then (do let v20 ← (pure .non); pure (.rt v20)) else (pure (.nx ()))) fun (q19 : Unit) => (pure (.nx ())))) r30 ()) fun (q22 : Unit) => (do let v23 ← (do let r26 ← (do let x24 ← (pure a0); let r25 ← pure []; pure (x24 :: r25)); DL.ask (intXD r26)); (do let v29 ← (iteM (do let x27 ← (pure v23); let y28 ← (pure c_MOST_PORT); DL.ask ((leD x27 y28).bind bOf)) (pure v23) (pure .non)); pure (.rt v29)))))
def m_port_of_e04e : List D → R D := apR1 fun a0 => (runR false (b_port_of_e04e a0))
end FN
namespace FN
open DL PySem PySem.W
section
variable {w w' : List Nat} {A A' B B' : List (List Nat)} {i i' : Int}
def dpt (w : List Nat) : Int := if w = kHttp then 80 else 443
def door (w : List Nat) (i : Int) : List Nat := if i = dpt w then [] else [58] ++ numD i
def pre (w : List Nat) (A : List (List Nat)) : List Nat := w ++ [58, 47, 47] ++ joinN [46] A
def ptx (w : List Nat) (A : List (List Nat)) (i : Int) (B : List (List Nat)) : List Nat := pre w A ++ (door w i ++ ([47] ++ joinN [47] B))
def flds (w : List Nat) (A : List (List Nat)) (i : Int) (B : List (List Nat)) : List D := [.str w, .tup (A.map .str), .int i, .tup (B.map .str), .str (ptx w A i B)]
def pgD (w : List Nat) (A : List (List Nat)) (i : Int) (B : List (List Nat)) : D := D.ins "Page" ["scheme", "host", "port", "path", "text"] (flds w A i B)
structure Pg (w : List Nat) (A : List (List Nat)) (i : Int) (B : List (List Nat)) : Prop where
  sw : w = kHttp ∨ w = kHttps
  rA : okRow A = true
  nA : A ≠ []
  i1 : 1 ≤ i
  i2 : i ≤ 65535
  rB : okRow B = true
theorem def_port2 {w : List Nat} (h : w = kHttp ∨ w = kHttps) : m_default_port_11a4 [.str w] = .ok (.int (dpt w)) := by
  rcases h with rfl | rfl <;> rfl
theorem join_row2 {S : List Nat} {A : List (List Nat)} (h : okRow A = true) (hS : S.length ≤ 1) : joinD (.str S) (.tup (A.map .str)) = some (.str (joinN S A)) ∧ (joinN S A).length ≤ 1000 := by
  obtain ⟨h1, h2⟩ := row_sum h
  have h3 : A.length * S.length ≤ 20 * 1 := Nat.mul_le_mul h1 hS
  refine ⟨join_tup (by omega), ?_⟩
  have := joinN_len S A
  omega
theorem join_tx {S : Nat} {A : List (List Nat)} (h : okRow A = true) (hS : S < 1114112) : ∀ c ∈ joinN [S] A, c < 1114112 := by
  simp only [okRow, Bool.and_eq_true, decide_eq_true_eq, List.all_eq_true] at h
  have hA := h.2
  clear h
  induction A with
  | nil => intro c hc; cases hc
  | cons z A ih =>
    have hz := (lab_tx (hA z (.head _))).2
    have ih' := ih fun w m => hA w (.tail _ m)
    cases A with
    | nil => intro c hc; exact hz c (by simpa [joinN] using hc)
    | cons y A =>
      intro c hc
      rw [joinN] at hc
      rcases List.mem_append.mp hc with hc | hc
      · exact hz c hc
      · rcases List.mem_append.mp hc with hc | hc
        · rw [List.mem_singleton.mp hc]; exact hS
        · exact ih' c hc
theorem lab_ok_row (h : okRow A = true) : A.length ≤ 20 ∧ ∀ z ∈ A, isLab 20 z = true := by
  simpa only [okRow, Bool.and_eq_true, decide_eq_true_eq, List.all_eq_true] using h
theorem row_of (h1 : A.length ≤ 20) (h2 : ∀ z ∈ A, isLab 20 z = true) : okRow A = true := by
  simp only [okRow, Bool.and_eq_true, decide_eq_true_eq, List.all_eq_true]; exact ⟨h1, h2⟩
theorem eq_i {i j : Int} : eqD (.int i) (.int j) = some (.bl (decide (i = j))) := rfl
theorem ch_free {s : Nat} (h : ¬ s ∈ CH) {z : List Nat} (hz : isLab 20 z = true) : s ∉ z := fun m => h ((isLab_iff.mp hz).2.2 s m)
theorem split_ok {s : Nat} (hs : s < 256) (hc : ¬ s ∈ CH) (hA : ∀ z ∈ A, isLab 20 z = true) (h0 : A ≠ []) (hl : (joinN [s] A).length ≤ 1000000) : splitD (.str (joinN [s] A)) (.str [s]) = some (A.map .str) := by
  show (if s < 256 ∧ (joinN [s] A).length ≤ 1000000 then some ((TL.spl [s] 0 [] (joinN [s] A)).map D.str) else none) = _
  rw [if_pos ⟨hs, hl⟩, joinN_eq, TL.spl_join h0 fun p m => ch_free hc (hA p m)]
theorem un3_3 {a b c : D} : un3 (.tup [a, b, c]) = some (a, b, c) := rfl
end
end FN
namespace DL
open PySem PySem.Spec PyProof.Rows L2
end DL
namespace FN
open DL PySem PySem.W
theorem par_eq {S : List Nat} : ∀ {z acc p q : List Nat}, TL.par S acc z = some (p, q) → acc ++ z = p ++ (S ++ q)
  | [], acc, p, q, h => by
    have h' : (none : Option (List Nat × List Nat)) = some (p, q) := h
    cases h'
  | c :: r, acc, p, q, h => by
    by_cases hp : TL.pre S (c :: r) = true
    · rw [TL.par_hit hp] at h
      cases h
      have e : (c :: r).take S.length = S := by simpa [TL.pre] using hp
      have e2 := List.take_append_drop S.length (c :: r)
      rw [e] at e2
      rw [e2]
    · rw [TL.par_miss (by simpa using hp)] at h
      have := par_eq h
      simpa using this
theorem spl_len {S : List Nat} : ∀ (z : List Nat) (k : Nat) (acc : List Nat), (TL.spl S k acc z).length ≤ z.length + 1
  | [], k, acc => by rw [TL.spl_nil]; simp
  | x :: r, 0, acc => by
    by_cases hp : TL.pre S (x :: r) = true
    · rw [TL.spl_hit hp]
      have := spl_len (S := S) r (S.length - 1) []
      simp only [List.length_cons]; omega
    · rw [TL.spl_miss (by simpa using hp)]
      have := spl_len (S := S) r 0 (acc ++ [x])
      simp only [List.length_cons]; omega
  | x :: r, k + 1, acc => by
    have := spl_len (S := S) r k acc
    simp only [List.length_cons]
    show (TL.spl S k acc r).length ≤ _
    omega
theorem split_any {s : Nat} {z : List Nat} (hs : s < 256) (hz : z.length ≤ 1000000) : splitD (.str z) (.str [s]) = some ((TL.spl [s] 0 [] z).map .str) := by
  show (if s < 256 ∧ z.length ≤ 1000000 then some ((TL.spl [s] 0 [] z).map D.str) else none) = _
  rw [if_pos ⟨hs, hz⟩]
theorem part_eq {z S : List Nat} (hS : S ≠ []) (hz : z.length ≤ 1000000) : partD (.str z) (.str S) = some (match TL.par S [] z with | some (p, q) => D.tup [.str p, .str S, .str q] | none => D.tup [.str z, .str [], .str []]) := by
  show (if S ≠ [] ∧ z.length ≤ 1000000 then _ else none) = _
  rw [if_pos ⟨hS, hz⟩] <;> rfl
theorem par_ix {c : Nat} : ∀ {z acc : List Nat}, c ∈ z → TL.par [c] acc z = some (acc ++ z.take (z.idxOf c), z.drop (z.idxOf c + 1))
  | [], _, h => by cases h
  | x :: r, acc, h => by
    by_cases hx : x = c
    · subst hx
      have hp : TL.pre [x] (x :: r) = true := TL.pre_self [x] r
      rw [TL.par_hit hp, List.idxOf_cons_self]
      simp
    · rw [TL.par_miss (TL.pre_of_head [] r hx)]
      have hr : c ∈ r := by
        rcases List.mem_cons.mp h with e | e
        · exact absurd e.symm hx
        · exact e
      have e : (x :: r).idxOf c = r.idxOf c + 1 := by
        have hb : (x == c) = false := beq_eq_false_iff_ne.mpr hx
        rw [List.idxOf_cons, hb]; rfl
      rw [par_ix hr, e]
      simp
theorem notin_sign {z : List Nat} {c : Nat} : (notInD (.str [c]) (.str z)).bind bOf = some (!decide (c ∈ z)) := rfl
theorem cut_to {z : List Nat} {n : Nat} : cutL z none (some (n : Int)) = z.take n := by rw [cut_hi (by omega)]; rfl
theorem sqp {α β γ : Type} {a : α} {k : α → R (Fl γ β)} : seqF (pure (Fl.nx a) : R (Fl α β)) k = k a := rfl
def Rn (l n : Nat) (d : D) : Prop := ∃ A : List (List Nat), d = .tup (A.map .str) ∧ l ≤ A.length ∧ A.length ≤ n ∧ ∀ z ∈ A, isLab 20 z = true
theorem Rn.up {l n m : Nat} {d : D} (h : Rn l n d) (w : n ≤ m) : Rn l m d := by
  obtain ⟨A, a, b, c, e⟩ := h
  exact ⟨A, a, b, by omega, e⟩
end FN
namespace DL
open PySem PySem.Spec PyProof.Rows L2 NdefX ClX
def spIS [DL.TC] (K : PySem.W.Frag) (mg : Str → Option Value) (D : Addr) (ns : List Str) (L : Nat → Prop) (g : List DL.D → R (List DL.D)) : Sp := fun vs H Q E => spI K mg ns L g vs H Q E ∧ ∃ x rest dx, vs = .ref x :: rest ∧ H x = some (.ins D dx [])
structure SupFun (P : Program) (K : PySem.W.Frag) (mg : Str → Option Value) (x qual : Str) (st : Stmt) (f fb D : Addr) (fd : FuncData) : Prop where
  ex : ∃ (oc : Value) (od : Option Addr) (kV doc pm : Value) (an : Option Addr) (cda cc : Addr) (ct : Value) (osl : Array (Option Value)) (ccl : Value) (cdd : Option Addr) (vs : Array Value) (ccs : Array (Option Value)) (file : Str) (tf : Tok) (cl : Value) (cld : Option Addr) (csl : Array (Option Value)),
    fd = PySem.W.fnX x qual (defArgs st) (defBody st) (defScope st) [("__class__", cc)] .none kV doc pm an (.ref cda) ct ∧ K.lookup f = some ⟨oc, od, .func fd, osl⟩ ∧ PySem.W.codeIn K (.ref cda) qual = true ∧
    K.lookup cda = some ⟨ccl, cdd, .fields vs, ccs⟩ ∧ vs[2]? = some (.str file tf) ∧ ((P.main.file : Str) == file) = true ∧ K.lookup cc = some ⟨cl, cld, .cell (some (.ref D)), csl⟩
  cls : ∃ cd, PySem.W.clsIn K D = some cd
  mro : PySem.W.mroIn K D (.ref D) = some true
  sup : mg "super" = none
  top : (P.main.scope.names.lookup ("super" : Str)).isSome = false
  init : PySem.W.ks_superIn K D D "__init__" = some (some (.ref fb))
  ty : PySem.W.typeIn K (.ref fb) = some (.type "function")
  fi : PySem.W.fnIn K fb = true
  tp : PySem.W.nsIn K cStatics "thirdparty.any" = some none
theorem startF_at {N : List Str} {vs : List V} {ws : List (Option V)} {i : Nat} {v : V} (h : vs[i]? = some v) : (startF N vs ws)[i]? = some (some v) := by
  unfold startF
  have hl : i < vs.length := (List.getElem?_eq_some_iff.mp h).1
  rw [List.getElem?_append_left (by simpa using hl), List.getElem?_map, h]
  rfl
theorem startF_len {N : List Str} {vs : List V} {ws : List (Option V)} (h : vs.length + ws.length ≤ N.length) : (startF N vs ws).length = N.length := by
  unfold startF
  simp
  omega
section
variable {K : PySem.W.Frag} {mg : Str → Option Value} [DL.TC]
theorem StS.initS {Hf H : Hp} {E : XK} {ds : List D} {vs : List V} {N : List Str} {s : S} {x C dx : Addr} {ws : List (Option V)} (sb : SubT Hf H) (hf : Hf x = none) {ns : List Str} (hx : H x = some (.ins C dx [])) (c : Cls K C) (na : ∀ f ∈ ns, NoAttr K C f) (l : IsL K mg Hf ds vs) (hn : vs.length + 1 + ws.length ≤ N.length) :
    StS K mg (fxI ns x H Hf E) Hf H (startF N (.ref x :: vs) ws) (GI N ds) s := by
  refine ⟨.refl sb.s, trivial, fun b m => ?_, sb.t, ?_, fun i y e => ?_, fun i j y z p ne ey ez oy oz e1 e2 => ?_⟩
  · have : b = x := by
      rcases List.mem_append.mp m with m | m
      · simpa using m
      · cases m
    subst this
    exact ⟨hf, by rw [hx]; simp, fun _ => by show H b ≠ none; rw [hx]; simp⟩
  · rw [startF_len (by simp only [List.length_cons]; omega)]
    unfold GI
    have := l.len
    simp
    omega
  · cases i with
    | zero =>
      cases e
      exact ⟨x, C, dx, [], startF_at rfl, hx, hf, ⟨by simp, [], hx⟩, by simp, ⟨c, na⟩, rfl, rfl⟩
    | succ i =>
      have e' : (ds.map Sl.im ++ List.replicate (N.length - ds.length - 1) .un)[i]? = some y := e
      have q := slOk_G0 (fx := fxI ns x H Hf E) (H := H) (N := N) l e'
      cases y with
      | un => trivial
      | im d =>
        obtain ⟨v, hv, hi⟩ := q
        refine ⟨v, ?_, hi⟩
        cases h : vs[i]? with
        | none => rw [h] at hv; cases hv
        | some w => rw [h] at hv; cases hv; exact startF_at (by simpa using h)
      | ow ds => exact (isOw_im e' rfl).elim
      | od ks ds => exact (isOw_im e' rfl).elim
      | nd ks ds => exact (isOw_im e' rfl).elim
      | rf a => exact (rf_im e').elim
      | ob ns ds => exact (isOw_im e' rfl).elim
      | o2 ds es => exact (isOw_im e' rfl).elim
      | rw _ _ => exact (isOw_im e' rfl).elim
      | ra _ _ => exact (ra_im e').elim
      | bg =>
        obtain ⟨b, r, e, _⟩ := q
        cases e
  · have z1 : i = 0 := by
      cases i with
      | zero => rfl
      | succ i => exact (isOw_im (n := N.length - ds.length - 1) (ds := ds) (i := i) ey oy).elim
    have z2 : j = 0 := by
      cases j with
      | zero => rfl
      | succ j => exact (isOw_im (n := N.length - ds.length - 1) (ds := ds) (i := j) ez oz).elim
    exact ne (z1.trans z2.symm)
end
section
variable {X : Cx} {j : Nat} {q fb x : Addr} {sp : Sp} {E : L2.St → XK} [DL.TC]
theorem run_mP {pins : List (Addr × Obj)} {σ : L2.St} {H : Hp} {s : Shared} {Q : VK} {us : List Value} {vs : List V} (F : FnP X.prog X.w X.K X.mg X.base j fb [] sp) (hg : X.A.guards = some []) (hr : Room j X.A)
    (hx : PassesAt (CXm X.prog X.w X.mg) X σ (E σ)) (I : L2.Inv X ((q, PySem.W.methodObj (.ref fb) (.ref x)) :: pins) σ H s) (r : Vals vs us) (h : sp (.ref x :: vs) H Q (E σ)) : wpAny (model X.prog X.w) X.A (call (.ref q) us) (EP X pins σ Q) X.xe s := by
  have z : wpAny (model X.prog X.w) X.A (call (.ref q) us) (EP X ((q, PySem.W.methodObj (.ref fb) (.ref x)) :: pins) σ Q) X.xe s :=
    wpAny_call (PySem.W.method_call (pin_at I) (codeAny_mono (F X.A X.stack s H (.ref x :: us) [] (.ref x :: vs) Q (E σ) hg hr I.env0 rfl (by rw [List.append_nil]; exact .cons rfl r) h) fun r s' hq => by
      have z := ends_call I hx hq
      cases r with
      | error e => exact z
      | ok fl => cases fl <;> first | exact z | exact z.elim))
  exact thn z fun _ _ y => unpinE y
end
section
variable {P : Program} {w : World} {K : PySem.W.Frag} {mg : Str → Option Value} {base : Heap} [DL.TC]
theorem fnSup {x qual : Str} {st : Stmt} {f fb D : Addr} {fd : FuncData} {N ps ns : List Str} {k j n : Nat} {L : Nat → Prop} {g gb : List DL.D → R (List DL.D)} {self : Str} {ar : Arg} {e : Expr} {es : List Expr} {p0 p1 apos cpos epos : Pos} [hw : WOk w] 
    (SF : SupFun P K mg x qual st f fb D fd) (Sc : NScope N ps ["__class__"] (defScope st)) (hn : ps.length = n + 1) (hN0 : N[0]? = some self) (hp : ((defArgs st).posonlyargs ++ (defArgs st).args).head? = some ar) (har : ar.arg = self)
    (hb0 : defBody st = [.Expr (.Call (.Attribute (.Call (.Name "super" p0) [] [] p1) "__init__" apos) (e :: es) [] cpos) epos])
    (hks : (defScope st).names.lookup ("super" : Str) = some .globalImplicit) (hkc : (defScope st).names.lookup ("__class__" : Str) = some .free) (hka : (defScope st).names.lookup self = some .local)
    (Fb : FnP P w K mg base j fb [] (spI K mg ns L gb)) (hj : j ≤ k) (hL : ∀ ds : List DL.D, gb ds ≠ .stuck → L (ds.length + 1))
    (ha : ∀ (F : NF) (A : Around) (outer : List Env) (s : Shared) (H Hf : Hp) (E : XK) (o : Addr) (ds : List DL.D), F.scope = defScope st → F.qual = qual → Cok (ncx (CXm P w mg) P w K mg base N F f A outer s H E) (fxI ns o H Hf E) k → ds.length = n →
      ∃ ys : R (List DL.D), PA (ncx (CXm P w mg) P w K mg base N F f A outer s H E) (e :: es) (tA K mg (fxI ns o H Hf E) (GI N ds) ys) ∧ g ds = (do let as ← ys; gb as))
    (hst : ∀ env : Env, starEach (e :: es) env = (false, eval e env) :: starEach es env := by intro _; rfl) (hpl : ∀ env : Env, (backTo cpos (starEach es env)).any (·.1) = false := by intro _; rfl)
    (hev : ∀ env : Env, ∃ pl : Sem Bool, eval (.Call (.Attribute (.Call (.Name "super" p0) [] [] p1) "__init__" apos) (e :: es) [] cpos) env = (do
      let ov ← attributeBase (.Call (.Name "super" p0) [] [] p1) "__init__" env (eval (.Call (.Name "super" p0) [] [] p1) env)
      standAt apos.atName
      let (f, first) ← holding [ov] (getMethod ov "__init__" pl)
      callWith cpos f first (backTo cpos (starEach (e :: es) env)) []) := by intro _; exact ⟨_, rfl⟩) :
    FnG P w K mg base (k + 1) f fd ps (spIS K mg D ns (fun l => l = n + 1) g) := by
  refine ⟨fun vs H Q E h => h.1.1.trans hn.symm, fun A outer s H args us vs Q E gd hr e0 hb r hsp => ?_⟩
  obtain ⟨oc, od, kV, doc, pm, an, cda, cc, ct, osl, ccl, cdd, cvs, ccs, file, tf, cl, cld, csl, rfl, lk, hcd, hcode, hvs, hfile, hcell⟩ := SF.ex
  obtain ⟨cdD, hD⟩ := SF.cls
  obtain ⟨⟨hlen, o, C, dx, rest, Hf, ds, rfl, sb, hf, hx, cls, na, l, q⟩, o2, rest2, dx2, e2, hx2⟩ := hsp
  cases e2
  rw [hx] at hx2
  cases hx2
  have hl' : rest.length = n := by simpa using hlen
  have kp := fun b o e => (e0.bs b o e).1
  have KX : K.In s.heap := e0.mod.kin.keeps kp
  have lim : s.heap.NoLimit := e0.mod.nolimit.keeps kp
  have hpsl : (V.ref o :: rest).length = ps.length := by rw [hn, List.length_cons, hl']
  let F : NF := ⟨x, qual, defArgs st, defBody st, defScope st, [("__class__", cc)], cda⟩
  have hCc : base.get? cc = some ⟨cl, cld, .cell (some (.ref D)), csl⟩ := e0.mod.kin _ _ hcell
  have CA : CellsAt F.cl ["__class__"] [some (V.ref D)] s.heap H := by
    refine ⟨rfl, fun y c h => ?_, fun y z c h1 h2 => ?_, fun i y h => ?_⟩
    · have : y = "__class__" ∧ c = cc := by
        have h' : List.lookup y [(("__class__" : Str), cc)] = some c := h
        simp only [List.lookup] at h'
        split at h'
        · rename_i hb; cases h'; exact ⟨by simpa using hb, rfl⟩
        · cases h'
      obtain ⟨rfl, rfl⟩ := this
      exact ⟨(e0.bs _ _ hCc).2, _, _, (e0.bs _ _ hCc).1, rfl⟩
    · have aux : ∀ y : Str, List.lookup y [(("__class__" : Str), cc)] = some c → y = "__class__" := fun y h' => by
        simp only [List.lookup] at h'
        split at h'
        · rename_i hb; simpa using hb
        · cases h'
      rw [aux y h1, aux z h2]
    · cases i with
      | zero =>
        cases h
        exact ⟨cc, rfl, fun v hv => by cases hv; exact ⟨.ref D, rfl, _, (e0.bs _ _ hCc).1, rfl⟩⟩
      | succ i => simp at h
  refine codeAny_call_function hr.depth (KX _ _ lk) rfl Sc.co Sc.gen rfl (PySem.W.codeRec_of KX hcd) (hb _ _ _ _ ?_)
  refine wpAny_newFunctionEnv Sc.nocell (fun ⟨n, _⟩ hy => Sc.par n (List.of_mem_zip hy).1) (fun h₁ hns hsb => ⟨lim.fresh _ hsb, ?_⟩) Sc.kind
  show codeAny _ _ (.func (defBody st) (envF F f s.heap.objs.size)) _ _
  have kp1 : ∀ b o, s.heap.get? b = some o → h₁.get? b = some o := fun b o e => hsb.extBut b o (Nat.ne_of_lt (Heap.lt_size e)) (Heap.get?_push_of_some _ e)
  have I : L2.Inv (ncx (CXm P w mg) P w K mg base N F f A outer s H E) [] (startF N (.ref o :: rest) [some (.ref D)]) H { s with heap := h₁, toks := s.toks + (ps.zip us).length } := inv_startN Sc hr.hd e0 hpsl r CA hns kp1
  generalize ({ s with heap := h₁, toks := s.toks + (ps.zip us).length } : Shared) = s1 at I ⊢
  have Ck : Cok (ncx (CXm P w mg) P w K mg base N F f A outer s H E) (fxI ns o H Hf E) k := ⟨rfl, fun _ => passes_of rfl, takes_of rfl rfl rfl rfl, hr.deeper _, Sc.nd, gd, hw.e⟩
  obtain ⟨ys, hpa, hg⟩ := ha F A outer s H Hf E o ds rfl rfl Ck (l.len.trans hl')
  have hNl : (ps.length + 1) ≤ N.length := by
    have := congrArg List.length Sc.pre
    rw [List.length_take, List.length_append] at this
    simp only [List.length_cons, List.length_nil] at this
    omega
  have st0 : StS K mg (fxI ns o H Hf E) Hf H (startF N (.ref o :: rest) [some (.ref D)]) (GI N ds) ⟨0, 0, 0, [], false⟩ := .initS sb hf hx cls na l (by simp only [List.length_cons, List.length_nil]; omega)
  have hOD : o ≠ D := fun z => by
    obtain ⟨oD, hoD⟩ : ∃ oD, K.lookup D = some oD := by
      unfold PySem.W.clsIn at hD
      split at hD
      · rename_i ho; exact ⟨_, ho⟩
      · cases hD
    have := (e0.bs _ _ (e0.mod.kin _ _ hoD)).2
    rw [← z, hx] at this
    cases this
  have hinit : PySem.W.alongIn K "__init__" ((cdD.mro.dropWhile (· != .ref D)).drop 1) = some (some (.ref fb)) := by
    have h := SF.init
    unfold PySem.W.ks_superIn at h
    rw [hD] at h
    exact h
  rw [hb0]
  refine PySem.ks_codeAny_funcAt ?_
  refine PySem.ks_wpAt_execs_cons (PySem.ks_wpAt_Expr_any ?_ I.quiet rfl)
  obtain ⟨pl, hpe⟩ := hev (envF F f s.heap.objs.size)
  refine PySem.ks_wpAt_MethodCall (pl := pl) ?_ hpe
  obtain ⟨hh, gg, dd, tt, oo⟩ := s1
  obtain ⟨m, hns1, hloc⟩ := id I.loc
  obtain ⟨u0, ru0, hlook⟩ := hloc 0 self (.ref o) hN0 (startF_at rfl) (.inl hka)
  obtain rfl : u0 = .ref o := ru0
  have hself : m self = some (.ref o) := by
    rcases hlook with ⟨_, h⟩ | ⟨h, _⟩
    · exact h
    · have hk' : (ncx (CXm P w mg) P w K mg base N F f A outer s H E).env.kindOf self = some .local := hka
      rcases h with h | h <;> (rw [hk'] at h; cases h)
  have X1 : K.In hh := I.kIn
  obtain ⟨oD, hD1, hD2⟩ : ∃ oD, hh.get? D = some oD ∧ oD.data = .cls cdD := by
    unfold PySem.W.clsIn at hD
    split at hD
    · rename_i ho
      cases hD
      exact ⟨_, X1 _ _ ho, rfl⟩
    · cases hD
  obtain ⟨mA, O, _, _, _, _⟩ := ins_get I.hok hx
  obtain ⟨mb, hb1, hb2⟩ := I.mod.blt
  refine PySem.ks_wpAt_super_base (env := envF F f s.heap.objs.size) hks hkc rfl rfl (X1 _ _ lk) rfl hp rfl (X1 _ _ hcode) rfl hvs hfile SF.top ?_
  refine PySem.W.ks_loadName_global Sc.kind hks (Calls.loadGlobal_builtin (I.mod.glob.keeps I.bk) SF.sup (hb1.keeps I.bk) ((hb2 "super" (by decide)).trans (by kernel_rfl)) ⟨rfl, ?_⟩)
  refine wpAny_loadName_free Sc.kind hkc rfl ⟨_, X1 _ _ hcell, rfl⟩ ?_
  rw [har]
  refine wpAny_loadName_local Sc.kind hka hns1 hself ?_
  refine PySem.ks_wpAny_isType_cls hD1 hD2 ⟨rfl, ?_⟩
  refine PySem.ks_wpAny_call_super hD1 hD2 O.obj rfl (fun c e => nomatch e) (PySem.W.looks_mroIn X1 SF.mro) (fun h' e k => ?_)
  have I' : L2.Inv (ncx (CXm P w mg) P w K mg base N F f A outer s H E) [] (startF N (.ref o :: rest) [some (.ref D)]) H ⟨h', gg, dd, tt, oo⟩ := I.kept (t' := tt) k
  have X2 : K.In h' := I'.kIn
  obtain ⟨of, hof, hofc⟩ : ∃ of, h'.get? fb = some of ∧ of.cls = .type "function" := by
    have ht' : (K.lookup fb).map (·.cls) = some (.type "function") := SF.ty
    cases z : K.lookup fb with
    | none => rw [z] at ht'; cases ht'
    | some of => rw [z] at ht'; exact ⟨of, X2 _ _ z, Option.some.inj ht'⟩
  refine PySem.ks_wpAny_getMethod_super (K := K) e (PySem.W.looks_opaque X2 SF.tp) (l₀ := cdD.mro) (fun A Q E s k q => wpAny_bind ((PySem.W.looks_clsIn X2 hD) A _ E s k (wpAny_pure q))) rfl X2 hinit hof hofc hOD rfl ?_
  have J := met_new (g := fb) (C := o) I'
  have hq0 : spI K mg ns L gb = spI K mg ns L gb := rfl
  refine wpAny_mono (Q := EP (ncx (CXm P w mg) P w K mg base N F f A outer s H E) [] (startF N (.ref o :: rest) [some (.ref D)]) (fun _ H' => Q .non H')) (callwith_cm J (base_none I' (Nat.le_refl _)) SF.fi (thn (hpa.run cpos _ _ (startF N (.ref o :: rest) [some (.ref D)]) H (fun vs2 H2 => spI K mg ns L gb (.ref o :: vs2) H2 (fun _ H' => Q .non H') (WE (fxI ns o H Hf E).W (startF N (.ref o :: rest) [some (.ref D)]))) J ?_) fun us2 s3 ⟨vs2, H2, I3, rv, q2⟩ => ⟨⟨pin_at I3, I3.kIn⟩, run_mP (E := WE (fxI ns o H Hf E).W) Fb Ck.gd (Ck.rm.mono hj) (passAt Ck.tk _) I3 rv q2⟩) (hst _) (hpl _)) (fun u s' h => ?_) fun _ _ z => z
  · refine ⟨Hf, ⟨0, 0, 0, [], false⟩, st0, ?_⟩
    have stx : ∀ {Hf1 H1 : Hp}, Ste [] Hf H Hf1 H1 → H1 o = some (.ins D dx []) ∧ Hf1 o = none := fun {Hf1 H1} e => ⟨e.keep _ _ hx (by simp) nofun, e.stayNone hf (by rw [hx]; simp)⟩
    show R.wp ys _ _ _
    rw [hg] at q
    cases hys : ys with
    | ok as =>
      rw [hys] at q
      have q1 : match gb as with
        | .ok es => ∀ us Hf' H', Ste [o] Hf H Hf' H' → H' o = some (.ins D dx (ns.zip us)) → ns.length = us.length → IsL K mg Hf' es us → Hf' o = none → Q .non H'
        | .ex e => ∀ cls dd Hf' H', Ste [o] Hf H Hf' H' → ExIs K mg Hf' H' e cls dd → E cls dd H'
        | .stuck => False := q
      intro vs2 Hf1 H1 e1 bg1 l1
      obtain ⟨hx1, hf1⟩ := stx e1
      have hlen1 : L ((V.ref o :: vs2).length) := by
        rw [List.length_cons, ← l1.len]
        refine hL as fun z => ?_
        rw [z] at q1
        exact q1
      refine ⟨hlen1, o, D, dx, vs2, Hf1, as, rfl, e1.subT st0.tb, hf1, hx1, cls, na, l1, ?_⟩
      cases hgb : gb as with
      | ok es =>
        rw [hgb] at q1
        exact fun us Hf' H' e2 => q1 us Hf' H' (e1.wide.trans e2)
      | ex ee =>
        rw [hgb] at q1
        exact fun cls dd Hf' H' e2 xi => q1 cls dd Hf' H' (e1.wide.trans e2) xi
      | stuck => rw [hgb] at q1; exact q1
    | ex ee =>
      rw [hys] at q
      have q1 : ∀ cls dd Hf' H', Ste [o] Hf H Hf' H' → ExIs K mg Hf' H' ee cls dd → E cls dd H' := q
      exact fun cls dd Hf' H' st xi => q1 cls dd Hf' H' st.ste xi
    | stuck =>
      rw [hys] at q
      exact q
  · obtain ⟨v, H', J', rv, q'⟩ := h
    exact wpAt_of_wpAny (wpAny_execs_nil ⟨.non, H', J'.os, J'.bare, J'.base, J'.hok, rfl, q'⟩)
end
end DL
namespace DL
open PySem PySem.Spec PyProof.Rows L2
inductive FT where
  | nm (i : Nat)
  | fl (f : Str)
def stepT (i0 : Nat) (t : FT) (d : D) (G : List Sl) : List Sl := match t with
  | .nm i => G.set i (.im d)
  | .fl f => match G[i0]? with
    | some (.ob ns ds) => G.set i0 (.ob (ns ++ [f]) (ds ++ [d]))
    | _ => G
def setT (i0 : Nat) : List FT → Nat → List D → List Sl → List Sl
  | [], _, _, G => G
  | t :: ts, k, c, G => setT i0 ts (k + 1) c (stepT i0 t (c.getD k .non) G)
def gT (K : PySem.W.Frag) (i0 : Nat) : List FT → TGs
  | [] => gNil
  | .nm i :: ts => gCons (gName i) (gT K i0 ts)
  | .fl f :: ts => gCons (gFld K (tVar i0) f) (gT K i0 ts)
section
variable {X : Cx} {fx : Fx} {i0 : Nat} {self : Str} [DL.TC]
inductive TgF (X : Cx) (fx : Fx) (i0 : Nat) (self : Str) : List Expr → List FT → List Str → Prop
  | nil {ns : List Str} : TgF X fx i0 self [] [] ns
  | nm {n : Str} {p : Pos} {es : List Expr} {ts : List FT} {ns : List Str} (i : Nat) (r : TgF X fx i0 self es ts ns) (hi : X.N[i]? = some n := by rfl) (hx : Loc X.env.scope n := by first | exact Or.inl rfl | exact Or.inr rfl) (hf : X.fn n = true ∨ X.env.scope.names.lookup n = some .local := by first | exact .inl rfl | exact .inr rfl) (hne : i ≠ i0 := by decide) : TgF X fx i0 self (.Name n p :: es) (.nm i :: ts) ns
  | fl {np pos' : Pos} {es : List Expr} {ts : List FT} {ns : List Str} {f : Str} (r : TgF X fx i0 self es ts (ns ++ [f])) (hf : f ∉ ns := by decide +kernel) (hm : f ∈ fx.nas := by decide +kernel) (hz : ns.length < 1000 := by decide) : TgF X fx i0 self (.Attribute (.Name self np) f pos' :: es) (.fl f :: ts) ns
theorem tgf_pgs (nd : X.N.Nodup) (hN : X.N[i0]? = some self) (hv : Vis X.env.scope self) (hd : (self == ("__debug__" : Str)) = false) (hcd : (self == ("__classdict__" : Str)) = false) {es : List Expr} {ts : List FT} {ns : List Str} (h : TgF X fx i0 self es ts ns) : PGs X es (gT X.K i0 ts) := by
  induction h with
  | nil => exact pgs_nil
  | nm i r hi hx hf hne ih => exact pgs_cons (pg_name nd hi hx hf) ih
  | fl r hf hm hz ih => exact pgs_cons (pg_fld (pe_var hN hv hd hcd)) ih
theorem gt_read {Hf : Hp} {s : S} {Q : L2.St → Hp → Prop} {es : List Expr} {ts : List FT} {ns : List Str} (h : TgF X fx i0 self es ts ns) : ∀ (k : Nat) (c ds es0 : List D) (vs : List V) {σ : L2.St} {H : Hp} {G : List Sl}, StS X.K X.mg fx Hf H σ G s → G[i0]? = some (.ob ns es0) → IsL X.K X.mg Hf ds vs → c.drop k = ds → ds.length = ts.length →
    (∀ σ' H', StS X.K X.mg fx Hf H' σ' (setT i0 ts k c G) s → Q σ' H') → gT X.K i0 ts vs σ H Q := by
  induction h with
  | nil =>
    intro k c ds es0 vs σ H G st hG l e hl q
    cases ds with
    | nil => cases l; exact ⟨rfl, q σ H st⟩
    | cons d ds => simp at hl
  | nm i r hi hx hf hne ih =>
    intro k c ds es0 vs σ H G st hG l e hl q
    cases ds with
    | nil => simp at hl
    | cons d ds =>
      obtain ⟨v, rr, rfl, iv, l'⟩ := l
      have hk : c.getD k .non = d := by
        have : c[k]? = some d := by
          have := congrArg (fun z => z[0]?) e
          simpa using this
        simp [List.getD, this]
      refine ⟨v, rr, rfl, ?_⟩
      refine ih (k + 1) c ds es0 rr (st.set (i := i) iv) (by rw [List.getElem?_set_ne hne]; exact hG) l' ?_ (by simpa using hl) fun σ' H' st' => q σ' H' ?_
      · have := congrArg (List.drop 1) e
        simpa [List.drop_drop, Nat.add_comm] using this
      · show StS X.K X.mg fx Hf H' σ' (setT i0 _ (k + 1) c (stepT i0 (.nm i) (c.getD k .non) G)) s
        rw [hk]; exact st'
  | @fl np pos' es ts ns f r hf hm hz ih =>
    intro k c ds es0 vs σ H G st hG l e hl q
    cases ds with
    | nil => simp at hl
    | cons d ds =>
      obtain ⟨v, rr, rfl, iv, l'⟩ := l
      have hk : c.getD k .non = d := by
        have : c[k]? = some d := by
          have := congrArg (fun z => z[0]?) e
          simpa using this
        simp [List.getD, this]
      obtain ⟨p, C, dx, us, ep, hp, hf', h0, nb, ⟨cc, na⟩, hll, ll⟩ := st.sl i0 _ hG
      refine ⟨v, rr, rfl, .ref p, ep, p, C, dx, ns.zip us, rfl, hp, cc, na _ hm, ?_, ?_⟩
      · rw [List.length_zip, ← hll, Nat.min_self]; exact hz
      · have st2 : StS X.K X.mg fx Hf (upd H p (.ins C dx (putF f v (ns.zip us)))) σ (G.set i0 (.ob (ns ++ [f]) (es0 ++ [d]))) s := by
          refine st.updAt hG rfl ep rfl ⟨p, C, dx, us ++ [v], rfl, ?_, hf', h0, nb, ⟨cc, na⟩, by simp [hll], ll.app (.cons iv .nil)⟩
          rw [upd_same, putF_new hll hf]
        have hi0 : i0 < G.length := (List.getElem?_eq_some_iff.mp hG).1
        refine ih (k + 1) c ds (es0 ++ [d]) rr st2 (List.getElem?_set_self hi0) l' ?_ (by simpa using hl) fun σ' H' st' => q σ' H' ?_
        · have := congrArg (List.drop 1) e
          simpa [List.drop_drop, Nat.add_comm] using this
        · show StS X.K X.mg fx Hf H' σ' (setT i0 _ (k + 1) c (stepT i0 (.fl f) (c.getD k .non) G)) s
          have : stepT i0 (.fl f) (c.getD k .non) G = G.set i0 (.ob (ns ++ [f]) (es0 ++ [d])) := by
            show (match G[i0]? with | some (.ob ns ds) => _ | _ => G) = _
            rw [hG, hk]
          rw [this]; exact st'
end
section
variable {X : Cx} {fx : Fx} {m : Type → Type} [Mo m] {G : List Sl} {α β : Type} {kk : Nat} {e : Expr} {rest : List Stmt} {ex : α → List Sl} {exb : β → List Sl} {pos : Pos} {x : m D} [DL.TC]
theorem dss_unpF {es : List Expr} {kt : Nat} {pt : Pos} {k : List D → m (Fl α β)} {self : Str} {ns : List Str} {es0 : List D} (C : Cok X fx kk) (i0 n : Nat) (ts : List FT) (ht : TgF X fx i0 self es ts ns) (he : PE X e (tE X.K X.mg fx G x)) (hr : ∀ c, PSs X rest (tS X.K X.mg fx (setT i0 ts 0 c G) ex exb (k c)))
    (hG : G[i0]? = some (.ob ns es0) := by rfl) (hn : ts.length = n := by rfl) (hN : X.N[i0]? = some self := by rfl) (hv : Vis X.env.scope self := by first | exact Or.inl rfl | exact Or.inr (Or.inl rfl) | exact Or.inr (Or.inr rfl)) (hd : (self == ("__debug__" : Str)) = false := by decide) (hcd : (self == ("__classdict__" : Str)) = false := by decide)
    (hl : (assignEach es X.env).length = n := by rfl) (hst : (assignEach es X.env).findIdx? (·.1) = none := by rfl)
    (hs : swapsWithSole [.Tuple es kt pt] e pos.line X.env = pure false := by rfl) (hw : swappedStores [.Tuple es kt pt] e X.env = pure none := by rfl) (h1 : (assignEach [.Tuple es kt pt] X.env).map (·.2) = [assign (.Tuple es kt pt) X.env] := by rfl)
    (hgx : GxOk fx G := by first | exact True.intro | repeat' (first | exact True.intro | exact Or.inl rfl | exact Or.inr rfl | refine And.intro ?_ ?_)) :
    PSs X (.Assign [.Tuple es kt pt] e pos :: rest) (tS X.K X.mg fx G ex exb (do let d ← x; let c ← DL.ask (unN n d); k c)) := pssI (pss_cons (ps_asg he (pg_tup C.calm (tgf_pgs C.nd hN hv hd hcd ht) hl hst) hs hw h1) (pss_ex hr)) fun De σ H ⟨Hf, s, h⟩ =>
  ((h.bind hgx).mono fun v H1 ⟨d, Hf1, s1, sb, r, h1⟩ => by
    have w1 := Mo.wp_lift (Mo.wp_bind h1.2)
    cases hu : unN n d with
    | none => rw [hu] at w1; exact w1.elim
    | some c =>
      rw [hu] at w1
      cases d with
      | tup ds =>
        obtain ⟨hz, a, vs, rfl, t, l⟩ := r
        have e' : (if ds.length = n then some ds else none) = some c := hu
        by_cases hd : ds.length = n
        · rw [if_pos hd] at e'
          cases e'
          exact ⟨a, vs, rfl, h1.1.top.sqt t, l.len.symm.trans hd, gt_read ht 0 c c es0 vs h1.1 hG l rfl (hd.trans hn.symm) fun σ' H' st' => ⟨c, Hf1, s1, st', w1⟩⟩
        · rw [if_neg hd] at e'; cases e'
      | _ => cases hu).to
end
section
variable {X : Cx} {fx : Fx} {m : Type → Type} [Mo m] {G : List Sl} {es : List Expr} {pos p : Pos} {ys : m (List D)} {kk j : Nat} {c : Str} {C fI : Addr} {ns : List Str} {g : List D → R (List D)} [DL.TC]
theorem de_makeS {L : Nat → Prop} (Ck : Cok X fx kk) (cn : ClsN X.K X.mg c C) (na : ∀ f ∈ ns, NoAttr X.K C f) (M : Mk X.K C fI) (F : FnP X.prog X.w X.K X.mg X.base j fI [] (spIS X.K X.mg C ns L g)) (ha : PA X es (tA X.K X.mg fx G ys)) (hn : ∀ ds : List D, g ds ≠ .stuck → L (ds.length + 1))
    (hj : j + 1 ≤ kk := by decide) (hg : Gl X c := by rfl) (hdb : (c == ("__debug__" : Str)) = false := by decide)
    (he : ArgHd X.env es := by first | exact True.intro | exact rfl)
    (hpl : ((backTo pos (starEach es X.env)).any (·.1) || (backToKw pos (keywordEach [] X.env)).any (·.1.isNone)) = false := by rfl) :
    PE X (.Call (.Name c p) es [] pos) (tE X.K X.mg fx G (do let ds ← ys; let es ← Mo.lift (g ds); pure (.ins c ns es))) := by
  refine ⟨fun pins s σ H Q I ⟨Hf, s0, h⟩ => ?_⟩
  refine wpAny_Call_Name_kw (ld_glob I hg cn.mg ?_ hdb)
  refine args_run (ks := []) (tk := tNil) M.kp ha pk_nil I ?_ he rfl rfl hpl
  refine (h.bind.mono fun vs H1 ⟨ds, Hf1, s1, sb, r, h1⟩ => ?_).to
  refine ⟨rfl, fun s2 us ws I2 hw rv => ?_⟩
  rw [List.append_nil] at rv
  have hlen : L (ds.length + 1) := hn ds fun z => by
    have w := Mo.wp_lift (Mo.wp_bind h1.2)
    rw [z] at w
    exact w
  exact run_makeP (E := WE fx.W) M F Ck.gd (Ck.rm.mono hj) (passAt Ck.tk σ) I2 hw rv fun x dx hx hdx hne => ⟨make_core cn na hlen r h1 hx hdx hne, x, vs, dx, rfl, upd_same⟩
end
end DL
namespace DL
open PySem PySem.Spec PyProof.Rows PySem.Calls L2 RZ
section
variable {prog : Program} {w : World} {A : Around} {E : Value → Shared → Prop} {s : Shared}
structure ZpSt (h : Heap) (z TI TO i1 i2 l1 l2 S : Addr) (xs ys : Array Value) (k : Nat) : Prop where
  ti : IsPair h TI (.ref i1) (.ref i2)
  a1 : h.IsTupleIter i1 l1 k
  a2 : h.IsTupleIter i2 l2 k
  b1 : h.IsTuple l1 xs
  b2 : h.IsTuple l2 ys
  st : (IsZip h z TI TO .none ∧ IsPair h TO .none .none) ∨ ∃ T f oT, IsZipHeld h z TI TO T f ∧ h.get? T = some oT ∧ T ≠ z ∧ T ≠ i1 ∧ T ≠ i2 ∧ T ≠ S
structure ZpOff (z TI TO i1 i2 l1 l2 S : Addr) : Prop where
  z : z ≠ S
  TI : TI ≠ S
  TO : TO ≠ S
  i1 : i1 ≠ S
  i2 : i2 ≠ S
  l1 : l1 ≠ S
  l2 : l2 ≠ S
theorem ZpSt.keep {h h' : Heap} {z TI TO i1 i2 l1 l2 S : Addr} {xs ys : Array Value} {k : Nat} (o : ZpOff z TI TO i1 i2 l1 l2 S) (a : ZpSt h z TI TO i1 i2 l1 l2 S xs ys k) (hk : ∀ b o, b ≠ S → h.get? b = some o → h'.get? b = some o) : ZpSt h' z TI TO i1 i2 l1 l2 S xs ys k where
  ti := hk _ _ o.TI a.ti
  a1 := a.a1.at fun u e => hk _ u o.i1 e
  a2 := a.a2.at fun u e => hk _ u o.i2 e
  b1 := a.b1.at fun u e => hk _ u o.l1 e
  b2 := a.b2.at fun u e => hk _ u o.l2 e
  st := a.st.elim (fun ⟨h1, h2⟩ => .inl ⟨hk _ _ o.z h1, hk _ _ o.TO h2⟩) fun ⟨T, f, oT, h1, h2, n1, n2, n3, n4⟩ => .inr ⟨T, f, oT, hk _ _ o.z h1, hk _ _ n4 h2, n1, n2, n3, n4⟩
end
def zipLD : List D → Option D
  | [.tup xs, .tup ys] => some (.lst (zipL xs ys))
  | _ => none
end DL
namespace DL
open PySem PySem.Spec PyProof.Rows L2
section
variable {X : Cx} {fx : Fx} {m : Type → Type} [Mo m] {G : List Sl} {o e : Expr} {pos apos : Pos} {x y : m D} [DL.TC]
theorem de_count (ho : PE X o (tE X.K X.mg fx G x)) (he : PE X e (tE X.K X.mg fx G y)) (hs : starEach [e] X.env = [(false, eval e X.env)] := by rfl) (hbase : attributeBase o "count" X.env (eval o X.env) = eval o X.env := by rfl) (hline : (apos.endLine == pos.line) = true := by rfl) :
    PE X (.Call (.Attribute o "count" apos) [e] [] pos) (tE X.K X.mg fx G (do let u ← x; let _ ← DL.ask (strOf u); let v ← y; DL.ask (strM (fun a b => .int (Txt.count ⟨a.toArray⟩ ⟨b.toArray⟩)) u v))) :=
  peI (pe_m1 PySem.F.slot_str_count PySem.F.type_str_count mt_count ho he hs hbase hline) fun σ H Q ⟨Hf, s, h⟩ =>
  (h.bind.mono fun v1 H1 ⟨d1, Hf1, s1, sb1, r1, h1⟩ => by
    have k := Mo.wp_lift (Mo.wp_bind h1.2)
    cases d1 with
    | str S =>
      obtain ⟨rfl, hz1⟩ := r1
      refine ⟨⟨_, rfl⟩, ?_⟩
      have h2 : tX X.K X.mg fx G (fun H d v => Is X.K X.mg H d v) (do let v ← y; DL.ask (strM (fun a b => .int (Txt.count ⟨a.toArray⟩ ⟨b.toArray⟩)) (.str S) v) : m D) Hf1 s1 σ H1 Q := ⟨h1.1, k⟩
      refine (h2.bind.mono fun v2 H2 ⟨d2, Hf2, s2, sb2, r2, h3⟩ => ?_).to
      obtain ⟨d, e, q⟩ := h3.ask
      cases d2 with
      | str T =>
        cases e
        obtain ⟨rfl, _⟩ := r2
        exact ⟨_, _, rfl, rfl, q _ Hf2 H2 (.refl h3.1.top) (is_int _)⟩
      | _ => cases e
    | _ => exact k.elim).to
end
section
variable {P : Program} {K : PySem.W.Frag} {mg : Str → Option Value} [DL.TC]
theorem supFun_mk {x qual : Str} {st : Stmt} {f fb D cda cc : Addr} {oc : Value} {od an : Option Addr} {osl : Array (Option Value)} {kV doc pm ct : Value} {ccl : Value} {cdd : Option Addr} {vs : Array Value} {ccs : Array (Option Value)} {file : Str} {tf : Tok} {cl : Value} {cld : Option Addr} {csl : Array (Option Value)} {ob : Value} {db : Option Addr} {fdb : FuncData} {sb : Array (Option Value)}
    (l : K.lookup f = some ⟨oc, od, .func (PySem.W.fnX x qual (defArgs st) (defBody st) (defScope st) [("__class__", cc)] .none kV doc pm an (.ref cda) ct), osl⟩) (c : PySem.W.codeIn K (.ref cda) qual = true) (lc : K.lookup cda = some ⟨ccl, cdd, .fields vs, ccs⟩) (hv : vs[2]? = some (.str file tf)) (hf : ((P.main.file : Str) == file) = true)
    (hcc : K.lookup cc = some ⟨cl, cld, .cell (some (.ref D)), csl⟩) (hcls : PySem.W.isClsIn K D = true) (mro : PySem.W.mroIn K D (.ref D) = some true) (sup : mg "super" = none) (top : (P.main.scope.names.lookup ("super" : Str)).isSome = false) (init : PySem.W.ks_superIn K D D "__init__" = some (some (.ref fb))) (ty : PySem.W.typeIn K (.ref fb) = some (.type "function"))
    (lb : K.lookup fb = some ⟨ob, db, .func fdb, sb⟩) (tp : PySem.W.nsIn K cStatics "thirdparty.any" = some none) :
    SupFun P K mg x qual st f fb D (PySem.W.fnX x qual (defArgs st) (defBody st) (defScope st) [("__class__", cc)] .none kV doc pm an (.ref cda) ct) :=
  ⟨⟨oc, od, kV, doc, pm, an, cda, cc, ct, osl, ccl, cdd, vs, ccs, file, tf, cl, cld, csl, rfl, l, c, lc, hv, hf, hcc⟩, Option.isSome_iff_exists.mp hcls, mro, sup, top, init, ty, by unfold PySem.W.fnIn; rw [lb], tp⟩
end
end DL
namespace DL
open PySem PySem.Spec PyProof.Rows L2
section
variable {X : Cx} {fx : Fx} {m : Type → Type} [Mo m] {G : List Sl} {o e : Expr} {pos apos : Pos} {x y : m D} [DL.TC]
def lstripD : D → D → Option D
  | .str a, .str b => if (Txt.lstripChars ⟨a.toArray⟩ ⟨b.toArray⟩).cps.toList.length ≤ sizeLine then some (.str (Txt.lstripChars ⟨a.toArray⟩ ⟨b.toArray⟩).cps.toList) else none
  | _, _ => none
end
end DL
namespace DL
open PySem PySem.Spec PyProof.Rows L2
def indexLD (a b : D) : Option D := match a, b with
  | .lst ds, .str z => match strsOf ds with
    | some ps => if z ∈ ps then some (.int ((ps.idxOf z : Nat) : Int)) else none
    | none => none
  | _, _ => none
end DL
namespace FN
open DL
def c_ALL_PORTS : D := (.tup [(.int (1)), (.int (65535))])
def c_HOST : D := (.str [104, 111, 115, 116])
def c_LONGEST_TEXT : D := (.int (8))
def c_PATH : D := (.str [112, 97, 116, 104])
def b_is_label_text_206f (a0 : D) : R (Fl Unit Empty) := (do let t22 ← (DL.orM (DL.notM (do let x2 ← (do let x1 ← (pure a0); DL.ask (isiD "str" x1)); DL.ask (truD x2))) (DL.orM (DL.notM (do let x6 ← (chainM leD leD (pure (.int 1)) (do let r5 ← (do let x3 ← (pure a0); let r4 ← pure []; pure (x3 :: r4)); DL.ask (lenD r5)) (pure c_LONGEST_TEXT)); DL.ask (bOf x6))) (do let x9 ← (do let x7 ← (pure a0); let _ ← DL.ask (strOf x7); let y8 ← (pure (.str [42])); DL.ask (strM (fun a b => .int (PySem.Txt.count ⟨a.toArray⟩ ⟨b.toArray⟩)) x7 y8)); let y10 ← (pure (.int 1)); DL.ask ((gtD x9 y10).bind bOf)))); seqF (if t22 = true then (do let v12 ← (pure (.bl false)); pure (.rt v12)) else (pure (.nx ()))) fun (q11 : Unit) => (do let v21 ← (notV (mkL (do let r20 ← (do let r13 ← (pure a0); DL.ask (itD r13)); lcF (fun d => some d) (fun (c15 : D) => (DL.andM (do let x16 ← (pure c15); let y17 ← (pure (.str [42])); DL.ask ((neD x16 y17).bind bOf)) (do let x18 ← (pure c15); let y19 ← (pure c_CHARACTERS); DL.ask ((notInD x18 y19).bind bOf)))) (fun (c15 : D) => (pure c15)) r20))); pure (.rt v21)))
theorem e_is_label_text_206f (a0 : D) : b_is_label_text_206f a0 = (do let t22 ← (DL.orM (DL.notM (do let x2 ← (DL.ask (isiD "str" a0)); DL.ask (truD x2))) (DL.orM (DL.notM (do let x6 ← (chainM leD leD (pure (.int 1)) (DL.ask (lenD [a0])) (pure c_LONGEST_TEXT)); DL.ask (bOf x6))) (do let _ ← DL.ask (strOf a0); let x9 ← (DL.ask (strM (fun a b => .int (PySem.Txt.count ⟨a.toArray⟩ ⟨b.toArray⟩)) a0 (.str [42]))); DL.ask ((gtD x9 (.int 1)).bind bOf)))); seqF (if t22 = true then (pure (.rt (.bl false))) else (pure (.nx ()))) fun (q11 : Unit) => (do let v21 ← (notV (mkL (do let r20 ← (DL.ask (itD a0)); lcF (fun d => some d) (fun (c15 : D) => (DL.andM (DL.ask ((neD c15 (.str [42])).bind bOf)) (DL.ask ((notInD c15 c_CHARACTERS).bind bOf)))) (fun (c15 : D) => (pure c15)) r20))); pure (.rt v21))) := by
  unfold b_is_label_text_206f; simp only [pure_bind, bind_assoc, mkL]
def m_is_label_text_206f : List D → R D := apR1 fun a0 => (runR false (b_is_label_text_206f a0))
theorem n_is_label_text_206f : ∀ ds : List D, m_is_label_text_206f ds ≠ .stuck → ds.length = 1 := apR1_len _
def b_Pattern_init_4a0d (a1 a2 a3 : D) : R (Fl (List D) Empty) := (do let t9 ← (do let x1 ← (pure a3); let y2 ← (pure .non); DL.ask ((isD x1 y2).bind bOf)); seqF (if t9 = true then (do let v4 ← (pure a1); raiseX "BadPattern" "pattern" v4) else (pure (.nx ()))) fun (q3 : Unit) => (do let v5 ← (pure a1); (do let v6 ← (pure a2); (do let v7 ← (pure a3); let c8 ← DL.ask (unN 3 v7); (pure (.nx [v5, v6, (c8.getD 0 .non), (c8.getD 1 .non), (c8.getD 2 .non)]))))))
def m_Pattern_init_4a0d : List D → R (List D) := apI3 fun a1 a2 a3 => runI (b_Pattern_init_4a0d a1 a2 a3)
theorem n_Pattern_init_4a0d : ∀ ds : List D, m_Pattern_init_4a0d ds ≠ .stuck → ds.length = 3 := apI3_len _
def b_ports_of_0eba (a0 : D) : R (Fl Unit Empty) := (do let t40 ← (do let x1 ← (pure a0); let y2 ← (pure (.str [42])); DL.ask ((eqD x1 y2).bind bOf)); seqF (if t40 = true then (do let v4 ← (pure c_ALL_PORTS); pure (.rt v4)) else (pure (.nx ()))) fun (q3 : Unit) => (do let v5 ← (do let x7 ← (pure a0); let _ ← DL.ask (strOf x7); let y8 ← (pure (.str [45])); DL.ask (partD x7 y8)); let c6 ← DL.ask (un3 v5); (do let v9 ← (do let r12 ← (do let x10 ← (pure c6.1); let r11 ← pure []; pure (x10 :: r11)); Mo.lift (m_port_of_e04e r12)); (do let v13 ← (iteM (do let x14 ← (pure c6.2.1); let y15 ← (pure (.str [])); DL.ask ((eqD x14 y15).bind bOf)) (pure v9) (do let r18 ← (do let x16 ← (pure c6.2.2); let r17 ← pure []; pure (x16 :: r17)); Mo.lift (m_port_of_e04e r18))); (do let t39 ← (DL.orM (do let x19 ← (pure v9); let y20 ← (pure .non); DL.ask ((isD x19 y20).bind bOf)) (do let x21 ← (pure v13); let y22 ← (pure .non); DL.ask ((isD x21 y22).bind bOf))); seqF (if t39 = true then (do let v24 ← (pure .non); pure (.rt v24)) else (pure (.nx ()))) fun (q23 : Unit) => (do let t38 ← (DL.andM (do let x25 ← (pure c6.2.1); let y26 ← (pure (.str [45])); DL.ask ((eqD x25 y26).bind bOf)) (do let x27 ← (pure v9); let y28 ← (pure v13); DL.ask ((geD x27 y28).bind bOf))); seqF (if t38 = true then (do let v30 ← (pure .non); pure (.rt v30)) else (pure (.nx ()))) fun (q29 : Unit) => (do let v37 ← (do let r35 ← (do let x33 ← (pure v9); let r34 ← (do let x31 ← (pure v13); let r32 ← pure []; pure (x31 :: r32)); pure (x33 :: r34)); let r36 ← DL.ask (szL r35); pure (.tup r36)); pure (.rt v37))))))))
def m_ports_of_0eba : List D → R D := apR1 fun a0 => (runR false (b_ports_of_0eba a0))
end FN
namespace FN
open DL PySem PySem.W
theorem parts_len (x : Str) (w : Nat) : ∀ (cuts : List Nat) (a : Nat), (StrLaws.partsFrom x w a cuts).length = cuts.length + 1
  | [], a => rfl
  | c :: r, a => by
    show (StrLaws.partsFrom x w (c + w) r).length + 1 = _
    rw [parts_len x w r]
    rfl
theorem spl_count {c : Nat} : ∀ (z acc : List Nat), (TL.spl [c] 0 acc z).length = z.count c + 1
  | [], acc => by rw [TL.spl_nil]; rfl
  | x :: r, acc => by
    by_cases h : x = c
    · subst h
      have hp : TL.pre [x] (x :: r) = true := by simp [TL.pre]
      rw [TL.spl_hit hp]
      show (TL.spl [x] 0 [] r).length + 1 = _
      rw [spl_count r, List.count_cons_self]
    · have hp : TL.pre [c] (x :: r) = false := TL.pre_of_head [] r h
      rw [TL.spl_miss hp, spl_count r, List.count_cons_of_ne h]
theorem count_one (a : List Nat) (c : Nat) : Txt.count ⟨a.toArray⟩ ⟨[c].toArray⟩ = (a.count c : Int) := by
  have hy : TL.tl (⟨[c].toArray⟩ : Str) ≠ [] := by simp [TL.tl]
  obtain ⟨f, g, hn⟩ := StrLaws.occ_tight ⟨a.toArray⟩ ⟨[c].toArray⟩ (TL.len1 hy)
  have key := congrArg List.length (TL.parts_spl hy _ 0 f (Nat.zero_le _) g hn)
  rw [List.length_map, parts_len, List.drop_zero] at key
  have e : TL.tl (⟨[c].toArray⟩ : Str) = [c] := rfl
  have e2 : TL.tl (⟨a.toArray⟩ : Str) = a := by simp [TL.tl]
  rw [e, e2, spl_count] at key
  unfold Txt.count
  omega
def isIt (z : List Nat) : Bool := decide (1 ≤ z.length) && decide (z.length ≤ 8) && decide (z.count 42 ≤ 1) && z.all fun c => decide (c = 42) || decide (c ∈ CH)
theorem item_ok (z : List Nat) : m_is_label_text_206f [.str z] = .ok (.bl (isIt z)) := by
  have is1 : isiD "str" (.str z) = some (.bl true) := rfl
  have hl : lenD [.str z] = some (.int z.length) := rfl
  have hc : strM (fun a b => .int (PySem.Txt.count ⟨a.toArray⟩ ⟨b.toArray⟩)) (.str z) (.str [42]) = some (.int (z.count 42 : Int)) := by
    show some (D.int (PySem.Txt.count ⟨z.toArray⟩ ⟨[42].toArray⟩)) = _
    rw [count_one]
  have hcm : (chainM leD leD (pure (.int 1)) (DL.ask (lenD [.str z])) (pure c_LONGEST_TEXT) : R D) = .ok (.bl (decide (1 ≤ (z.length : Int)) && decide ((z.length : Int) ≤ 8))) := by
    rw [hl]
    unfold chainM
    simp only [le_l, askR, pure_bind, Option.bind_some, bOf_bl, c_LONGEST_TEXT]
    cases decide (1 ≤ (z.length : Int)) <;> rfl
  have gt : (gtD (.int (z.count 42 : Int)) (.int 1)).bind bOf = some (decide ((1 : Int) < (z.count 42 : Int))) := rfl
  have ewalk : (lcF (fun d => some d) (fun (c15 : D) => (DL.andM (DL.ask ((neD c15 (.str [42])).bind bOf)) (DL.ask ((notInD c15 c_CHARACTERS).bind bOf)))) (fun (c15 : D) => (pure c15)) (chrs z) : R (List D)) = .ok ((chrs z).filter fun d => !(decide (sgn d = 42) || decide (sgn d ∈ CH))) := by
    refine (lcR (u := fun d => some d) (xe := fun c15 : D => (pure c15 : R D)) (c := fun d => d) (p := fun d => !(decide (sgn d = 42) || decide (sgn d ∈ CH))) (f := fun d => d) (chrs z) (fun _ _ => rfl) (fun d m => ?_) (fun _ _ _ => rfl)).trans ?_
    rotate_left
    · rw [List.map_id']
    · obtain ⟨c, _, rfl⟩ := chrs_mem m
      have e1 : (neD (.str [c]) (.str [42])).bind bOf = some (!decide ([c] = [42])) := by rw [ne_ss]; rfl
      have e2 : (notInD (.str [c]) c_CHARACTERS).bind bOf = some (!decide (c ∈ CH)) := notin_sign
      have e3 : decide ([c] = [42]) = decide (c = 42) := by simp
      have e4 : sgn (.str [c]) = c := rfl
      simp only [DL.andM, e1, e2, e3, e4, askR, pure_bind]
      cases decide (c = 42) <;> rfl
  unfold m_is_label_text_206f apR1
  simp only [e_is_label_text_206f, is1, DL.notM, DL.orM, askR, pure_bind, tru_bl, Bool.not_true, Bool.false_eq_true, if_false, hcm, okpR, bOf_bl, str_of, hc, gt, it_str, ewalk]
  unfold isIt
  by_cases h1 : 1 ≤ z.length
  · by_cases h2 : z.length ≤ 8
    · by_cases h3 : z.count 42 ≤ 1
      · have e1 : decide ((1 : Int) ≤ (z.length : Int)) = true := decide_eq_true (by omega)
        have e2 : decide ((z.length : Int) ≤ 8) = true := decide_eq_true (by omega)
        have e3 : decide ((1 : Int) < (z.count 42 : Int)) = false := decide_eq_false (by omega)
        simp only [e1, e2, e3, Bool.and_self, Bool.not_true, Bool.false_eq_true, if_false, decide_eq_true h1, decide_eq_true h2, decide_eq_true h3, Bool.true_and]
        rw [filter_chrs (fun c => !(decide (c = 42) || decide (c ∈ CH)))]
        have ef := filter_none (z := z) (p := fun c => decide (c = 42) || decide (c ∈ CH))
        show R.ok (D.bl (!(!(chrs (List.filter (fun c => !(decide (c = 42) || decide (c ∈ CH))) z)).isEmpty))) = _
        rw [chrs_empty, ef, Bool.not_not]
        rfl
      · have e1 : decide ((1 : Int) ≤ (z.length : Int)) = true := decide_eq_true (by omega)
        have e2 : decide ((z.length : Int) ≤ 8) = true := decide_eq_true (by omega)
        have e3 : decide ((1 : Int) < (z.count 42 : Int)) = true := decide_eq_true (by omega)
        simp only [e1, e2, e3, Bool.and_self, Bool.not_true, Bool.false_eq_true, if_false, if_true, decide_eq_false h3, Bool.and_false, Bool.false_and]
        rfl
    · have e1 : decide ((1 : Int) ≤ (z.length : Int)) = true := decide_eq_true (by omega)
      have e2 : decide ((z.length : Int) ≤ 8) = false := decide_eq_false (by omega)
      simp only [e1, e2, Bool.and_false, Bool.not_false, if_true, decide_eq_false h2, Bool.and_false, Bool.false_and]
      rfl
  · have e1 : decide ((1 : Int) ≤ (z.length : Int)) = false := decide_eq_false (by omega)
    simp only [e1, Bool.false_and, Bool.not_false, if_true, decide_eq_false h1, Bool.false_and]
    rfl
def gp : List Nat := [42, 42]
theorem it_gap {z : List Nat} (h : isIt z = true) : z ≠ gp := by
  rintro rfl
  revert h
  decide
theorem cut_toD {z : List D} {n : Nat} : cutL z none (some (n : Int)) = z.take n := by rw [cut_hi (by omega)]; rfl
theorem cut_fromD {z : List D} {n : Nat} : cutL z (some ((n : Int) + 1)) none = z.drop (n + 1) := by
  have := cut_lo (z := z) (i := (n : Int) + 1) (by omega)
  rw [this]
  congr 1
def PatI (l0 l1 mh mt : Nat) (I h t : List (List Nat)) (g : Bool) : Prop := (∀ z ∈ h ++ t, isIt z = true) ∧ ((g = false ∧ I = h ∧ t = [] ∧ l0 ≤ h.length ∧ h.length ≤ l1) ∨ (g = true ∧ I = h ++ gp :: t ∧ h.length ≤ mh ∧ t.length ≤ mt))
theorem pat_mem {l0 l1 mh mt : Nat} {I h t : List (List Nat)} {g : Bool} (p : PatI l0 l1 mh mt I h t g) : ∀ z ∈ I, z = gp ∨ isIt z = true := by
  obtain ⟨hz, ⟨rfl, rfl, rfl, h0, h1⟩ | ⟨rfl, rfl, h0, h1⟩⟩ := p
  · exact fun z m => .inr (hz z (by simpa using m))
  · intro z m
    rcases List.mem_append.mp m with m | m
    · exact .inr (hz z (List.mem_append_left _ m))
    · rcases List.mem_cons.mp m with m | m
      · exact .inl m
      · exact .inr (hz z (List.mem_append_right _ m))
theorem it_free {z : List Nat} {s : Nat} (h : z = gp ∨ isIt z = true) (hs : s ∉ CH) (h2 : s ≠ 42) : s ∉ z := by
  intro m
  rcases h with rfl | h
  · simp only [gp, List.mem_cons, List.not_mem_nil, or_false, or_self] at m
    exact h2 m
  · unfold isIt at h
    simp only [Bool.and_eq_true] at h
    have := List.all_eq_true.mp h.2 s m
    simp only [Bool.or_eq_true, decide_eq_true_eq] at this
    rcases this with e | e
    · exact h2 e
    · exact hs e
theorem it_len {z : List Nat} (h : z = gp ∨ isIt z = true) : z.length ≤ 8 := by
  rcases h with rfl | h
  · decide
  · unfold isIt at h
    simp only [Bool.and_eq_true, decide_eq_true_eq] at h
    exact h.1.1.2
theorem join_len {s : Nat} : ∀ {I : List (List Nat)}, (∀ z ∈ I, z.length ≤ 8) → (joinN [s] I).length ≤ 9 * I.length
  | [], _ => Nat.zero_le _
  | [p], h => by
    show p.length ≤ 9 * 1
    have := h p (.head _)
    omega
  | p :: q :: r, h => by
    show (p ++ ([s] ++ joinN [s] (q :: r))).length ≤ _
    have ih := join_len (s := s) (I := q :: r) fun z m => h z (.tail _ m)
    have := h p (.head _)
    simp only [List.length_append, List.length_cons, List.length_nil] at ih ⊢
    omega
def iPd (i j : Int) : D := .tup [.int i, .int j]
def Dr (t : List Nat) (pd : D) : Prop := (t = [] ∧ pd = .non) ∨ ∃ u lo hi, t = 58 :: u ∧ pd = iPd lo hi ∧ 1 ≤ lo ∧ lo ≤ hi ∧ hi ≤ 65535 ∧ m_ports_of_0eba [.str u] = .ok (iPd lo hi) ∧ 47 ∉ u ∧ (∀ c ∈ u, c < 1114112) ∧ u.length ≤ 100
theorem in_strsT {k : Nat} {z : List Nat} {S : List (List Nat)} (h : Tx k z) (hz : ∀ w ∈ S, Tx 1000 w) : inP (.str z) (.tup (S.map .str)) = some (decide (z ∈ S)) := by
  have e : inP (.str z) (.tup (S.map .str)) = match toPy (.str z), toPy (.tup (S.map .str)) with
    | some x, some (.tuple ys) => if SeqAt.shaped x && SeqAt.shaped (.tuple ys) then some (ys.any fun z => PyData.eqv z x) else none
    | _, _ => none := by
    unfold inP
    split
    · rename_i q; cases q
    · rename_i q; cases q
    · rename_i ds _ q; cases q; rfl
    · rename_i q1 q2 q3; first | exact absurd rfl (q1 _) | exact absurd rfl (q2 _) | exact absurd rfl (q3 _)
  rw [e, toPy, toPy, toPyL_strs]
  simp only [Option.map_some, shaped_str h, (shaped_strs hz).2, Bool.and_self, if_true, any_strs]
theorem notin_T {k : Nat} {z : List Nat} {S : List (List Nat)} (h : Tx k z) (hz : ∀ w ∈ S, Tx 1000 w) : (notInD (.str z) (.tup (S.map .str))).bind bOf = some (!decide (z ∈ S)) := by
  unfold notInD
  rw [in_strsT h hz]
  rfl
theorem tx_all {S : List (List Nat)} (h : (S.all fun w => decide (w.length ≤ 1000) && w.all fun c => decide (c < 1114112)) = true) : ∀ w ∈ S, Tx 1000 w := fun w m => by
  have := List.all_eq_true.mp h w m
  simp only [Bool.and_eq_true, decide_eq_true_eq, List.all_eq_true] at this
  exact ⟨this.1, fun c hc => by simpa using this.2 c hc⟩
theorem ix_zero {c : Nat} {r : List Nat} : ixD (.str (c :: r)) (.int 0) = some (.str [c]) := by
  unfold ixD L2.atI
  simp only [ixN_ok (n := (c :: r).length) (i := 0) (Int.le_refl 0) (by simp)]
  rfl
def Sg (s : List Nat) : Prop := s = [43] ∨ s = [45]
def Wd (w : List Nat) : Prop := w = [97, 110, 121] ∨ w = kHttp ∨ w = kHttps
def wrt (t : List Nat) : List Nat := t.drop 1
def ruT (s w nm t pj : List Nat) : List Nat := s ++ [32] ++ w ++ [58, 47, 47] ++ nm ++ t ++ [47] ++ pj
def PNs : List Str := ["text", "level", "head", "tail", "gap"]
def RNs : List Str := ["text", "sign", "scheme", "written_ports", "ports", "near", "host", "path"]
def ptF (x : List Nat) (lv : D) (h t : List (List Nat)) (g : Bool) : List D := [.str x, lv, .tup (h.map .str), .tup (t.map .str), .bl g]
inductive NmK : List Nat → D → D → Prop
  | near {A : List (List Nat)} (h0 : A ≠ []) (hl : A.length ≤ 4) (hA : ∀ z ∈ A, isLab 20 z = true) : NmK (126 :: joinN [46] A) (.tup (A.map .str)) .non
  | host {I h t : List (List Nat)} {g : Bool} (p : PatI 1 4 3 2 I.reverse h t g) (h0 : I ≠ []) (hl : I.length ≤ 10) : NmK (joinN [46] I) .non (.ins "HostPattern" PNs (ptF (joinN [46] I) c_HOST h t g))
theorem nm_len {nm : List Nat} {n h : D} (k : NmK nm n h) : nm.length ≤ 1000 := by
  cases k with
  | near h0 hl hA =>
    have hr : okRow _ = true := row_of (by omega) hA
    have e : ∀ {A : List (List Nat)}, (∀ z ∈ A, z.length ≤ 20) → (joinN [46] A).length ≤ 21 * A.length := by
      intro A
      induction A with
      | nil => intro _; exact Nat.zero_le _
      | cons z r ih =>
        intro h
        cases r with
        | nil =>
          show z.length ≤ 21 * 1
          have := h z (.head _)
          omega
        | cons q r =>
          show (z ++ ([46] ++ joinN [46] (q :: r))).length ≤ _
          have := ih fun z m => h z (.tail _ m)
          have := h z (.head _)
          simp only [List.length_append, List.length_cons, List.length_nil] at *
          omega
    have := e fun z m => (lab_tx (hA z m)).1
    simp only [List.length_cons]
    have hl' := hl
    omega
  | host p h0 hl =>
    have := join_len (s := 46) fun z m => it_len (pat_mem p z (by simpa using m))
    omega
def ruF (s w nm t pj : List Nat) (pd near host path : D) : List D := [.str (ruT s w nm t pj), .str s, .str w, .str (wrt t), pd, near, host, path]
inductive HpD : D → List Nat → D → D → Prop
  | near {A : List (List Nat)} (h0 : A ≠ []) (hl : A.length ≤ 4) (hA : ∀ z ∈ A, isLab 20 z = true) : HpD (.tup [.str [126], .tup (A.map .str)]) (126 :: joinN [46] A) (.tup (A.map .str)) .non
  | host {I h t : List (List Nat)} {g : Bool} (p : PatI 1 4 3 2 I.reverse h t g) (h0 : I ≠ []) (hl : I.length ≤ 10) : HpD (.tup [.str [], .lst (I.map .str)]) (joinN [46] I) .non (.ins "HostPattern" PNs (ptF (joinN [46] I) c_HOST h t g))
theorem HpD.nm {d : D} {nm : List Nat} {n h : D} (k : HpD d nm n h) : NmK nm n h := by
  cases k with
  | near h0 hl hA => exact .near h0 hl hA
  | host p h0 hl => exact .host p h0 hl
inductive PjD : D → List Nat → D → Prop
  | mk {J h t : List (List Nat)} {g : Bool} (p : PatI 0 3 2 2 J h t g) (hl : J.length ≤ 10) : PjD (.lst (J.map .str)) (joinN [47] J) (.ins "PathPattern" PNs (ptF (47 :: joinN [47] J) c_PATH h t g))
theorem sum_le8 {I : List (List Nat)} {k : Nat} (h : ∀ z ∈ I, z.length ≤ k) (hl : I.length ≤ 1000) (hk : k ≤ 100) : (I.map (·.length)).sum + I.length * 1 ≤ 16777216 := by
  have := sum_le h
  have : I.length * k ≤ 1000 * 100 := Nat.mul_le_mul hl hk
  omega
theorem HpD.join {d : D} {nm : List Nat} {n h : D} (k : HpD d nm n h) : ∃ p x r j, d = .tup [.str p, x] ∧ listD [x] = some r ∧ szL r = some r ∧ joinD (.str [46]) (.lst r) = some (.str j) ∧ nm = p ++ j ∧ p.length ≤ 1 ∧ j.length ≤ 1000 := by
  have hn := nm_len k.nm
  cases k with
  | @near A h0 hl hA =>
    refine ⟨[126], .tup (A.map .str), A.map .str, joinN [46] A, rfl, rfl, sz_ok (by rw [List.length_map]; omega), join_ok (sum_le8 (k := 20) (fun z m => (isLab_iff.mp (hA z m)).2.1) (by omega) (by omega)), rfl, by simp, ?_⟩
    simp only [List.length_cons] at hn
    omega
  | @host I h t g p h0 hl =>
    exact ⟨[], .lst (I.map .str), I.map .str, joinN [46] I, rfl, rfl, sz_ok (by rw [List.length_map]; omega), join_ok (sum_le8 (k := 8) (fun z m => it_len (pat_mem p z (by simpa using m))) (by omega) (by omega)), rfl, by simp, hn⟩
inductive RuD : D → List Nat → List D → Prop
  | mk {s w nm t pj : List Nat} {part pd near host path J : D} (hs : Sg s) (hw : Wd w) (ht : Dr t pd) (hn : HpD part nm near host) (hp : PjD J pj path) : RuD (.tup [.str s, .str w, part, pd, J]) (ruT s w nm t pj) (ruF s w nm t pj pd near host path)
end FN
namespace DL
open PySem PySem.Spec PyProof.Rows L2
section
variable {X : Cx} {fx : Fx} {m : Type → Type} [Mo m] {G : List Sl} {α β : Type} {ss : List Stmt} {ex : α → List Sl} {exb : β → List Sl} [DL.TC]
theorem pss_k {k k' : m (Fl α β)} (e : k = k') (h : PSs X ss (tS X.K X.mg fx G ex exb k')) : PSs X ss (tS X.K X.mg fx G ex exb k) := by
  rw [e]
  exact h
end
end DL
namespace DL
open PySem PySem.Spec PyProof.Rows L2
end DL
namespace DL
open PySem PySem.Spec PyProof.Rows L2
end DL
namespace FN
open DL PySem PySem.W
def b_label_fits_6e5b (a0 a1 : D) : R (Fl Unit Empty) := (do let v1 ← (do let x3 ← (pure a0); let _ ← DL.ask (strOf x3); let y4 ← (pure (.str [42])); DL.ask (partD x3 y4)); let c2 ← DL.ask (un3 v1); (do let t29 ← (do let x5 ← (pure c2.2.1); let y6 ← (pure (.str [])); DL.ask ((eqD x5 y6).bind bOf)); seqF (if t29 = true then (do let v10 ← (do let x8 ← (pure a0); let y9 ← (pure a1); DL.ask (eqD x8 y9)); pure (.rt v10)) else (pure (.nx ()))) fun (q7 : Unit) => (do let v28 ← (andV (do let x22 ← (do let r13 ← (do let x11 ← (pure a1); let r12 ← pure []; pure (x11 :: r12)); DL.ask (lenD r13)); let y23 ← (do let x20 ← (do let r16 ← (do let x14 ← (pure c2.1); let r15 ← pure []; pure (x14 :: r15)); DL.ask (lenD r16)); let y21 ← (do let r19 ← (do let x17 ← (pure c2.2.2); let r18 ← pure []; pure (x17 :: r18)); DL.ask (lenD r19)); DL.ask (addD x20 y21)); DL.ask (geD x22 y23)) (andV (do let x24 ← (pure a1); let _ ← DL.ask (strOf x24); let y25 ← (pure c2.1); DL.ask (strM (fun a b => .bl (PySem.Txt.startswith ⟨a.toArray⟩ ⟨b.toArray⟩)) x24 y25)) (do let x26 ← (pure a1); let _ ← DL.ask (strOf x26); let y27 ← (pure c2.2.2); DL.ask (strM (fun a b => .bl (PySem.Txt.endswith ⟨a.toArray⟩ ⟨b.toArray⟩)) x26 y27)))); pure (.rt v28))))
theorem e_label_fits_6e5b (a0 a1 : D) : b_label_fits_6e5b a0 a1 = (do let _ ← DL.ask (strOf a0); let v1 ← (DL.ask (partD a0 (.str [42]))); let c2 ← DL.ask (un3 v1); let t29 ← (DL.ask ((eqD c2.2.1 (.str [])).bind bOf)); seqF (if t29 = true then (do let v10 ← (DL.ask (eqD a0 a1)); pure (.rt v10)) else (pure (.nx ()))) fun (q7 : Unit) => (do let v28 ← (andV (do let x22 ← (DL.ask (lenD [a1])); let x20 ← (DL.ask (lenD [c2.1])); let y21 ← (DL.ask (lenD [c2.2.2])); let y23 ← (DL.ask (addD x20 y21)); DL.ask (geD x22 y23)) (andV (do let _ ← DL.ask (strOf a1); DL.ask (strM (fun a b => .bl (PySem.Txt.startswith ⟨a.toArray⟩ ⟨b.toArray⟩)) a1 c2.1)) (do let _ ← DL.ask (strOf a1); DL.ask (strM (fun a b => .bl (PySem.Txt.endswith ⟨a.toArray⟩ ⟨b.toArray⟩)) a1 c2.2.2)))); pure (.rt v28))) := by
  unfold b_label_fits_6e5b; simp only [pure_bind, bind_assoc, mkL]
def m_label_fits_6e5b : List D → R D := apR2 fun a0 a1 => (runR false (b_label_fits_6e5b a0 a1))
theorem n_label_fits_6e5b : ∀ ds : List D, m_label_fits_6e5b ds ≠ .stuck → ds.length = 2 := apR2_len _
def b__law_fits_b893 (a0 a1 : D) : R (Fl Unit Empty) := (do let t53 ← (do let x1 ← (pure (.str [42])); let y2 ← (pure a0); DL.ask ((notInD x1 y2).bind bOf)); seqF (if t53 = true then (do let v6 ← (do let x4 ← (pure a0); let y5 ← (pure a1); DL.ask (eqD x4 y5)); pure (.rt v6)) else (pure (.nx ()))) fun (q3 : Unit) => (do let v7 ← (do let x9 ← (pure a0); let _ ← DL.ask (strOf x9); let y10 ← (pure (.str [42])); DL.ask (partD x9 y10)); let c8 ← DL.ask (un3 v7); (do let t52 ← (do let x22 ← (do let r13 ← (do let x11 ← (pure a1); let r12 ← pure []; pure (x11 :: r12)); DL.ask (lenD r13)); let y23 ← (do let x20 ← (do let r16 ← (do let x14 ← (pure c8.1); let r15 ← pure []; pure (x14 :: r15)); DL.ask (lenD r16)); let y21 ← (do let r19 ← (do let x17 ← (pure c8.2.2); let r18 ← pure []; pure (x17 :: r18)); DL.ask (lenD r19)); DL.ask (addD x20 y21)); DL.ask ((ltD x22 y23).bind bOf)); seqF (if t52 = true then (do let v25 ← (pure (.bl false)); pure (.rt v25)) else (pure (.nx ()))) fun (q24 : Unit) => (do let v51 ← (andV (do let x34 ← (do let x31 ← (pure a1); let l32 ← (pure none); let u33 ← (do let x29 ← (do let r28 ← (do let x26 ← (pure c8.1); let r27 ← pure []; pure (x26 :: r27)); DL.ask (lenD r28)); let i30 ← DL.ask (intOf x29); pure (some i30)); DL.ask (sliceD x31 l32 u33)); let y35 ← (pure c8.1); DL.ask (eqD x34 y35)) (do let x49 ← (do let x46 ← (pure a1); let l47 ← (do let x44 ← (do let x42 ← (do let r38 ← (do let x36 ← (pure a1); let r37 ← pure []; pure (x36 :: r37)); DL.ask (lenD r38)); let y43 ← (do let r41 ← (do let x39 ← (pure c8.2.2); let r40 ← pure []; pure (x39 :: r40)); DL.ask (lenD r41)); DL.ask (subD x42 y43)); let i45 ← DL.ask (intOf x44); pure (some i45)); let u48 ← (pure none); DL.ask (sliceD x46 l47 u48)); let y50 ← (pure c8.2.2); DL.ask (eqD x49 y50))); pure (.rt v51)))))
theorem e__law_fits_b893 (a0 a1 : D) : b__law_fits_b893 a0 a1 = (do let t53 ← (DL.ask ((notInD (.str [42]) a0).bind bOf)); seqF (if t53 = true then (do let v6 ← (DL.ask (eqD a0 a1)); pure (.rt v6)) else (pure (.nx ()))) fun (q3 : Unit) => (do let _ ← DL.ask (strOf a0); let v7 ← (DL.ask (partD a0 (.str [42]))); let c8 ← DL.ask (un3 v7); let x22 ← (DL.ask (lenD [a1])); let x20 ← (DL.ask (lenD [c8.1])); let y21 ← (DL.ask (lenD [c8.2.2])); let y23 ← (DL.ask (addD x20 y21)); let t52 ← (DL.ask ((ltD x22 y23).bind bOf)); seqF (if t52 = true then (pure (.rt (.bl false))) else (pure (.nx ()))) fun (q24 : Unit) => (do let v51 ← (andV (do let x29 ← (DL.ask (lenD [c8.1])); let i30 ← DL.ask (intOf x29); let x34 ← (DL.ask (sliceD a1 none (some i30))); DL.ask (eqD x34 c8.1)) (do let x42 ← (DL.ask (lenD [a1])); let y43 ← (DL.ask (lenD [c8.2.2])); let x44 ← (DL.ask (subD x42 y43)); let i45 ← DL.ask (intOf x44); let x49 ← (DL.ask (sliceD a1 (some i45) none)); DL.ask (eqD x49 c8.2.2))); pure (.rt v51)))) := by
  unfold b__law_fits_b893; simp only [pure_bind, bind_assoc, mkL]
def m__law_fits_b893 : List D → R D := apR2 fun a0 a1 => (runR false (b__law_fits_b893 a0 a1))
def b__law_default_6094 (a0 : D) : R (Fl Unit Empty) := (do let v3 ← (iteM (do let x1 ← (pure a0); let y2 ← (pure (.str [104, 116, 116, 112])); DL.ask ((eqD x1 y2).bind bOf)) (pure (.int 80)) (pure (.int 443))); pure (.rt v3))
def m__law_default_6094 : List D → R D := apR1 fun a0 => (runR false (b__law_default_6094 a0))
def b_row_fits_a0db (a0 a1 : D) : R (Fl Unit Empty) := (do let v1 ← (pure a0); let c2 ← DL.ask (un3 v1); (do let t64 ← (DL.orM (do let x14 ← (do let r5 ← (do let x3 ← (pure a1); let r4 ← pure []; pure (x3 :: r4)); DL.ask (lenD r5)); let y15 ← (do let x12 ← (do let r8 ← (do let x6 ← (pure c2.1); let r7 ← pure []; pure (x6 :: r7)); DL.ask (lenD r8)); let y13 ← (do let r11 ← (do let x9 ← (pure c2.2.1); let r10 ← pure []; pure (x9 :: r10)); DL.ask (lenD r11)); DL.ask (addD x12 y13)); DL.ask ((ltD x14 y15).bind bOf)) (DL.andM (DL.notM (do let x16 ← (pure c2.2.2); DL.ask (truD x16))) (do let x23 ← (do let r19 ← (do let x17 ← (pure a1); let r18 ← pure []; pure (x17 :: r18)); DL.ask (lenD r19)); let y24 ← (do let r22 ← (do let x20 ← (pure c2.1); let r21 ← pure []; pure (x20 :: r21)); DL.ask (lenD r22)); DL.ask ((gtD x23 y24).bind bOf)))); seqF (if t64 = true then (do let v26 ← (pure (.bl false)); pure (.rt v26)) else (pure (.nx ()))) fun (q25 : Unit) => (do let v27 ← (do let x51 ← (do let r32 ← (do let x30 ← (pure c2.1); let r31 ← (do let x28 ← (pure a1); let r29 ← pure []; pure (x28 :: r29)); pure (x30 :: r31)); DL.ask (zipLD r32)); let y52 ← (do let r50 ← (do let x48 ← (pure c2.2.1); let r49 ← (do let x46 ← (do let x43 ← (pure a1); let l44 ← (do let x41 ← (do let x39 ← (do let r35 ← (do let x33 ← (pure a1); let r34 ← pure []; pure (x33 :: r34)); DL.ask (lenD r35)); let y40 ← (do let r38 ← (do let x36 ← (pure c2.2.1); let r37 ← pure []; pure (x36 :: r37)); DL.ask (lenD r38)); DL.ask (subD x39 y40)); let i42 ← DL.ask (intOf x41); pure (some i42)); let u45 ← (pure none); DL.ask (sliceD x43 l44 u45)); let r47 ← pure []; pure (x46 :: r47)); pure (x48 :: r49)); DL.ask (zipLD r50)); DL.ask (addD x51 y52)); (do let v63 ← (notV (mkL (do let r62 ← (do let r53 ← (pure v27); DL.ask (itD r53)); lcF un2 (fun (c55 : D × D) => (DL.notM (do let x61 ← (do let r60 ← (do let x58 ← (pure c55.1); let r59 ← (do let x56 ← (pure c55.2); let r57 ← pure []; pure (x56 :: r57)); pure (x58 :: r59)); Mo.lift (m_label_fits_6e5b r60)); DL.ask (truD x61)))) (fun (c55 : D × D) => (pure c55.2)) r62))); pure (.rt v63)))))
theorem e_row_fits_a0db (a0 a1 : D) : b_row_fits_a0db a0 a1 = (do let c2 ← DL.ask (un3 a0); let t64 ← (DL.orM (do let x14 ← (DL.ask (lenD [a1])); let x12 ← (DL.ask (lenD [c2.1])); let y13 ← (DL.ask (lenD [c2.2.1])); let y15 ← (DL.ask (addD x12 y13)); DL.ask ((ltD x14 y15).bind bOf)) (DL.andM (DL.notM (DL.ask (truD c2.2.2))) (do let x23 ← (DL.ask (lenD [a1])); let y24 ← (DL.ask (lenD [c2.1])); DL.ask ((gtD x23 y24).bind bOf)))); seqF (if t64 = true then (pure (.rt (.bl false))) else (pure (.nx ()))) fun (q25 : Unit) => (do let x51 ← (DL.ask (zipLD [c2.1, a1])); let x39 ← (DL.ask (lenD [a1])); let y40 ← (DL.ask (lenD [c2.2.1])); let x41 ← (DL.ask (subD x39 y40)); let i42 ← DL.ask (intOf x41); let x46 ← (DL.ask (sliceD a1 (some i42) none)); let y52 ← (DL.ask (zipLD [c2.2.1, x46])); let v27 ← (DL.ask (addD x51 y52)); let v63 ← (notV (mkL (do let r62 ← (DL.ask (itD v27)); lcF un2 (fun (c55 : D × D) => (DL.notM (do let x61 ← (Mo.lift (m_label_fits_6e5b [c55.1, c55.2])); DL.ask (truD x61)))) (fun (c55 : D × D) => (pure c55.2)) r62))); pure (.rt v63))) := by
  unfold b_row_fits_a0db; simp only [pure_bind, bind_assoc, mkL]
def m_row_fits_a0db : List D → R D := apR2 fun a0 a1 => (runR false (b_row_fits_a0db a0 a1))
def b__law_all_fit_d024 (a0 a1 : D) : R (Fl Unit Empty) := (do let v17 ← (do let r16 ← (do let x14 ← (mkL (do let r13 ← (do let r5 ← (do let x3 ← (pure a0); let r4 ← (do let x1 ← (pure a1); let r2 ← pure []; pure (x1 :: r2)); pure (x3 :: r4)); DL.ask (zipD r5)); lcF un2 (fun (c7 : D × D) => pure true) (fun (c7 : D × D) => (do let r12 ← (do let x10 ← (pure c7.1); let r11 ← (do let x8 ← (pure c7.2); let r9 ← pure []; pure (x8 :: r9)); pure (x10 :: r11)); Mo.lift (m__law_fits_b893 r12))) r13)); let r15 ← pure []; pure (x14 :: r15)); DL.ask (allD r16)); pure (.rt v17))
theorem e__law_all_fit_d024 (a0 a1 : D) : b__law_all_fit_d024 a0 a1 = (do let r13 ← (DL.ask (zipD [a0, a1])); let x14 ← (lcF un2 (fun (c7 : D × D) => pure true) (fun (c7 : D × D) => (Mo.lift (m__law_fits_b893 [c7.1, c7.2]))) r13); let v17 ← (DL.ask (allD [(.lst x14)])); pure (.rt v17)) := by
  unfold b__law_all_fit_d024; simp only [pure_bind, bind_assoc, mkL]
def m__law_all_fit_d024 : List D → R D := apR2 fun a0 a1 => (runR false (b__law_all_fit_d024 a0 a1))
def b__law_row_fits_3c3f (a0 a1 : D) : R (Fl Unit Empty) := (do let t75 ← (do let x1 ← (pure (.str [42, 42])); let y2 ← (pure a0); DL.ask ((notInD x1 y2).bind bOf)); seqF (if t75 = true then (do let v17 ← (andV (do let x10 ← (do let r6 ← (do let x4 ← (pure a0); let r5 ← pure []; pure (x4 :: r5)); DL.ask (lenD r6)); let y11 ← (do let r9 ← (do let x7 ← (pure a1); let r8 ← pure []; pure (x7 :: r8)); DL.ask (lenD r9)); DL.ask (eqD x10 y11)) (do let r16 ← (do let x14 ← (pure a0); let r15 ← (do let x12 ← (pure a1); let r13 ← pure []; pure (x12 :: r13)); pure (x14 :: r15)); Mo.lift (m__law_all_fit_d024 r16))); pure (.rt v17)) else (pure (.nx ()))) fun (q3 : Unit) => (do let v18 ← (do let x19 ← (pure a0); let _ ← DL.ask (lstOf x19); let y20 ← (pure (.str [42, 42])); DL.ask (indexLD x19 y20)); (do let v21 ← (do let x25 ← (pure a0); let l26 ← (pure none); let u27 ← (do let x23 ← (pure v18); let i24 ← DL.ask (intOf x23); pure (some i24)); DL.ask (sliceD x25 l26 u27)); let v22 ← (do let x32 ← (pure a0); let l33 ← (do let x30 ← (do let x28 ← (pure v18); let y29 ← (pure (.int 1)); DL.ask (addD x28 y29)); let i31 ← DL.ask (intOf x30); pure (some i31)); let u34 ← (pure none); DL.ask (sliceD x32 l33 u34)); (do let t74 ← (do let x46 ← (do let r37 ← (do let x35 ← (pure a1); let r36 ← pure []; pure (x35 :: r36)); DL.ask (lenD r37)); let y47 ← (do let x44 ← (do let r40 ← (do let x38 ← (pure v21); let r39 ← pure []; pure (x38 :: r39)); DL.ask (lenD r40)); let y45 ← (do let r43 ← (do let x41 ← (pure v22); let r42 ← pure []; pure (x41 :: r42)); DL.ask (lenD r43)); DL.ask (addD x44 y45)); DL.ask ((ltD x46 y47).bind bOf)); seqF (if t74 = true then (do let v49 ← (pure (.bl false)); pure (.rt v49)) else (pure (.nx ()))) fun (q48 : Unit) => (do let v73 ← (andV (do let r54 ← (do let x52 ← (pure v21); let r53 ← (do let x50 ← (pure a1); let r51 ← pure []; pure (x50 :: r51)); pure (x52 :: r53)); Mo.lift (m__law_all_fit_d024 r54)) (do let r72 ← (do let x70 ← (pure v22); let r71 ← (do let x68 ← (do let x65 ← (pure a1); let l66 ← (do let x63 ← (do let x61 ← (do let r57 ← (do let x55 ← (pure a1); let r56 ← pure []; pure (x55 :: r56)); DL.ask (lenD r57)); let y62 ← (do let r60 ← (do let x58 ← (pure v22); let r59 ← pure []; pure (x58 :: r59)); DL.ask (lenD r60)); DL.ask (subD x61 y62)); let i64 ← DL.ask (intOf x63); pure (some i64)); let u67 ← (pure none); DL.ask (sliceD x65 l66 u67)); let r69 ← pure []; pure (x68 :: r69)); pure (x70 :: r71)); Mo.lift (m__law_all_fit_d024 r72))); pure (.rt v73))))))
theorem e__law_row_fits_3c3f (a0 a1 : D) : b__law_row_fits_3c3f a0 a1 = (do let t75 ← (DL.ask ((notInD (.str [42, 42]) a0).bind bOf)); seqF (if t75 = true then (do let v17 ← (andV (do let x10 ← (DL.ask (lenD [a0])); let y11 ← (DL.ask (lenD [a1])); DL.ask (eqD x10 y11)) (Mo.lift (m__law_all_fit_d024 [a0, a1]))); pure (.rt v17)) else (pure (.nx ()))) fun (q3 : Unit) => (do let _ ← DL.ask (lstOf a0); let v18 ← (DL.ask (indexLD a0 (.str [42, 42]))); let i24 ← DL.ask (intOf v18); let v21 ← (DL.ask (sliceD a0 none (some i24))); let x30 ← (DL.ask (addD v18 (.int 1))); let i31 ← DL.ask (intOf x30); let v22 ← (DL.ask (sliceD a0 (some i31) none)); let x46 ← (DL.ask (lenD [a1])); let x44 ← (DL.ask (lenD [v21])); let y45 ← (DL.ask (lenD [v22])); let y47 ← (DL.ask (addD x44 y45)); let t74 ← (DL.ask ((ltD x46 y47).bind bOf)); seqF (if t74 = true then (pure (.rt (.bl false))) else (pure (.nx ()))) fun (q48 : Unit) => (do let v73 ← (andV (Mo.lift (m__law_all_fit_d024 [v21, a1])) (do let x61 ← (DL.ask (lenD [a1])); let y62 ← (DL.ask (lenD [v22])); let x63 ← (DL.ask (subD x61 y62)); let i64 ← DL.ask (intOf x63); let x68 ← (DL.ask (sliceD a1 (some i64) none)); Mo.lift (m__law_all_fit_d024 [v22, x68]))); pure (.rt v73)))) := by
  unfold b__law_row_fits_3c3f; simp only [pure_bind, bind_assoc, mkL]
def m__law_row_fits_3c3f : List D → R D := apR2 fun a0 a1 => (runR false (b__law_row_fits_3c3f a0 a1))
def fitN (x l : List Nat) : Bool := match TL.par [42] [] x with
  | none => decide (x = l)
  | some (h, t) => decide (h.length + t.length ≤ l.length) && (decide (l.take h.length = h) && decide (l.drop (l.length - t.length) = t))
theorem beq_eq (a b : List Nat) : (a == b) = decide (a = b) := by
  rw [Bool.eq_iff_iff]
  simp
theorem starts_eq (a b : List Nat) : PySem.Txt.startswith ⟨a.toArray⟩ ⟨b.toArray⟩ = (decide (b.length ≤ a.length) && decide (a.take b.length = b)) := by
  unfold PySem.Txt.startswith
  rw [StrLaws.subAt_eq]
  simp [Str.length]
  rw [beq_eq]
theorem ends_eq (a b : List Nat) : PySem.Txt.endswith ⟨a.toArray⟩ ⟨b.toArray⟩ = (decide (b.length ≤ a.length) && decide ((a.drop (a.length - b.length)).take b.length = b)) := by
  unfold PySem.Txt.endswith
  rw [StrLaws.subAt_eq]
  simp [Str.length]
  rw [beq_eq]
theorem par_none_iff {x : List Nat} {c : Nat} (h : TL.par [c] [] x = none) : c ∉ x := fun m => by
  rw [par_ix m] at h
  cases h
theorem par_some_mem {x p q : List Nat} {c : Nat} (h : TL.par [c] [] x = some (p, q)) : c ∈ x := by
  have e := par_eq h
  rw [List.nil_append] at e
  rw [e]
  simp
theorem label_fits43 {x l : List Nat} (hx : x.length ≤ 1000) (hl : l.length ≤ 1000) : m_label_fits_6e5b [.str x, .str l] = .ok (.bl (fitN x l)) := by
  have hp := part_eq (z := x) (S := [42]) (by simp) (by omega)
  have ll : ∀ z : List Nat, lenD [.str z] = some (.int (z.length : Int)) := fun _ => rfl
  unfold m_label_fits_6e5b apR2
  unfold fitN
  cases e : TL.par [42] [] x with
  | none =>
    rw [e] at hp
    have d0 : decide (([] : List Nat) = []) = true := by decide
    simp only [e_label_fits_6e5b, str_of, askR, pure_bind, hp, un3_3, eq_ss, decide_true, Option.bind_some, bOf_bl, if_true]
    rfl
  | some pq =>
    obtain ⟨p, q⟩ := pq
    rw [e] at hp
    have d0 : decide (([42] : List Nat) = []) = false := by decide
    have ge : geD (.int (l.length : Int)) (.int ((p.length : Int) + (q.length : Int))) = some (.bl (decide (p.length + q.length ≤ l.length))) := by
      show some (D.bl (decide ((p.length : Int) + (q.length : Int) ≤ (l.length : Int)))) = _
      by_cases c : p.length + q.length ≤ l.length
      · rw [decide_eq_true c, decide_eq_true (show (p.length : Int) + (q.length : Int) ≤ (l.length : Int) by omega)]
      · rw [decide_eq_false c, decide_eq_false (show ¬ (p.length : Int) + (q.length : Int) ≤ (l.length : Int) by omega)]
    have st : strM (fun a b => .bl (PySem.Txt.startswith ⟨a.toArray⟩ ⟨b.toArray⟩)) (.str l) (.str p) = some (.bl (decide (p.length ≤ l.length) && decide (l.take p.length = p))) := congrArg (fun b => some (D.bl b)) (starts_eq l p)
    have en : strM (fun a b => .bl (PySem.Txt.endswith ⟨a.toArray⟩ ⟨b.toArray⟩)) (.str l) (.str q) = some (.bl (decide (q.length ≤ l.length) && decide ((l.drop (l.length - q.length)).take q.length = q))) := congrArg (fun b => some (D.bl b)) (ends_eq l q)
    simp only [e_label_fits_6e5b, str_of, askR, pure_bind, hp, un3_3, eq_ss, d0, Option.bind_some, bOf_bl, Bool.false_eq_true, if_false, sqp, ll, add_ii, andV, ge, tru_bl, st, en]
    by_cases h1 : p.length + q.length ≤ l.length
    · have h2 : p.length ≤ l.length := by omega
      have h3 : q.length ≤ l.length := by omega
      have h4 : (l.drop (l.length - q.length)).take q.length = l.drop (l.length - q.length) := List.take_of_length_le (by rw [List.length_drop]; omega)
      rw [decide_eq_true h1, decide_eq_true h2, decide_eq_true h3, h4]
      simp only [Bool.true_and, if_true]
      cases decide (l.take p.length = p) <;> rfl
    · rw [decide_eq_false h1]
      rfl
theorem law_fits43 {x l : List Nat} (hx : x.length ≤ 1000) (hl : l.length ≤ 1000) : m__law_fits_b893 [.str x, .str l] = .ok (.bl (fitN x l)) := by
  have hp := part_eq (z := x) (S := [42]) (by simp) (by omega)
  have ll : ∀ z : List Nat, lenD [.str z] = some (.int (z.length : Int)) := fun _ => rfl
  unfold m__law_fits_b893 apR2
  unfold fitN
  cases e : TL.par [42] [] x with
  | none =>
    have hm : (notInD (.str [42]) (.str x)).bind bOf = some true := by rw [notin_sign, decide_eq_false (par_none_iff e)]; rfl
    simp only [e__law_fits_b893, hm, askR, pure_bind, if_true, eq_ss]
    rfl
  | some pq =>
    obtain ⟨p, q⟩ := pq
    rw [e] at hp
    have hm : (notInD (.str [42]) (.str x)).bind bOf = some false := by rw [notin_sign, decide_eq_true (par_some_mem e)]; rfl
    have lt : (ltD (.int (l.length : Int)) (.int ((p.length : Int) + (q.length : Int)))).bind bOf = some (decide (¬ p.length + q.length ≤ l.length)) := by
      rw [lti]
      congr 2
      simp only [eq_iff_iff]
      omega
    have c1 : cutL l none (some (p.length : Int)) = l.take p.length := cut_to
    simp only [e__law_fits_b893, hm, askR, pure_bind, Bool.false_eq_true, if_false, sqp, str_of, hp, un3_3, ll, add_ii, lt]
    by_cases h1 : p.length + q.length ≤ l.length
    · have c2 : cutL l (some ((l.length : Int) - (q.length : Int))) none = l.drop (l.length - q.length) := by
        rw [cut_lo (by omega)]
        congr 1
        omega
      have d : decide (¬ p.length + q.length ≤ l.length) = false := decide_eq_false (by omega)
      simp only [d, Bool.false_eq_true, if_false, sqp, int_of, slice_s, c1, askR, pure_bind, andV, eq_ss, tru_bl, sub_ii, c2]
      rw [decide_eq_true h1, Bool.true_and]
      cases decide (l.take p.length = p) <;> rfl
    · have d : decide (¬ p.length + q.length ≤ l.length) = true := decide_eq_true h1
      simp only [d, if_true, decide_eq_false h1]
      rfl
def zfit (h R : List (List Nat)) : Bool := (h.zip R).all fun p => fitN p.1 p.2
def pr2 (p : List Nat × List Nat) : D := .tup [.str p.1, .str p.2]
theorem zipL_strs : ∀ (h R : List (List Nat)), zipL (h.map D.str) (R.map D.str) = (h.zip R).map pr2
  | [], _ => rfl
  | _ :: _, [] => rfl
  | x :: h, y :: R => by
    show D.tup [.str x, .str y] :: zipL (h.map D.str) (R.map D.str) = _
    rw [zipL_strs h R]
    rfl
def badP : D → Bool
  | .tup [.str x, .str l] => !fitN x l
  | _ => false
def sndD : D → D
  | .tup [_, b] => b
  | d => d
def prD : D → D × D
  | .tup [a, b] => (a, b)
  | d => (d, d)
theorem bad_filter (ps : List (List Nat × List Nat)) : (((ps.map pr2).filter badP).map sndD).isEmpty = ps.all fun p => fitN p.1 p.2 := by
  induction ps with
  | nil => rfl
  | cons p r ih =>
    rw [List.map_cons, List.all_cons]
    cases h : fitN p.1 p.2 with
    | true =>
      have e : ¬ badP (pr2 p) = true := by show ¬ (!fitN p.1 p.2) = true; rw [h]; simp
      rw [List.filter_cons_of_neg e, ih, Bool.true_and]
    | false =>
      have e : badP (pr2 p) = true := by show (!fitN p.1 p.2) = true; rw [h]; rfl
      rw [List.filter_cons_of_pos e]
      rfl
def Sh (A : List (List Nat)) : Prop := ∀ z ∈ A, z.length ≤ 1000
def rowN (h t : List (List Nat)) (g : Bool) (R : List (List Nat)) : Bool := decide (h.length + t.length ≤ R.length) && ((g || decide (R.length ≤ h.length)) && (zfit h R && zfit t (R.drop (R.length - t.length))))
theorem walk43 (ps : List (List Nat × List Nat)) (hs : ∀ p ∈ ps, p.1.length ≤ 1000 ∧ p.2.length ≤ 1000) : (lcF un2 (fun (c55 : D × D) => (DL.notM (do let x61 ← (Mo.lift (m_label_fits_6e5b [c55.1, c55.2])); DL.ask (truD x61)))) (fun (c55 : D × D) => (pure c55.2)) (ps.map pr2) : R (List D)) = .ok (((ps.map pr2).filter badP).map sndD) := by
  refine lcR (u := un2) (xe := fun c55 : D × D => (pure c55.2 : R D)) (c := prD) (p := badP) (f := sndD) (ps.map pr2) (fun d m => ?_) (fun d m => ?_) (fun d m _ => ?_)
  · obtain ⟨p, hp, rfl⟩ := List.mem_map.mp m
    rfl
  · obtain ⟨p, hp, rfl⟩ := List.mem_map.mp m
    obtain ⟨h1, h2⟩ := hs p hp
    show (DL.notM (do let x61 ← (Mo.lift (m_label_fits_6e5b [.str p.1, .str p.2])); DL.ask (truD x61)) : R Bool) = .ok (!fitN p.1 p.2)
    simp only [DL.notM, label_fits43 h1 h2, lift_pR, okpR, pure_bind, tru_bl, askR]
  · obtain ⟨p, hp, rfl⟩ := List.mem_map.mp m
    rfl
theorem zip_sh {A B : List (List Nat)} (hA : Sh A) (hB : Sh B) : ∀ p ∈ A.zip B, p.1.length ≤ 1000 ∧ p.2.length ≤ 1000 := fun p m => ⟨hA _ (List.of_mem_zip m).1, hB _ (List.of_mem_zip m).2⟩
theorem row_fits43 {h t R : List (List Nat)} {g : Bool} (hh : Sh h) (ht : Sh t) (hR : Sh R) (l1 : h.length ≤ 1000) (l2 : t.length ≤ 1000) (l3 : R.length ≤ 1000) : m_row_fits_a0db [.tup [.tup (h.map .str), .tup (t.map .str), .bl g], .tup (R.map .str)] = .ok (.bl (rowN h t g R)) := by
  have ll : ∀ xs : List (List Nat), lenD [.tup (xs.map D.str)] = some (.int (xs.length : Int)) := fun xs => by
    show some (D.int ((xs.map D.str).length : Int)) = _
    rw [List.length_map]
  have lt : (ltD (.int (R.length : Int)) (.int ((h.length : Int) + (t.length : Int)))).bind bOf = some (decide (¬ h.length + t.length ≤ R.length)) := by
    rw [lti]
    congr 2
    simp only [eq_iff_iff]
    omega
  have gt : (gtD (.int (R.length : Int)) (.int (h.length : Int))).bind bOf = some (decide (¬ R.length ≤ h.length)) := by
    rw [gti]
    congr 2
    simp only [eq_iff_iff]
    omega
  unfold m_row_fits_a0db apR2
  simp only [e_row_fits_a0db, un3_3, askR, pure_bind, ll, add_ii, lt, DL.orM]
  unfold rowN
  by_cases c1 : h.length + t.length ≤ R.length
  · have d1 : decide (¬ h.length + t.length ≤ R.length) = false := decide_eq_false (by omega)
    simp only [d1, Bool.false_eq_true, if_false, decide_eq_true c1, Bool.true_and, tru_bl, askR, gt]
    by_cases c2 : (g || decide (R.length ≤ h.length)) = true
    · have d2 : (DL.andM (DL.notM (pure g)) (pure (decide (¬ R.length ≤ h.length))) : DL.R Bool) = pure false := by
        cases g with
        | true => rfl
        | false =>
          have : R.length ≤ h.length := by simpa using c2
          simp only [DL.andM, DL.notM, pure_bind, Bool.not_false, if_true, decide_eq_false (show ¬ ¬ R.length ≤ h.length from fun q => q this)]
      rw [d2, c2]
      have cd : cutL (R.map D.str) (some ((R.length : Int) - (t.length : Int))) none = (R.drop (R.length - t.length)).map D.str := by
        rw [cut_lo (by omega), List.map_drop]
        congr 1
        omega
      have z1 : zipLD [.tup (h.map D.str), .tup (R.map D.str)] = some (.lst ((h.zip R).map pr2)) := by
        show some (D.lst (zipL (h.map D.str) (R.map D.str))) = _
        rw [zipL_strs]
      have z2 : zipLD [.tup (t.map D.str), .tup ((R.drop (R.length - t.length)).map D.str)] = some (.lst ((t.zip (R.drop (R.length - t.length))).map pr2)) := by
        show some (D.lst (zipL (t.map D.str) _)) = _
        rw [zipL_strs]
      have ea : addD (.lst ((h.zip R).map pr2)) (.lst ((t.zip (R.drop (R.length - t.length))).map pr2)) = some (.lst ((h.zip R ++ t.zip (R.drop (R.length - t.length))).map pr2)) := by
        rw [add_ll (by simp only [List.length_map, List.length_zip]; omega), List.map_append]
      have hw := walk43 (h.zip R ++ t.zip (R.drop (R.length - t.length))) fun p m => by
        rcases List.mem_append.mp m with m | m
        · exact zip_sh hh hR p m
        · exact zip_sh ht (fun z q => hR z (List.mem_of_mem_drop q)) p m
      simp only [pure_bind, Bool.false_eq_true, if_false, sqp, z1, sub_ii, int_of, slice_t, cd, z2, ea, it_lst, askR]
      rw [hw]
      show DL.R.ok (D.bl (!(!(List.map sndD (List.filter badP _)).isEmpty))) = _
      rw [Bool.not_not, bad_filter, List.all_append]
      simp only [Bool.true_and]
      rfl
    · have c2' : (g || decide (R.length ≤ h.length)) = false := by simpa using c2
      have d2 : (DL.andM (DL.notM (pure g)) (pure (decide (¬ R.length ≤ h.length))) : DL.R Bool) = pure true := by
        simp only [Bool.or_eq_false_iff, decide_eq_false_iff_not] at c2'
        obtain ⟨rfl, q⟩ := c2'
        simp only [DL.andM, DL.notM, pure_bind, Bool.not_false, if_true, decide_eq_true q]
      rw [d2, c2']
      rfl
  · have d1 : decide (¬ h.length + t.length ≤ R.length) = true := decide_eq_true c1
    simp only [d1, if_true, pure_bind, decide_eq_false c1, Bool.false_and]
    rfl
theorem all_fit43 {A B : List (List Nat)} (hA : Sh A) (hB : Sh B) : m__law_all_fit_d024 [.lst (A.map .str), .lst (B.map .str)] = .ok (.bl (zfit A B)) := by
  have z : zipD [.lst (A.map D.str), .lst (B.map D.str)] = some ((A.zip B).map pr2) := by
    show some (zipL (A.map D.str) (B.map D.str)) = _
    rw [zipL_strs]
  have hw : (lcF un2 (fun (c7 : D × D) => pure true) (fun (c7 : D × D) => (Mo.lift (m__law_fits_b893 [c7.1, c7.2]))) ((A.zip B).map pr2) : R (List D)) = .ok ((A.zip B).map fun p => .bl (fitN p.1 p.2)) := by
    refine (lcR (u := un2) (xt := fun _ : D × D => (pure true : R Bool)) (xe := fun c7 : D × D => (Mo.lift (m__law_fits_b893 [c7.1, c7.2]) : R D)) (c := prD) (p := fun _ => true) (f := fun d => match d with | .tup [.str x, .str l] => .bl (fitN x l) | d => d) ((A.zip B).map pr2) (fun d m => ?_) (fun d m => rfl) (fun d m _ => ?_)).trans ?_
    · obtain ⟨p, hp, rfl⟩ := List.mem_map.mp m
      rfl
    · obtain ⟨p, hp, rfl⟩ := List.mem_map.mp m
      obtain ⟨h1, h2⟩ := zip_sh hA hB p hp
      show (Mo.lift (m__law_fits_b893 [.str p.1, .str p.2]) : R D) = _
      rw [law_fits43 h1 h2]
      rfl
    · rw [List.filter_eq_self.mpr (fun _ _ => rfl), List.map_map]
      rfl
  unfold m__law_all_fit_d024 apR2
  simp only [e__law_all_fit_d024, z, askR, pure_bind]
  rw [hw]
  simp only [okpR, pure_bind, all_map, askR]
  rfl
theorem notin_L {k : Nat} {z : List Nat} {S : List (List Nat)} (h : Tx k z) (hz : ∀ w ∈ S, Tx 1000 w) : (notInD (.str z) (.lst (S.map .str))).bind bOf = some (!decide (z ∈ S)) := by
  have e := in_strs h hz
  unfold inD at e
  unfold notInD
  cases q : inP (.str z) (.lst (S.map .str)) with
  | none => rw [q] at e; cases e
  | some b =>
    rw [q] at e
    cases e
    rfl
theorem ch_small43 : ∀ c ∈ CH, c < 1114112 := by decide
theorem it_tx {z : List Nat} (h : z = gp ∨ isIt z = true) : Tx 1000 z := ⟨by have := it_len h; omega, fun c m => Nat.lt_of_not_le fun q => it_free h (s := c) (fun x => by have := ch_small43 c x; omega) (by omega) m⟩
theorem strs_map : ∀ A : List (List Nat), strsOf (A.map D.str) = some A
  | [] => rfl
  | z :: r => by
    show (strsOf (r.map D.str)).map (z :: ·) = _
    rw [strs_map r]
    rfl
theorem idx_gap {A B : List (List Nat)} (h : gp ∉ A) : (A ++ gp :: B).idxOf gp = A.length := by
  induction A with
  | nil => simp
  | cons x r ih =>
    have hx : (x == gp) = false := by
      simp only [beq_eq_false_iff_ne, ne_eq]
      exact fun e => h (by rw [e]; exact .head _)
    rw [List.cons_append, List.idxOf_cons, hx, ih fun m => h (.tail _ m)]
    rfl
theorem law_row43 {l0 l1 mh mt : Nat} {I h t R : List (List Nat)} {g : Bool} (p : PatI l0 l1 mh mt I h t g) (hR : Sh R) (hl : I.length ≤ 1000) (hr : R.length ≤ 1000) : m__law_row_fits_3c3f [.lst (I.map .str), .lst (R.map .str)] = .ok (.bl (rowN h t g R)) := by
  have pm := pat_mem p
  have hI : Sh I := fun z m => (it_tx (pm z m)).1
  have hn := notin_L (k := 2) (z := gp) ⟨by decide, by decide⟩ (fun w m => it_tx (pm w m))
  have ll : ∀ xs : List (List Nat), lenD [.lst (xs.map D.str)] = some (.int (xs.length : Int)) := fun xs => by
    show some (D.int ((xs.map D.str).length : Int)) = _
    rw [List.length_map]
  obtain ⟨hz, ⟨rfl, rfl, rfl, h0, h1⟩ | ⟨rfl, rfl, h0, h1⟩⟩ := p
  · have ng : gp ∉ I := fun m => it_gap (hz _ (by simpa using m)) rfl
    rw [decide_eq_false ng] at hn
    have hn' : (notInD (.str [42, 42]) (.lst (I.map D.str))).bind bOf = some true := hn
    unfold m__law_row_fits_3c3f apR2
    simp only [e__law_row_fits_3c3f, hn', askR, pure_bind, if_true, ll, eq_i, andV, tru_bl, all_fit43 hI hR, lift_pR, okpR]
    unfold rowN
    have zn : zfit [] (R.drop (R.length - ([] : List (List Nat)).length)) = true := rfl
    rw [zn]
    by_cases c : I.length = R.length
    · have c' : decide ((I.length : Int) = (R.length : Int)) = true := decide_eq_true (by omega)
      rw [c', decide_eq_true (show I.length + ([] : List (List Nat)).length ≤ R.length by simp; omega), decide_eq_true (show R.length ≤ I.length by omega)]
      simp
      rfl
    · have c' : decide ((I.length : Int) = (R.length : Int)) = false := decide_eq_false (by omega)
      rw [c']
      have : (decide (I.length + ([] : List (List Nat)).length ≤ R.length) && ((false || decide (R.length ≤ I.length)) && (zfit I R && true))) = false := by
        by_cases c1 : I.length ≤ R.length
        · rw [decide_eq_false (show ¬ R.length ≤ I.length by omega)]
          simp
        · rw [decide_eq_false (show ¬ I.length + ([] : List (List Nat)).length ≤ R.length by simp; omega)]
          rfl
      rw [this]
      rfl
  · have na : gp ∉ h := fun m => it_gap (hz _ (List.mem_append_left _ m)) rfl
    rw [decide_eq_true (show gp ∈ h ++ gp :: t by simp)] at hn
    have hn' : (notInD (.str [42, 42]) (.lst ((h ++ gp :: t).map D.str))).bind bOf = some false := hn
    have hi : indexLD (.lst ((h ++ gp :: t).map D.str)) (.str [42, 42]) = some (.int (h.length : Int)) := by
      show (match strsOf ((h ++ gp :: t).map D.str) with | some ps => if [42, 42] ∈ ps then some (D.int ((ps.idxOf [42, 42] : Nat) : Int)) else none | none => none) = _
      rw [strs_map]
      show (if gp ∈ h ++ gp :: t then some (D.int (((h ++ gp :: t).idxOf gp : Nat) : Int)) else none) = _
      rw [if_pos (by simp), idx_gap na]
    have lo : lstOf (.lst ((h ++ gp :: t).map D.str)) = some ((h ++ gp :: t).map D.str) := rfl
    have c1 : cutL ((h ++ gp :: t).map D.str) none (some (h.length : Int)) = h.map D.str := by
      rw [cut_toD, ← List.map_take, List.take_left' rfl]
    have c2 : cutL ((h ++ gp :: t).map D.str) (some ((h.length : Int) + 1)) none = t.map D.str := by
      rw [cut_fromD, ← List.map_drop, show h ++ gp :: t = (h ++ [gp]) ++ t by simp, List.drop_left' (by simp)]
    have lt : (ltD (.int (R.length : Int)) (.int ((h.length : Int) + (t.length : Int)))).bind bOf = some (decide (¬ h.length + t.length ≤ R.length)) := by
      rw [lti]
      congr 2
      simp only [eq_iff_iff]
      omega
    have hh : Sh h := fun z m => hI z (List.mem_append_left _ m)
    have htt : Sh t := fun z m => hI z (List.mem_append_right _ (.tail _ m))
    unfold m__law_row_fits_3c3f apR2
    simp only [e__law_row_fits_3c3f, hn', lo, hi, askR, pure_bind, Bool.false_eq_true, if_false, sqp, str_of, int_of, slice_l, c1, add_ii, c2, ll, lt]
    unfold rowN
    by_cases c : h.length + t.length ≤ R.length
    · have d1 : decide (¬ h.length + t.length ≤ R.length) = false := decide_eq_false (by omega)
      have cd : cutL (R.map D.str) (some ((R.length : Int) - (t.length : Int))) none = (R.drop (R.length - t.length)).map D.str := by
        rw [cut_lo (by omega), List.map_drop]
        congr 1
        omega
      simp only [d1, Bool.false_eq_true, if_false, decide_eq_true c, Bool.true_and, Bool.true_or, sqp, andV, all_fit43 hh hR, lift_pR, okpR, pure_bind, tru_bl, askR, sub_ii, int_of, slice_l, cd, all_fit43 htt (fun z m => hR z (List.mem_of_mem_drop m))]
      cases zfit h R <;> rfl
    · have d1 : decide (¬ h.length + t.length ≤ R.length) = true := decide_eq_true c
      simp only [d1, if_true, pure_bind, decide_eq_false c, Bool.false_and]
      rfl
theorem zfit_take : ∀ (h R : List (List Nat)), zfit h R = zfit h (R.take h.length)
  | [], R => rfl
  | x :: h, [] => rfl
  | x :: h, y :: R => by
    show (fitN x y && zfit h R) = (fitN x y && zfit h (R.take h.length))
    rw [zfit_take h R]
theorem zfit_app : ∀ {a b c d : List (List Nat)}, a.length = c.length → zfit (a ++ b) (c ++ d) = (zfit a c && zfit b d)
  | [], b, [], d, _ => by simp [zfit]
  | x :: a, b, y :: c, d, h => by
    show (fitN x y && zfit (a ++ b) (c ++ d)) = ((fitN x y && zfit a c) && zfit b d)
    rw [zfit_app (by simpa using h), Bool.and_assoc]
  | [], _, _ :: _, _, h => by simp at h
  | _ :: _, _, [], _, h => by simp at h
theorem zfit_rev : ∀ {h R : List (List Nat)}, h.length = R.length → zfit h.reverse R.reverse = zfit h R
  | [], [], _ => rfl
  | x :: h, y :: R, e => by
    have e' : h.length = R.length := by simpa using e
    rw [List.reverse_cons, List.reverse_cons, zfit_app (by simpa using e'), zfit_rev e']
    show (zfit h R && (fitN x y && true)) = (fitN x y && zfit h R)
    rw [Bool.and_true, Bool.and_comm]
  | [], _ :: _, h => by simp at h
  | _ :: _, [], h => by simp at h
theorem zfit_back {h A : List (List Nat)} (l : h.length ≤ A.length) : zfit h A.reverse = zfit h.reverse (A.drop (A.length - h.length)) := by
  have e : (A.reverse).take h.length = (A.drop (A.length - h.length)).reverse := by
    rw [List.reverse_drop]
    congr 1
    omega
  have hl : (A.drop (A.length - h.length)).length = h.length := by rw [List.length_drop]; omega
  rw [zfit_take, e]
  have := zfit_rev (h := h.reverse) (R := A.drop (A.length - h.length)) (by rw [List.length_reverse, hl])
  rw [List.reverse_reverse] at this
  exact this
theorem row_back {h t A : List (List Nat)} : rowN h t true A.reverse = rowN t.reverse h.reverse true A := by
  unfold rowN
  simp only [List.length_reverse, Bool.true_or, Bool.true_and]
  by_cases c : h.length + t.length ≤ A.length
  · have c' : t.length + h.length ≤ A.length := by omega
    rw [decide_eq_true c, decide_eq_true c', Bool.true_and, Bool.true_and, zfit_back (by omega)]
    have e : A.reverse.drop (A.length - t.length) = (A.take t.length).reverse := by
      rw [List.reverse_take]
    have hl : (A.take t.length).length = t.length := by rw [List.length_take]; omega
    have z := zfit_rev (h := t.reverse) (R := A.take t.length) (by rw [List.length_reverse, hl])
    rw [List.reverse_reverse] at z
    rw [e, z, zfit_take t.reverse A, List.length_reverse, Bool.and_comm]
  · have c' : ¬ t.length + h.length ≤ A.length := by omega
    rw [decide_eq_false c, decide_eq_false c']
    rfl
theorem row_plain {h A : List (List Nat)} : rowN h [] false A.reverse = rowN h.reverse [] false A := by
  unfold rowN
  have zn : ∀ X : List (List Nat), zfit [] X = true := fun _ => rfl
  simp only [List.length_reverse, zn, Bool.and_true, Bool.false_or, List.length_nil, Nat.add_zero]
  by_cases c : h.length = A.length
  · have e := zfit_rev (h := h.reverse) (R := A) (by rw [List.length_reverse]; exact c)
    rw [List.reverse_reverse] at e
    rw [e]
  · by_cases c1 : h.length ≤ A.length
    · rw [decide_eq_false (show ¬ A.length ≤ h.length by omega)]
      simp
    · rw [decide_eq_false c1]
      rfl
def dueB (sch : List Nat) (i : Int) : D → Bool
  | .tup [.int lo, .int hi] => decide (lo ≤ i) && decide (i ≤ hi)
  | _ => decide (i = dpt sch)
theorem in_any {w sch : List Nat} (hw : Wd w) (hsch : sch = kHttp ∨ sch = kHttps) : (notInD (.str w) (.tup [.str [97, 110, 121], .str sch])).bind bOf = some (!decide (w ∈ [[97, 110, 121], sch])) ∧ (∃ b, b = decide (w ∈ [[97, 110, 121], sch]) ∧ inD (.str w) (.lst [.str [97, 110, 121], .str sch]) = some (.bl b)) := by
  have tx : Tx 5 w := by rcases hw with rfl | rfl | rfl <;> exact ⟨by decide, by decide⟩
  have ta : ∀ z ∈ ([[97, 110, 121], sch] : List (List Nat)), Tx 1000 z := by
    rcases hsch with rfl | rfl <;> exact tx_all (by decide)
  exact ⟨notin_T tx ta, _, rfl, in_strs tx ta⟩
theorem chain_ii {a b c : Int} : (chainM leD leD (pure (.int a)) (pure (.int b)) (pure (.int c)) : R D) = .ok (.bl (decide (a ≤ b) && decide (b ≤ c))) := by
  unfold chainM
  simp only [le_l, askR, pure_bind]
  cases h : decide (a ≤ b)
  · rfl
  · rfl
def fitB (w sch : List Nat) (i : Int) (pd : D) : Bool := decide (w ∈ [[97, 110, 121], sch]) && dueB sch i pd
theorem pat_len {l0 l1 mh mt : Nat} {I h t : List (List Nat)} {g : Bool} (p : PatI l0 l1 mh mt I h t g) (hl : I.length ≤ 10) : h.length ≤ 10 ∧ t.length ≤ 10 ∧ Sh h ∧ Sh t := by
  have pm := pat_mem p
  obtain ⟨hz, ⟨rfl, rfl, rfl, _, _⟩ | ⟨rfl, rfl, _, _⟩⟩ := p
  · exact ⟨hl, by simp, fun z m => (it_tx (pm z m)).1, fun z m => by cases m⟩
  · simp only [List.length_append, List.length_cons] at hl
    exact ⟨by omega, by omega, fun z m => (it_tx (.inr (hz z (List.mem_append_left _ m)))).1, fun z m => (it_tx (.inr (hz z (List.mem_append_right _ m)))).1⟩
theorem pat_back {I h t : List (List Nat)} {g : Bool} (p : PatI 1 4 3 2 I.reverse h t g) : (g = false ∧ PatI 1 4 2 3 I h.reverse [] false ∧ t = []) ∨ (g = true ∧ PatI 1 4 2 3 I t.reverse h.reverse true) := by
  obtain ⟨hz, ⟨rfl, e, rfl, h0, h1⟩ | ⟨rfl, e, h0, h1⟩⟩ := p
  · have e' : I = h.reverse := by rw [← e, List.reverse_reverse]
    exact .inl ⟨rfl, ⟨fun z m => hz z (by simpa using m), .inl ⟨rfl, e', rfl, by simpa using h0, by simpa using h1⟩⟩, rfl⟩
  · have e' : I = t.reverse ++ gp :: h.reverse := by
      have := congrArg List.reverse e
      rw [List.reverse_reverse] at this
      rw [this]
      simp
    exact .inr ⟨rfl, ⟨fun z m => hz z (by
      rcases List.mem_append.mp m with m | m
      · exact List.mem_append_right _ (List.mem_reverse.mp m)
      · exact List.mem_append_left _ (List.mem_reverse.mp m)), .inr ⟨rfl, e', by simpa using h1, by simpa using h0⟩⟩⟩
theorem host43 {I h t A : List (List Nat)} {g : Bool} (p : PatI 1 4 3 2 I.reverse h t g) (hl : I.length ≤ 10) (hA : Sh A) (hl2 : A.length ≤ 1000) : m__law_row_fits_3c3f [.lst (I.map .str), .lst (A.map .str)] = .ok (.bl (rowN h t g A.reverse)) := by
  rcases pat_back p with ⟨rfl, q, rfl⟩ | ⟨rfl, q⟩
  · rw [law_row43 q hA (by omega) hl2, row_plain]
  · rw [law_row43 q hA (by omega) hl2, row_back]
theorem default43 {sch : List Nat} (h : sch = kHttp ∨ sch = kHttps) : m__law_default_6094 [.str sch] = .ok (.int (dpt sch)) := by
  rcases h with rfl | rfl <;> rfl
theorem gate43 {w t sch : List Nat} {pd : D} {i : Int} (hw : Wd w) (ht : Dr t pd) (hsch : sch = kHttp ∨ sch = kHttps) {k : R (Fl Unit Empty)} :
    (do let t91 ← (DL.ask ((notInD (.str w) (.lst [.str [97, 110, 121], .str sch])).bind bOf)); seqF (if t91 = true then (pure (.rt (.bl false))) else (pure (.nx ()))) fun (q12 : Unit) => (do let t90 ← (DL.andM (DL.ask ((isD pd .non).bind bOf)) (do let y20 ← (Mo.lift (m__law_default_6094 [.str sch])); DL.ask ((neD (.int i) y20).bind bOf))); seqF (if t90 = true then (pure (.rt (.bl false))) else (pure (.nx ()))) fun (q21 : Unit) => (do let t89 ← (DL.andM (DL.ask ((isNotD pd .non).bind bOf)) (DL.notM (do let x29 ← (chainM leD leD (DL.ask (ixD pd (.int 0))) (pure (.int i)) (DL.ask (ixD pd (.int 1)))); DL.ask (bOf x29)))); seqF (if t89 = true then (pure (.rt (.bl false))) else (pure (.nx ()))) fun (q30 : Unit) => k)) : R (Fl Unit Empty)) = if fitB w sch i pd = true then k else .ok (.rt (.bl false)) := by
  have tx : Tx 5 w := by rcases hw with rfl | rfl | rfl <;> exact ⟨by decide, by decide⟩
  have ta : ∀ z ∈ ([[97, 110, 121], sch] : List (List Nat)), Tx 1000 z := by
    rcases hsch with rfl | rfl <;> exact tx_all (by decide)
  have hin : (notInD (.str w) (.lst [.str [97, 110, 121], .str sch])).bind bOf = some (!decide (w ∈ [[97, 110, 121], sch])) := notin_L tx ta
  rw [hin]
  unfold fitB
  cases hb : decide (w ∈ [[97, 110, 121], sch]) with
  | false => rfl
  | true =>
    simp only [Bool.not_true, askR, pure_bind, Bool.false_eq_true, if_false, sqp, Bool.true_and]
    rcases ht with ⟨rfl, rfl⟩ | ⟨u, lo, hi, rfl, rfl, h1, h2, h3, _⟩
    · have isn : isD .non .non = some (.bl true) := rfl
      have isnn : isNotD .non .non = some (.bl false) := rfl
      have ne : (neD (.int i) (.int (dpt sch))).bind bOf = some (!decide (i = dpt sch)) := rfl
      simp only [isn, isnn, Option.bind_some, bOf_bl, askR, DL.andM, pure_bind, if_true, default43 hsch, lift_pR, okpR, ne, dueB]
      by_cases c : i = dpt sch
      · simp only [decide_eq_true c, Bool.not_true, Bool.false_eq_true, if_false, if_true]
        rfl
      · simp only [decide_eq_false c, Bool.not_false, Bool.false_eq_true, if_false, if_true]
        rfl
    · have isn : isD (iPd lo hi) .non = some (.bl false) := rfl
      have isnn : isNotD (iPd lo hi) .non = some (.bl true) := rfl
      have x0 : ixD (iPd lo hi) (.int 0) = some (.int lo) := rfl
      have x1 : ixD (iPd lo hi) (.int 1) = some (.int hi) := rfl
      have e : dueB sch i (iPd lo hi) = (decide (lo ≤ i) && decide (i ≤ hi)) := rfl
      rw [e]
      simp only [isn, isnn, Option.bind_some, bOf_bl, askR, DL.andM, DL.notM, pure_bind, Bool.false_eq_true, if_false, if_true, sqp, x0, x1, chain_ii, okpR]
      by_cases c : (decide (lo ≤ i) && decide (i ≤ hi)) = true
      · simp only [c, Bool.not_true, Bool.false_eq_true, if_false, if_true]
        rfl
      · have c' : (decide (lo ≤ i) && decide (i ≤ hi)) = false := by simpa using c
        simp only [c', Bool.not_false, Bool.false_eq_true, if_false, if_true]
        rfl
def Labs (R : List (List Nat)) : Prop := ∀ z ∈ R, isLab 20 z = true
end FN
namespace FN
open DL PySem PySem.W
def c_EXCEPTION : D := (.str [101, 120, 99, 101, 112, 116, 105, 111, 110])
def c_MOST_LABELS_OF_ROW : D := (.int (3))
def c_PLAIN : D := (.str [112, 108, 97, 105, 110])
def c_WILD : D := (.str [111, 112, 101, 110])
def b_ends_with_d715 (a0 a1 : D) : R (Fl Unit Empty) := (do let v24 ← (andV (do let x7 ← (do let r3 ← (do let x1 ← (pure a0); let r2 ← pure []; pure (x1 :: r2)); DL.ask (lenD r3)); let y8 ← (do let r6 ← (do let x4 ← (pure a1); let r5 ← pure []; pure (x4 :: r5)); DL.ask (lenD r6)); DL.ask (geD x7 y8)) (do let x22 ← (do let x19 ← (pure a0); let l20 ← (do let x17 ← (do let x15 ← (do let r11 ← (do let x9 ← (pure a0); let r10 ← pure []; pure (x9 :: r10)); DL.ask (lenD r11)); let y16 ← (do let r14 ← (do let x12 ← (pure a1); let r13 ← pure []; pure (x12 :: r13)); DL.ask (lenD r14)); DL.ask (subD x15 y16)); let i18 ← DL.ask (intOf x17); pure (some i18)); let u21 ← (pure none); DL.ask (sliceD x19 l20 u21)); let y23 ← (pure a1); DL.ask (eqD x22 y23))); pure (.rt v24))
theorem e_ends_with_d715 (a0 a1 : D) : b_ends_with_d715 a0 a1 = (do let v24 ← (andV (do let x7 ← (DL.ask (lenD [a0])); let y8 ← (DL.ask (lenD [a1])); DL.ask (geD x7 y8)) (do let x15 ← (DL.ask (lenD [a0])); let y16 ← (DL.ask (lenD [a1])); let x17 ← (DL.ask (subD x15 y16)); let i18 ← DL.ask (intOf x17); let x22 ← (DL.ask (sliceD a0 (some i18) none)); DL.ask (eqD x22 a1))); pure (.rt v24)) := by
  unfold b_ends_with_d715; simp only [pure_bind, bind_assoc, mkL]
def m_ends_with_d715 : List D → R D := apR2 fun a0 a1 => (runR false (b_ends_with_d715 a0 a1))
def b_Pattern_shape_d275 (a0 : D) : R (Fl Unit Empty) := (do let v12 ← (do let r10 ← (do let x8 ← (do let x1 ← (pure a0); DL.ask (fldD ["HostPattern", "PathPattern"] "head" x1)); let r9 ← (do let x6 ← (do let x2 ← (pure a0); DL.ask (fldD ["HostPattern", "PathPattern"] "tail" x2)); let r7 ← (do let x4 ← (do let x3 ← (pure a0); DL.ask (fldD ["HostPattern", "PathPattern"] "gap" x3)); let r5 ← pure []; pure (x4 :: r5)); pure (x6 :: r7)); pure (x8 :: r9)); let r11 ← DL.ask (szL r10); pure (.tup r11)); pure (.rt v12))
def m_Pattern_shape_d275 : List D → R D := apR1 fun a0 => (runR false (b_Pattern_shape_d275 a0))
def b_parsed_row_b892 (a0 : D) : R (Fl Unit Empty) := (do let t76 ← (DL.notM (do let x2 ← (do let x1 ← (pure a0); DL.ask (isiD "str" x1)); DL.ask (truD x2))); seqF (if t76 = true then (do let v4 ← (pure .non); pure (.rt v4)) else (pure (.nx ()))) fun (q3 : Unit) => (do let v5 ← (do let r15 ← (do let x13 ← (pure c_PLAIN); let r14 ← (do let x11 ← (pure a0); let r12 ← (do let x9 ← (pure (.int 1)); let r10 ← (do let x7 ← (pure c_MOST_LABELS_OF_ROW); let r8 ← pure []; pure (x7 :: r8)); pure (x9 :: r10)); pure (x11 :: r12)); pure (x13 :: r14)); let r16 ← DL.ask (szL r15); pure (.tup r16)); let c6 ← DL.ask ((unN 4) v5); (do let t75 ← (do let x19 ← (do let x17 ← (pure a0); let _ ← DL.ask (strOf x17); let y18 ← (pure (.str [33])); DL.ask (strM (fun a b => .bl (PySem.Txt.startswith ⟨a.toArray⟩ ⟨b.toArray⟩)) x17 y18)); DL.ask (truD x19)); seqF (if t75 = true then (do let v27 ← (pure c_EXCEPTION); let v28 ← (do let x24 ← (pure a0); let l25 ← (do let x22 ← (pure (.int 1)); let i23 ← DL.ask (intOf x22); pure (some i23)); let u26 ← (pure none); DL.ask (sliceD x24 l25 u26)); let v29 ← (pure (.int 2)); (pure (.nx (v27, v28, v29, (c6.getD 3 .non))))) else (do let t45 ← (do let x32 ← (do let x30 ← (pure a0); let _ ← DL.ask (strOf x30); let y31 ← (pure (.str [42, 46])); DL.ask (strM (fun a b => .bl (PySem.Txt.startswith ⟨a.toArray⟩ ⟨b.toArray⟩)) x30 y31)); DL.ask (truD x32)); seqF (if t45 = true then (do let v42 ← (pure c_WILD); let v43 ← (do let x37 ← (pure a0); let l38 ← (do let x35 ← (pure (.int 2)); let i36 ← DL.ask (intOf x35); pure (some i36)); let u39 ← (pure none); DL.ask (sliceD x37 l38 u39)); let v44 ← (do let x40 ← (pure c_MOST_LABELS_OF_ROW); let y41 ← (pure (.int 1)); DL.ask (subD x40 y41)); (pure (.nx (v42, v43, v44)))) else (pure (.nx ((c6.getD 0 .non), (c6.getD 1 .non), (c6.getD 3 .non))))) fun (q33 : D × D × D) => (pure (.nx (q33.1, q33.2.1, (c6.getD 2 .non), q33.2.2))))) fun (q20 : D × D × D × D) => (do let v46 ← (do let r51 ← (do let x49 ← (mkL (do let x47 ← (pure q20.2.1); let _ ← DL.ask (strOf x47); let y48 ← (pure (.str [46])); DL.ask (splitD x47 y48))); let r50 ← pure []; pure (x49 :: r50)); DL.ask (tupleD r51)); (do let t74 ← (DL.orM (DL.notM (do let x55 ← (chainM leD leD (pure q20.2.2.1) (do let r54 ← (do let x52 ← (pure v46); let r53 ← pure []; pure (x52 :: r53)); DL.ask (lenD r54)) (pure q20.2.2.2)); DL.ask (bOf x55))) (do let x64 ← (mkL (do let r63 ← (do let r56 ← (pure v46); DL.ask (itD r56)); lcF (fun d => some d) (fun (c58 : D) => (DL.notM (do let x62 ← (do let r61 ← (do let x59 ← (pure c58); let r60 ← pure []; pure (x59 :: r60)); Mo.lift (m_is_label_344b r61)); DL.ask (truD x62)))) (fun (c58 : D) => (pure c58)) r63)); DL.ask (truD x64))); seqF (if t74 = true then (do let v66 ← (pure .non); pure (.rt v66)) else (pure (.nx ()))) fun (q65 : Unit) => (do let v73 ← (do let r71 ← (do let x69 ← (pure q20.1); let r70 ← (do let x67 ← (pure v46); let r68 ← pure []; pure (x67 :: r68)); pure (x69 :: r70)); let r72 ← DL.ask (szL r71); pure (.tup r72)); pure (.rt v73)))))))
theorem e_parsed_row_b892 (a0 : D) : b_parsed_row_b892 a0 = (do let t76 ← (DL.notM (do let x2 ← (DL.ask (isiD "str" a0)); DL.ask (truD x2))); seqF (if t76 = true then (pure (.rt .non)) else (pure (.nx ()))) fun (q3 : Unit) => (do let r16 ← DL.ask (szL [c_PLAIN, a0, (.int 1), c_MOST_LABELS_OF_ROW]); let c6 ← DL.ask ((unN 4) (.tup r16)); let _ ← DL.ask (strOf a0); let x19 ← (DL.ask (strM (fun a b => .bl (PySem.Txt.startswith ⟨a.toArray⟩ ⟨b.toArray⟩)) a0 (.str [33]))); let t75 ← (DL.ask (truD x19)); seqF (if t75 = true then (do let i23 ← DL.ask (intOf (.int 1)); let v28 ← (DL.ask (sliceD a0 (some i23) none)); (pure (.nx (c_EXCEPTION, v28, (.int 2), (c6.getD 3 .non))))) else (do let _ ← DL.ask (strOf a0); let x32 ← (DL.ask (strM (fun a b => .bl (PySem.Txt.startswith ⟨a.toArray⟩ ⟨b.toArray⟩)) a0 (.str [42, 46]))); let t45 ← (DL.ask (truD x32)); seqF (if t45 = true then (do let i36 ← DL.ask (intOf (.int 2)); let v43 ← (DL.ask (sliceD a0 (some i36) none)); let v44 ← (DL.ask (subD c_MOST_LABELS_OF_ROW (.int 1))); (pure (.nx (c_WILD, v43, v44)))) else (pure (.nx ((c6.getD 0 .non), (c6.getD 1 .non), (c6.getD 3 .non))))) fun (q33 : D × D × D) => (pure (.nx (q33.1, q33.2.1, (c6.getD 2 .non), q33.2.2))))) fun (q20 : D × D × D × D) => (do let _ ← DL.ask (strOf q20.2.1); let x49 ← (DL.ask (splitD q20.2.1 (.str [46]))); let v46 ← (DL.ask (tupleD [(.lst x49)])); let t74 ← (DL.orM (DL.notM (do let x55 ← (chainM leD leD (pure q20.2.2.1) (DL.ask (lenD [v46])) (pure q20.2.2.2)); DL.ask (bOf x55))) (do let r63 ← (DL.ask (itD v46)); let x64 ← (lcF (fun d => some d) (fun (c58 : D) => (DL.notM (do let x62 ← (Mo.lift (m_is_label_344b [c58])); DL.ask (truD x62)))) (fun (c58 : D) => (pure c58)) r63); DL.ask (truD (.lst x64)))); seqF (if t74 = true then (pure (.rt .non)) else (pure (.nx ()))) fun (q65 : Unit) => (do let r72 ← DL.ask (szL [q20.1, v46]); pure (.rt (.tup r72)))))) := by
  unfold b_parsed_row_b892; simp only [pure_bind, bind_assoc, mkL]
def m_parsed_row_b892 : List D → R D := apR1 fun a0 => (runR false (b_parsed_row_b892 a0))
def b_ending_size_5148 (a0 a1 : D) : R (Fl Unit Empty) := (do let v1 ← (do let r7 ← (do let x5 ← (pure (.int 1)); let r6 ← (do let x3 ← (pure (.int 0)); let r4 ← pure []; pure (x3 :: r4)); pure (x5 :: r6)); let r8 ← DL.ask (szL r7); pure (.tup r8)); let c2 ← DL.ask (un2 v1); (do let r73 ← (do let r9 ← (pure a0); DL.ask (itD r9)); seqF (forF un2 (fun (q10 : D × D) (c11 : D × D) => (do let t66 ← (DL.notM (do let x17 ← (do let r16 ← (do let x14 ← (pure a1); let r15 ← (do let x12 ← (pure c11.2); let r13 ← pure []; pure (x12 :: r13)); pure (x14 :: r15)); Mo.lift (m_ends_with_d715 r16)); DL.ask (truD x17))); seqF (if t66 = true then (pure (.ct (q10.1, q10.2))) else (pure (.nx ()))) fun (q18 : Unit) => (do let t65 ← (do let x19 ← (pure c11.1); let y20 ← (pure c_EXCEPTION); DL.ask ((eqD x19 y20).bind bOf)); seqF (if t65 = true then (do let v22 ← (do let r30 ← (do let x28 ← (pure q10.2); let r29 ← (do let x26 ← (do let r25 ← (do let x23 ← (pure c11.2); let r24 ← pure []; pure (x23 :: r24)); DL.ask (lenD r25)); let r27 ← pure []; pure (x26 :: r27)); pure (x28 :: r29)); DL.ask (maxD r30)); (pure (.nx (q10.1, v22)))) else (do let t64 ← (do let x31 ← (pure c11.1); let y32 ← (pure c_PLAIN); DL.ask ((eqD x31 y32).bind bOf)); seqF (if t64 = true then (do let v34 ← (do let r42 ← (do let x40 ← (pure q10.1); let r41 ← (do let x38 ← (do let r37 ← (do let x35 ← (pure c11.2); let r36 ← pure []; pure (x35 :: r36)); DL.ask (lenD r37)); let r39 ← pure []; pure (x38 :: r39)); pure (x40 :: r41)); DL.ask (maxD r42)); (pure (.nx v34))) else (do let t63 ← (do let x49 ← (do let r45 ← (do let x43 ← (pure a1); let r44 ← pure []; pure (x43 :: r44)); DL.ask (lenD r45)); let y50 ← (do let r48 ← (do let x46 ← (pure c11.2); let r47 ← pure []; pure (x46 :: r47)); DL.ask (lenD r48)); DL.ask ((gtD x49 y50).bind bOf)); seqF (if t63 = true then (do let v52 ← (do let r62 ← (do let x60 ← (pure q10.1); let r61 ← (do let x58 ← (do let x56 ← (do let r55 ← (do let x53 ← (pure c11.2); let r54 ← pure []; pure (x53 :: r54)); DL.ask (lenD r55)); let y57 ← (pure (.int 1)); DL.ask (addD x56 y57)); let r59 ← pure []; pure (x58 :: r59)); pure (x60 :: r61)); DL.ask (maxD r62)); (pure (.nx v52))) else (pure (.nx q10.1))) fun (q51 : D) => (pure (.nx q51)))) fun (q33 : D) => (pure (.nx (q33, q10.2))))) fun (q21 : D × D) => (pure (.nx (q21.1, q21.2)))))) r73 (c2.1, c2.2)) fun (q67 : D × D) => (do let v72 ← (iteM (do let x68 ← (pure q67.2); let y69 ← (pure (.int 0)); DL.ask ((gtD x68 y69).bind bOf)) (do let x70 ← (pure q67.2); let y71 ← (pure (.int 1)); DL.ask (subD x70 y71)) (pure q67.1)); pure (.rt v72))))
theorem e_ending_size_5148 (a0 a1 : D) : b_ending_size_5148 a0 a1 = (do let r8 ← DL.ask (szL [(.int 1), (.int 0)]); let c2 ← DL.ask (un2 (.tup r8)); let r73 ← (DL.ask (itD a0)); seqF (forF un2 (fun (q10 : D × D) (c11 : D × D) => (do let t66 ← (DL.notM (do let x17 ← (Mo.lift (m_ends_with_d715 [a1, c11.2])); DL.ask (truD x17))); seqF (if t66 = true then (pure (.ct (q10.1, q10.2))) else (pure (.nx ()))) fun (q18 : Unit) => (do let t65 ← (DL.ask ((eqD c11.1 c_EXCEPTION).bind bOf)); seqF (if t65 = true then (do let x26 ← (DL.ask (lenD [c11.2])); let v22 ← (DL.ask (maxD [q10.2, x26])); (pure (.nx (q10.1, v22)))) else (do let t64 ← (DL.ask ((eqD c11.1 c_PLAIN).bind bOf)); seqF (if t64 = true then (do let x38 ← (DL.ask (lenD [c11.2])); let v34 ← (DL.ask (maxD [q10.1, x38])); (pure (.nx v34))) else (do let x49 ← (DL.ask (lenD [a1])); let y50 ← (DL.ask (lenD [c11.2])); let t63 ← (DL.ask ((gtD x49 y50).bind bOf)); seqF (if t63 = true then (do let x56 ← (DL.ask (lenD [c11.2])); let x58 ← (DL.ask (addD x56 (.int 1))); let v52 ← (DL.ask (maxD [q10.1, x58])); (pure (.nx v52))) else (pure (.nx q10.1))) fun (q51 : D) => (pure (.nx q51)))) fun (q33 : D) => (pure (.nx (q33, q10.2))))) fun (q21 : D × D) => (pure (.nx (q21.1, q21.2)))))) r73 (c2.1, c2.2)) fun (q67 : D × D) => (do let v72 ← (iteM (DL.ask ((gtD q67.2 (.int 0)).bind bOf)) (DL.ask (subD q67.2 (.int 1))) (pure q67.1)); pure (.rt v72))) := by
  unfold b_ending_size_5148; simp only [pure_bind, bind_assoc, mkL]
def m_ending_size_5148 : List D → R D := apR2 fun a0 a1 => (runR false (b_ending_size_5148 a0 a1))
def b_door_fits_6b32 (a0 a1 a2 : D) : R (Fl Unit Empty) := (do let t30 ← (do let x8 ← (do let x1 ← (pure a0); DL.ask (fldD ["Page", "Rule"] "scheme" x1)); let y9 ← (do let r6 ← (do let x4 ← (pure (.str [97, 110, 121])); let r5 ← (do let x2 ← (pure a1); let r3 ← pure []; pure (x2 :: r3)); pure (x4 :: r5)); let r7 ← DL.ask (szL r6); pure (.tup r7)); DL.ask ((notInD x8 y9).bind bOf)); seqF (if t30 = true then (do let v11 ← (pure (.bl false)); pure (.rt v11)) else (pure (.nx ()))) fun (q10 : Unit) => (do let t29 ← (do let x13 ← (do let x12 ← (pure a0); DL.ask (fldD ["Rule"] "ports" x12)); let y14 ← (pure .non); DL.ask ((isD x13 y14).bind bOf)); seqF (if t29 = true then (do let v21 ← (do let x19 ← (pure a2); let y20 ← (do let r18 ← (do let x16 ← (pure a1); let r17 ← pure []; pure (x16 :: r17)); Mo.lift (m_default_port_11a4 r18)); DL.ask (eqD x19 y20)); pure (.rt v21)) else (pure (.nx ()))) fun (q15 : Unit) => (do let v28 ← (chainM leD leD (do let x23 ← (do let x22 ← (pure a0); DL.ask (fldD ["Rule"] "ports" x22)); let y24 ← (pure (.int 0)); DL.ask (ixD x23 y24)) (pure a2) (do let x26 ← (do let x25 ← (pure a0); DL.ask (fldD ["Rule"] "ports" x25)); let y27 ← (pure (.int 1)); DL.ask (ixD x26 y27))); pure (.rt v28))))
theorem e_door_fits_6b32 (a0 a1 a2 : D) : b_door_fits_6b32 a0 a1 a2 = (do let x8 ← (DL.ask (fldD ["Page", "Rule"] "scheme" a0)); let r7 ← DL.ask (szL [(.str [97, 110, 121]), a1]); let t30 ← (DL.ask ((notInD x8 (.tup r7)).bind bOf)); seqF (if t30 = true then (pure (.rt (.bl false))) else (pure (.nx ()))) fun (q10 : Unit) => (do let x13 ← (DL.ask (fldD ["Rule"] "ports" a0)); let t29 ← (DL.ask ((isD x13 .non).bind bOf)); seqF (if t29 = true then (do let y20 ← (Mo.lift (m_default_port_11a4 [a1])); let v21 ← (DL.ask (eqD a2 y20)); pure (.rt v21)) else (pure (.nx ()))) fun (q15 : Unit) => (do let v28 ← (chainM leD leD (do let x23 ← (DL.ask (fldD ["Rule"] "ports" a0)); DL.ask (ixD x23 (.int 0))) (pure a2) (do let x26 ← (DL.ask (fldD ["Rule"] "ports" a0)); DL.ask (ixD x26 (.int 1)))); pure (.rt v28)))) := by
  unfold b_door_fits_6b32; simp only [pure_bind, bind_assoc, mkL]
def m_door_fits_6b32 : List D → R D := apR3 fun a0 a1 a2 => (runR false (b_door_fits_6b32 a0 a1 a2))
def b_site_by_dd2e (a0 a1 : D) : R (Fl Unit Empty) := (do let v1 ← (do let r16 ← (do let x14 ← (do let r4 ← (do let x2 ← (pure a1); let r3 ← pure []; pure (x2 :: r3)); DL.ask (lenD r4)); let r15 ← (do let x12 ← (do let x10 ← (do let r9 ← (do let x7 ← (pure a0); let r8 ← (do let x5 ← (pure a1); let r6 ← pure []; pure (x5 :: r6)); pure (x7 :: r8)); Mo.lift (m_ending_size_5148 r9)); let y11 ← (pure (.int 1)); DL.ask (addD x10 y11)); let r13 ← pure []; pure (x12 :: r13)); pure (x14 :: r15)); DL.ask (minD r16)); (do let v27 ← (do let x24 ← (pure a1); let l25 ← (do let x22 ← (do let x20 ← (do let r19 ← (do let x17 ← (pure a1); let r18 ← pure []; pure (x17 :: r18)); DL.ask (lenD r19)); let y21 ← (pure v1); DL.ask (subD x20 y21)); let i23 ← DL.ask (intOf x22); pure (some i23)); let u26 ← (pure none); DL.ask (sliceD x24 l25 u26)); pure (.rt v27)))
theorem e_site_by_dd2e (a0 a1 : D) : b_site_by_dd2e a0 a1 = (do let x14 ← (DL.ask (lenD [a1])); let x10 ← (Mo.lift (m_ending_size_5148 [a0, a1])); let x12 ← (DL.ask (addD x10 (.int 1))); let v1 ← (DL.ask (minD [x14, x12])); let x20 ← (DL.ask (lenD [a1])); let x22 ← (DL.ask (subD x20 v1)); let i23 ← DL.ask (intOf x22); let v27 ← (DL.ask (sliceD a1 (some i23) none)); pure (.rt v27)) := by
  unfold b_site_by_dd2e; simp only [pure_bind, bind_assoc, mkL]
def m_site_by_dd2e : List D → R D := apR2 fun a0 a1 => (runR false (b_site_by_dd2e a0 a1))
def b_site_of_0513 (a0 a1 : D) : R (Fl Unit Empty) := (do let v13 ← (do let r12 ← (do let x10 ← (mkL (do let r7 ← (do let r1 ← (pure a0); DL.ask (itD r1)); lcF (fun d => some d) (fun (c3 : D) => pure true) (fun (c3 : D) => (do let r6 ← (do let x4 ← (pure c3); let r5 ← pure []; pure (x4 :: r5)); Mo.lift (m_parsed_row_b892 r6))) r7)); let r11 ← (do let x8 ← (pure a1); let r9 ← pure []; pure (x8 :: r9)); pure (x10 :: r11)); Mo.lift (m_site_by_dd2e r12)); pure (.rt v13))
theorem e_site_of_0513 (a0 a1 : D) : b_site_of_0513 a0 a1 = (do let r7 ← (DL.ask (itD a0)); let x10 ← (lcF (fun d => some d) (fun (c3 : D) => pure true) (fun (c3 : D) => (Mo.lift (m_parsed_row_b892 [c3]))) r7); let v13 ← (Mo.lift (m_site_by_dd2e [(.lst x10), a1])); pure (.rt v13)) := by
  unfold b_site_of_0513; simp only [pure_bind, bind_assoc, mkL]
def m_site_of_0513 : List D → R D := apR2 fun a0 a1 => (runR false (b_site_of_0513 a0 a1))
def b_host_fits_56fd (a0 a1 a2 : D) : R (Fl Unit Empty) := (do let t29 ← (do let x2 ← (do let x1 ← (pure a0); DL.ask (fldD ["Page", "Rule"] "host" x1)); let y3 ← (pure .non); DL.ask ((isD x2 y3).bind bOf)); seqF (if t29 = true then (do let v18 ← (do let x16 ← (do let r9 ← (do let x7 ← (pure a1); let r8 ← (do let x5 ← (pure a2); let r6 ← pure []; pure (x5 :: r6)); pure (x7 :: r8)); Mo.lift (m_site_of_0513 r9)); let y17 ← (do let r15 ← (do let x13 ← (pure a1); let r14 ← (do let x11 ← (do let x10 ← (pure a0); DL.ask (fldD ["Rule"] "near" x10)); let r12 ← pure []; pure (x11 :: r12)); pure (x13 :: r14)); Mo.lift (m_site_of_0513 r15)); DL.ask (eqD x16 y17)); pure (.rt v18)) else (pure (.nx ()))) fun (q4 : Unit) => (do let v28 ← (do let r27 ← (do let x25 ← (do let x20 ← (do let x19 ← (pure a0); DL.ask (fldD ["Page", "Rule"] "host" x19)); let _ ← DL.ask (insOk ["HostPattern", "PathPattern"] "shape" x20); let r21 ← pure []; Mo.lift (dispM [("HostPattern", m_Pattern_shape_d275), ("PathPattern", m_Pattern_shape_d275)] x20 r21)); let r26 ← (do let x23 ← (do let x22 ← (pure a2); DL.ask (revD x22)); let r24 ← pure []; pure (x23 :: r24)); pure (x25 :: r26)); Mo.lift (m_row_fits_a0db r27)); pure (.rt v28)))
theorem e_host_fits_56fd (a0 a1 a2 : D) : b_host_fits_56fd a0 a1 a2 = (do let x2 ← (DL.ask (fldD ["Page", "Rule"] "host" a0)); let t29 ← (DL.ask ((isD x2 .non).bind bOf)); seqF (if t29 = true then (do let x16 ← (Mo.lift (m_site_of_0513 [a1, a2])); let x11 ← (DL.ask (fldD ["Rule"] "near" a0)); let y17 ← (Mo.lift (m_site_of_0513 [a1, x11])); let v18 ← (DL.ask (eqD x16 y17)); pure (.rt v18)) else (pure (.nx ()))) fun (q4 : Unit) => (do let x20 ← (DL.ask (fldD ["Page", "Rule"] "host" a0)); let _ ← DL.ask (insOk ["HostPattern", "PathPattern"] "shape" x20); let x25 ← (Mo.lift (dispM [("HostPattern", m_Pattern_shape_d275), ("PathPattern", m_Pattern_shape_d275)] x20 [])); let x23 ← (DL.ask (revD a2)); let v28 ← (Mo.lift (m_row_fits_a0db [x25, x23])); pure (.rt v28))) := by
  unfold b_host_fits_56fd; simp only [pure_bind, bind_assoc, mkL]
def m_host_fits_56fd : List D → R D := apR3 fun a0 a1 a2 => (runR false (b_host_fits_56fd a0 a1 a2))
def b_rule_fits_7439 (a0 a1 a2 a3 : D) : R (Fl Unit Empty) := (do let t31 ← (DL.orM (DL.notM (do let x10 ← (do let r9 ← (do let x7 ← (pure a0); let r8 ← (do let x5 ← (do let x1 ← (pure a3); DL.ask (fldD ["Page", "Rule"] "scheme" x1)); let r6 ← (do let x3 ← (do let x2 ← (pure a3); DL.ask (fldD ["Page"] "port" x2)); let r4 ← pure []; pure (x3 :: r4)); pure (x5 :: r6)); pure (x7 :: r8)); Mo.lift (m_door_fits_6b32 r9)); DL.ask (truD x10))) (DL.notM (do let x20 ← (do let r19 ← (do let x17 ← (do let x12 ← (do let x11 ← (pure a0); DL.ask (fldD ["Page", "Rule"] "path" x11)); let _ ← DL.ask (insOk ["HostPattern", "PathPattern"] "shape" x12); let r13 ← pure []; Mo.lift (dispM [("HostPattern", m_Pattern_shape_d275), ("PathPattern", m_Pattern_shape_d275)] x12 r13)); let r18 ← (do let x15 ← (do let x14 ← (pure a3); DL.ask (fldD ["Page", "Rule"] "path" x14)); let r16 ← pure []; pure (x15 :: r16)); pure (x17 :: r18)); Mo.lift (m_row_fits_a0db r19)); DL.ask (truD x20)))); seqF (if t31 = true then (do let v22 ← (pure (.bl false)); pure (.rt v22)) else (pure (.nx ()))) fun (q21 : Unit) => (do let v30 ← (do let r29 ← (do let x27 ← (pure a0); let r28 ← (do let x25 ← (pure a1); let r26 ← (do let x23 ← (pure a2); let r24 ← pure []; pure (x23 :: r24)); pure (x25 :: r26)); pure (x27 :: r28)); Mo.lift (m_host_fits_56fd r29)); pure (.rt v30)))
theorem e_rule_fits_7439 (a0 a1 a2 a3 : D) : b_rule_fits_7439 a0 a1 a2 a3 = (do let t31 ← (DL.orM (DL.notM (do let x5 ← (DL.ask (fldD ["Page", "Rule"] "scheme" a3)); let x3 ← (DL.ask (fldD ["Page"] "port" a3)); let x10 ← (Mo.lift (m_door_fits_6b32 [a0, x5, x3])); DL.ask (truD x10))) (DL.notM (do let x12 ← (DL.ask (fldD ["Page", "Rule"] "path" a0)); let _ ← DL.ask (insOk ["HostPattern", "PathPattern"] "shape" x12); let x17 ← (Mo.lift (dispM [("HostPattern", m_Pattern_shape_d275), ("PathPattern", m_Pattern_shape_d275)] x12 [])); let x15 ← (DL.ask (fldD ["Page", "Rule"] "path" a3)); let x20 ← (Mo.lift (m_row_fits_a0db [x17, x15])); DL.ask (truD x20)))); seqF (if t31 = true then (pure (.rt (.bl false))) else (pure (.nx ()))) fun (q21 : Unit) => (do let v30 ← (Mo.lift (m_host_fits_56fd [a0, a1, a2])); pure (.rt v30))) := by
  unfold b_rule_fits_7439; simp only [pure_bind, bind_assoc, mkL]
def m_rule_fits_7439 : List D → R D := apR4 fun a0 a1 a2 a3 => (runR false (b_rule_fits_7439 a0 a1 a2 a3))
end FN
namespace FN
open DL PySem PySem.W
theorem for_fold {α β γ τ ι : Type} {u : D → Option γ} {xb : α → γ → R (Fl α α)} (f : ι → D) (P : ι → Prop) (enc : τ → α) (step : τ → ι → τ)
    (hs : ∀ s i, P i → ∃ c, u (f i) = some c ∧ (xb (enc s) c = .ok (.nx (enc (step s i))) ∨ xb (enc s) c = .ok (.ct (enc (step s i))))) :
    ∀ (is : List ι) (s : τ), (∀ i ∈ is, P i) → (forF u xb (is.map f) (enc s) : R (Fl α β)) = .ok (.nx (enc (is.foldl step s)))
  | [], s, _ => rfl
  | i :: is, s, h => by
    obtain ⟨c, hu, hx⟩ := hs s i (h i (.head _))
    have ih := for_fold (β := β) f P enc step hs is (step s i) fun j m => h j (.tail _ m)
    rw [List.map_cons, forF, hu, List.foldl_cons]
    rcases hx with hx | hx
    · show ((xb (enc s) c) >>= _) = _
      rw [hx]
      exact ih
    · show ((xb (enc s) c) >>= _) = _
      rw [hx]
      exact ih
theorem labs_tup {R : List (List Nat)} (h : Labs R) : nic 3 (.tup (R.map .str)) = true := by
  rw [nic_tup]
  exact nic_strs fun z m c k => (lab_tx (h z m)).2 c k
theorem eqT {A B : List (List Nat)} (hA : Labs A) (hB : Labs B) : eqD (.tup (A.map .str)) (.tup (B.map .str)) = some (.bl (decide (A = B))) := by
  rw [eq_nic (labs_tup hA) (labs_tup hB) (by omega) (by omega)]
  show some (D.bl (deqL (A.map .str) (B.map .str))) = _
  rw [deqL_strs]
theorem labs_drop {A : List (List Nat)} (n : Nat) (h : Labs A) : Labs (A.drop n) := fun z m => h z (List.mem_of_mem_drop m)
theorem labs_take {A : List (List Nat)} (n : Nat) (h : Labs A) : Labs (A.take n) := fun z m => h z (List.mem_of_mem_take m)
theorem labs_app {A B : List (List Nat)} (h : Labs A) (k : Labs B) : Labs (A ++ B) := fun z m => by
  rcases List.mem_append.mp m with m | m
  · exact h z m
  · exact k z m
theorem lenT {A : List (List Nat)} : lenD [.tup (A.map D.str)] = some (.int (A.length : Int)) := by
  show some (D.int ((A.map D.str).length : Int)) = _
  rw [List.length_map]
def endsB (h A : List (List Nat)) : Bool := decide (A.length ≤ h.length) && decide (h.drop (h.length - A.length) = A)
theorem ge_l {i j : Int} : geD (.int i) (.int j) = some (.bl (decide (j ≤ i))) := rfl
theorem gt_l {i j : Int} : gtD (.int i) (.int j) = some (.bl (decide (j < i))) := rfl
theorem cut_back {A : List (List Nat)} {n : Nat} (h : n ≤ A.length) : cutL (A.map D.str) (some ((A.length : Int) - (n : Int))) none = (A.drop (A.length - n)).map D.str := by
  rw [cut_lo (by omega), List.map_drop]
  congr 1
  omega
theorem ends_ok {h A : List (List Nat)} (hh : Labs h) (hA : Labs A) : m_ends_with_d715 [.tup (h.map .str), .tup (A.map .str)] = .ok (.bl (endsB h A)) := by
  unfold m_ends_with_d715 apR2
  simp only [e_ends_with_d715, andV, lenT, askR, pure_bind, ge_l, tru_bl, sub_ii, int_of, slice_t]
  by_cases c : A.length ≤ h.length
  · have c' : ((A.length : Int) ≤ (h.length : Int)) := by omega
    simp only [decide_eq_true c', if_true, cut_back c, eqT (labs_drop _ hh) hA, askR, pure_bind, endsB, decide_eq_true c, Bool.true_and]
    rfl
  · have c' : ¬ ((A.length : Int) ≤ (h.length : Int)) := by omega
    simp only [decide_eq_false c', Bool.false_eq_true, if_false, endsB, decide_eq_false c, Bool.false_and, pure_bind]
    rfl
theorem cut_neg {A : List (List Nat)} {n : Nat} (h : 1 ≤ n) : cutL (A.map D.str) (some (-(n : Int))) none = (A.drop (A.length - n)).map D.str := by
  unfold cutL
  have e1 : HT.sIx (A.map D.str).length (A.map D.str).length none = (A.map D.str).length := rfl
  have e2 : HT.sIx (A.map D.str).length 0 (some (-(n : Int))) = A.length - n := by
    show (if (-(n : Int)) < 0 then (-(n : Int) + ((A.map D.str).length : Int)).toNat else min (-(n : Int)).toNat (A.map D.str).length) = _
    rw [if_pos (by omega), List.length_map]
    omega
  rw [e1, e2, List.take_of_length_le (by rw [List.length_drop]; omega), List.map_drop]
theorem ends_neg {h A : List (List Nat)} : decide (h.drop (h.length - A.length) = A) = endsB h A := by
  unfold endsB
  by_cases c : A.length ≤ h.length
  · rw [decide_eq_true c, Bool.true_and]
  · rw [decide_eq_false c, Bool.false_and]
    exact decide_eq_false fun e => by
      have := congrArg List.length e
      rw [List.length_drop] at this
      omega
inductive Kd | pl | wi | ex
abbrev Row := Kd × List (List Nat)
def kdD : Kd → D
  | .pl => c_PLAIN
  | .wi => c_WILD
  | .ex => c_EXCEPTION
def rowT : Row → List Nat
  | (.pl, A) => joinN [46] A
  | (.wi, A) => 42 :: 46 :: joinN [46] A
  | (.ex, A) => 33 :: joinN [46] A
def RowOk (r : Row) : Prop := Labs r.2 ∧ 1 ≤ r.2.length ∧ r.2.length ≤ 3 ∧ (r.1 = .wi → r.2.length ≤ 2) ∧ (r.1 = .ex → 2 ≤ r.2.length)
def rowD (r : Row) : D := .tup [kdD r.1, .tup (r.2.map .str)]
theorem labs_join {A : List (List Nat)} (h : Labs A) (hl : A.length ≤ 30) : (joinN [46] A).length ≤ 1000 := by
  have : ∀ {I : List (List Nat)}, (∀ z ∈ I, z.length ≤ 20) → (joinN [46] I).length ≤ 21 * I.length := by
    intro I
    induction I with
    | nil => intro _; simp [joinN]
    | cons a I ih =>
      intro hz
      have h1 := hz a (.head _)
      have h2 := ih fun z m => hz z (.tail _ m)
      cases I with
      | nil => simp only [joinN, List.length_cons, List.length_nil]; omega
      | cons b I =>
        simp only [joinN, List.length_append, List.length_cons, List.length_nil] at h2 ⊢
        omega
  have := this fun z m => (isLab_iff.mp (h z m)).2.1
  omega
theorem split_labs {A : List (List Nat)} (h : Labs A) (h0 : 1 ≤ A.length) (hl : A.length ≤ 30) : splitD (.str (joinN [46] A)) (.str [46]) = some (A.map .str) :=
  split_ok (by omega) (by decide) h (fun e => by rw [e] at h0; simp at h0) (by have := labs_join h hl; omega)
theorem no_bad {A : List (List Nat)} (h : Labs A) : (lcF (fun d => some d) (fun (c58 : D) => (DL.notM (do let x62 ← (Mo.lift (m_is_label_344b [c58])); DL.ask (truD x62)))) (fun (c58 : D) => (pure c58)) (A.map .str) : R (List D)) = .ok [] := by
  have := lcR (u := fun d => some d) (xt := fun (c58 : D) => (DL.notM (do let x62 ← (Mo.lift (m_is_label_344b [c58])); DL.ask (truD x62)) : R Bool)) (xe := fun (c58 : D) => (pure c58)) id (fun _ => false) id (A.map .str) (fun d _ => rfl) (fun d m => by
    obtain ⟨z, hz, rfl⟩ := List.mem_map.mp m
    have e : m_is_label_344b [.str z] = .ok (.bl (labD (.str z))) := is_label_ok (T := "str") rfl
    show (DL.notM (do let x62 ← (Mo.lift (m_is_label_344b [.str z])); DL.ask (truD x62)) : R Bool) = _
    rw [lift_pR, e, labD_str, h z hz]
    rfl) (fun d _ q => by cases q)
  exact this.trans (by rw [List.filter_eq_nil_iff.mpr (by simp)]; rfl)
theorem head_lab {A : List (List Nat)} (h : Labs A) (h0 : 1 ≤ A.length) : ∃ c r, joinN [46] A = c :: r ∧ c ∈ CH := by
  cases A with
  | nil => simp at h0
  | cons a A =>
    obtain ⟨h1, _, h3⟩ := isLab_iff.mp (h a (.head _))
    cases a with
    | nil => simp at h1
    | cons c a =>
      cases A with
      | nil => exact ⟨c, a, rfl, h3 c (.head _)⟩
      | cons b A => exact ⟨c, a ++ [46] ++ joinN [46] (b :: A), by simp [joinN], h3 c (.head _)⟩
theorem parsed_ok {r : Row} (h : RowOk r) : m_parsed_row_b892 [.str (rowT r)] = .ok (rowD r) := by
  obtain ⟨k, A⟩ := r
  obtain ⟨hA, h1, h2, h3, h4⟩ := h
  dsimp only at hA h1 h2 h3 h4
  have sp := split_labs hA h1 (by omega)
  have sz4 : ∀ a b c d : D, szL [a, b, c, d] = some [a, b, c, d] := fun _ _ _ _ => sz_ok (by simp)
  have u4 : ∀ a b c d : D, unN 4 (.tup [a, b, c, d]) = some [a, b, c, d] := fun _ _ _ _ => rfl
  have isS : ∀ z, isiD "str" (.str z) = some (.bl true) := fun _ => rfl
  have nb := no_bad hA
  simp only [DL.notM] at nb
  obtain ⟨c, r, ej, hc⟩ := head_lab hA h1
  have c33 : c ≠ 33 := fun e => by rw [e] at hc; revert hc; decide
  have c42 : c ≠ 42 := fun e => by rw [e] at hc; revert hc; decide
  have stm : ∀ (a b : List Nat), strM (fun a b => .bl (PySem.Txt.startswith ⟨a.toArray⟩ ⟨b.toArray⟩)) (.str a) (.str b) = some (.bl (decide (b.length ≤ a.length) && decide (a.take b.length = b))) := fun a b => by rw [← starts_eq]; rfl
  have il : itD (.tup (A.map D.str)) = some (A.map .str) := rfl
  have el : truD (.lst []) = some false := rfl
  unfold m_parsed_row_b892 apR1
  simp only [e_parsed_row_b892, isS, askR, pure_bind, tru_bl, DL.notM, Bool.not_true, Bool.false_eq_true, if_false, sqp, sz4, u4, str_of, stm]
  cases k with
  | pl =>
    have s1 : (decide (([33] : List Nat).length ≤ (rowT (.pl, A)).length) && decide ((rowT (.pl, A)).take ([33] : List Nat).length = [33])) = false := by
      show (_ && decide ((joinN [46] A).take 1 = [33])) = false
      rw [ej]
      simp [c33]
    have s2 : (decide (([42, 46] : List Nat).length ≤ (rowT (.pl, A)).length) && decide ((rowT (.pl, A)).take ([42, 46] : List Nat).length = [42, 46])) = false := by
      show (_ && decide ((joinN [46] A).take 2 = [42, 46])) = false
      rw [ej]
      simp [c42]
    have g0 : List.getD [c_PLAIN, D.str (rowT (.pl, A)), .int 1, c_MOST_LABELS_OF_ROW] 0 D.non = c_PLAIN := rfl
    have g1 : List.getD [c_PLAIN, D.str (rowT (.pl, A)), .int 1, c_MOST_LABELS_OF_ROW] 1 D.non = D.str (joinN [46] A) := rfl
    have g2 : List.getD [c_PLAIN, D.str (rowT (.pl, A)), .int 1, c_MOST_LABELS_OF_ROW] 2 D.non = .int 1 := rfl
    have g3 : List.getD [c_PLAIN, D.str (rowT (.pl, A)), .int 1, c_MOST_LABELS_OF_ROW] 3 D.non = .int 3 := rfl
    have ch : (chainM leD leD (pure (.int 1)) (pure (.int (A.length : Int))) (pure (.int 3)) : R D) = .ok (.bl true) := by
      rw [chain_ii, decide_eq_true (by omega), decide_eq_true (by omega)]; rfl
    simp only [s1, s2, g0, g1, g2, g3, tru_bl, askR, pure_bind, Bool.false_eq_true, if_false, sqp, str_of, sp, tup_lst, lenT, ch, okpR, bOf_bl, DL.orM, Bool.not_true, il, nb, el, sz2]
    rfl
  | wi =>
    have s1 : (decide (([33] : List Nat).length ≤ (rowT (.wi, A)).length) && decide ((rowT (.wi, A)).take ([33] : List Nat).length = [33])) = false := by
      show (_ && decide ((42 :: 46 :: joinN [46] A).take 1 = [33])) = false
      simp
    have s2 : (decide (([42, 46] : List Nat).length ≤ (rowT (.wi, A)).length) && decide ((rowT (.wi, A)).take ([42, 46] : List Nat).length = [42, 46])) = true := by
      show (decide (2 ≤ (42 :: 46 :: joinN [46] A).length) && decide ((42 :: 46 :: joinN [46] A).take 2 = [42, 46])) = true
      simp
    have g2 : List.getD [c_PLAIN, D.str (rowT (.wi, A)), .int 1, c_MOST_LABELS_OF_ROW] 2 D.non = .int 1 := rfl
    have cu : cutL (rowT (.wi, A)) (some 2) none = joinN [46] A := by
      rw [cut_lo (by omega)]; rfl
    have sb : subD c_MOST_LABELS_OF_ROW (.int 1) = some (.int 2) := rfl
    have hh := h3 rfl
    have ch : (chainM leD leD (pure (.int 1)) (pure (.int (A.length : Int))) (pure (.int 2)) : R D) = .ok (.bl true) := by
      rw [chain_ii, decide_eq_true (by omega), decide_eq_true (by omega)]; rfl
    simp only [s1, s2, g2, int_of, slice_s, cu, sb, tru_bl, askR, pure_bind, Bool.false_eq_true, if_false, if_true, sqp, str_of, sp, tup_lst, lenT, ch, okpR, bOf_bl, DL.orM, Bool.not_true, il, nb, el, sz2]
    rfl
  | ex =>
    have s1 : (decide (([33] : List Nat).length ≤ (rowT (.ex, A)).length) && decide ((rowT (.ex, A)).take ([33] : List Nat).length = [33])) = true := by
      show (decide (1 ≤ (33 :: joinN [46] A).length) && decide ((33 :: joinN [46] A).take 1 = [33])) = true
      simp
    have g3 : List.getD [c_PLAIN, D.str (rowT (.ex, A)), .int 1, c_MOST_LABELS_OF_ROW] 3 D.non = .int 3 := rfl
    have cu : cutL (rowT (.ex, A)) (some 1) none = joinN [46] A := by
      rw [cut_lo (by omega)]; rfl
    have hh := h4 rfl
    have ch : (chainM leD leD (pure (.int 2)) (pure (.int (A.length : Int))) (pure (.int 3)) : R D) = .ok (.bl true) := by
      rw [chain_ii, decide_eq_true (by omega), decide_eq_true (by omega)]; rfl
    simp only [s1, g3, int_of, slice_s, cu, tru_bl, askR, pure_bind, Bool.false_eq_true, if_false, if_true, sqp, str_of, sp, tup_lst, lenT, ch, okpR, bOf_bl, DL.orM, Bool.not_true, il, nb, el, sz2]
    rfl
theorem un2_2 {a b : D} : un2 (.tup [a, b]) = some (a, b) := rfl
def stepE (h : List (List Nat)) (q : Nat × Nat) (r : Row) : Nat × Nat := if endsB h r.2 = true then (match r.1 with
  | .ex => (q.1, max q.2 r.2.length)
  | .pl => (max q.1 r.2.length, q.2)
  | .wi => if r.2.length < h.length then (max q.1 (r.2.length + 1), q.2) else q) else q
def foldE (rows : List Row) (h : List (List Nat)) : Nat × Nat := rows.foldl (stepE h) (1, 0)
def encE (q : Nat × Nat) : D × D := (.int (q.1 : Int), .int (q.2 : Int))
theorem max_ii {i j : Nat} : maxD [.int (i : Int), .int (j : Int)] = some (.int ((max i j : Nat) : Int)) := by
  show some (D.int (if (j : Int) > (i : Int) then (j : Int) else (i : Int))) = _
  by_cases c : (j : Int) > (i : Int)
  · rw [if_pos c, Nat.max_eq_right (by omega)]
  · rw [if_neg c, Nat.max_eq_left (by omega)]
theorem min_ii {i j : Nat} : minD [.int (i : Int), .int (j : Int)] = some (.int ((min i j : Nat) : Int)) := by
  show some (D.int (if (j : Int) < (i : Int) then (j : Int) else (i : Int))) = _
  by_cases c : (j : Int) < (i : Int)
  · rw [if_pos c, Nat.min_eq_right (by omega)]
  · rw [if_neg c, Nat.min_eq_left (by omega)]
def sizeE (q : Nat × Nat) : Nat := if 0 < q.2 then q.2 - 1 else q.1
theorem ending_ok {rows : List Row} {h : List (List Nat)} {pd : D} (hp : itD pd = some (rows.map rowD)) (hr : ∀ r ∈ rows, RowOk r) (hh : Labs h) :
    m_ending_size_5148 [pd, .tup (h.map .str)] = .ok (.int ((sizeE (foldE rows h) : Nat) : Int)) := by
  unfold m_ending_size_5148 apR2
  simp only [e_ending_size_5148, sz2, askR, pure_bind, un2_2, hp]
  rw [show ((D.int 1, D.int 0) : D × D) = encE (1, 0) from rfl, for_fold (β := Empty) rowD RowOk encE (stepE h) (fun q r hk => ⟨(kdD r.1, .tup (r.2.map .str)), rfl, ?_⟩) rows (1, 0) hr]
  · show runR false (do let v72 ← (iteM (DL.ask ((gtD (encE (foldE rows h)).2 (.int 0)).bind bOf)) (DL.ask (subD (encE (foldE rows h)).2 (.int 1))) (pure (encE (foldE rows h)).1)); pure (.rt v72)) = _
    generalize foldE rows h = q
    obtain ⟨l, e⟩ := q
    show runR false (do let v72 ← (iteM (DL.ask ((gtD (.int (e : Int)) (.int 0)).bind bOf)) (DL.ask (subD (.int (e : Int)) (.int 1))) (pure (.int (l : Int)))); pure (.rt v72)) = _
    by_cases c : 0 < e
    · have c' : (0 : Int) < (e : Int) := by omega
      have es : ((e : Int) - 1) = ((e - 1 : Nat) : Int) := by omega
      simp only [gt_l, decide_eq_true c', iteM, Option.bind_some, bOf_bl, askR, pure_bind, if_true, sub_ii, es, sizeE, if_pos c]
      rfl
    · have c' : ¬ (0 : Int) < (e : Int) := by omega
      simp only [gt_l, decide_eq_false c', iteM, Option.bind_some, bOf_bl, askR, pure_bind, Bool.false_eq_true, if_false, sizeE, if_neg c]
      rfl
  · obtain ⟨k, A⟩ := r
    obtain ⟨l, e⟩ := q
    have hA : Labs A := hk.1
    simp only [ends_ok hh hA, lift_pR, okpR, pure_bind, tru_bl, askR, DL.notM]
    show _ ∨ _
    cases hb : endsB h A with
    | false =>
      refine .inr ?_
      simp only [Bool.not_false, if_true, stepE, hb, Bool.false_eq_true, if_false]
      rfl
    | true =>
      refine .inl ?_
      simp only [Bool.not_true, Bool.false_eq_true, if_false, sqp, stepE, hb, if_true]
      cases k with
      | ex =>
        have e1 : (eqD (kdD .ex) c_EXCEPTION).bind bOf = some true := rfl
        simp only [e1, askR, pure_bind, if_true, lenT, encE, max_ii]
        rfl
      | pl =>
        have e1 : (eqD (kdD .pl) c_EXCEPTION).bind bOf = some false := rfl
        have e2 : (eqD (kdD .pl) c_PLAIN).bind bOf = some true := rfl
        simp only [e1, e2, askR, pure_bind, if_true, Bool.false_eq_true, if_false, lenT, encE, max_ii]
        rfl
      | wi =>
        have e1 : (eqD (kdD .wi) c_EXCEPTION).bind bOf = some false := rfl
        have e2 : (eqD (kdD .wi) c_PLAIN).bind bOf = some false := rfl
        simp only [e1, e2, askR, pure_bind, Bool.false_eq_true, if_false, lenT, encE, gt_l, Option.bind_some, bOf_bl]
        by_cases c : A.length < h.length
        · have c' : (A.length : Int) < (h.length : Int) := by omega
          have ea : ((A.length : Int) + 1) = ((A.length + 1 : Nat) : Int) := by omega
          simp only [decide_eq_true c', if_true, add_ii, ea, max_ii, askR, pure_bind, if_pos c]
          rfl
        · have c' : ¬ (A.length : Int) < (h.length : Int) := by omega
          simp only [decide_eq_false c', Bool.false_eq_true, if_false, if_neg c]
          rfl
def siteN (rows : List Row) (h : List (List Nat)) : List (List Nat) := h.drop (h.length - (sizeE (foldE rows h) + 1))
theorem site_by_ok {rows : List Row} {h : List (List Nat)} {pd : D} (hp : itD pd = some (rows.map rowD)) (hr : ∀ r ∈ rows, RowOk r) (hh : Labs h) : m_site_by_dd2e [pd, .tup (h.map .str)] = .ok (.tup ((siteN rows h).map .str)) := by
  have en := ending_ok hp hr hh
  have ea : ((sizeE (foldE rows h) : Nat) : Int) + 1 = ((sizeE (foldE rows h) + 1 : Nat) : Int) := by omega
  have cd := cut_back (A := h) (n := min h.length (sizeE (foldE rows h) + 1)) (by omega)
  have e2 : h.length - min h.length (sizeE (foldE rows h) + 1) = h.length - (sizeE (foldE rows h) + 1) := by omega
  rw [e2] at cd
  unfold m_site_by_dd2e apR2
  simp only [e_site_by_dd2e, lenT, askR, pure_bind, en, lift_pR, okpR, add_ii, ea, min_ii, sub_ii, int_of, slice_t, cd]
  rfl
theorem site_of_ok {rows : List Row} {h : List (List Nat)} {pd : D} (hp : itD pd = some (rows.map fun r => .str (rowT r))) (hr : ∀ r ∈ rows, RowOk r) (hh : Labs h) : m_site_of_0513 [pd, .tup (h.map .str)] = .ok (.tup ((siteN rows h).map .str)) := by
  have hw : (lcF (fun d => some d) (fun (c3 : D) => pure true) (fun (c3 : D) => (Mo.lift (m_parsed_row_b892 [c3]))) (rows.map fun r => .str (rowT r)) : R (List D)) = .ok (rows.map rowD) := by
    clear hp
    induction rows with
    | nil => rfl
    | cons r rows ih =>
      have e := parsed_ok (hr r (.head _))
      have ih' := ih fun x m => hr x (.tail _ m)
      rw [List.map_cons, lcF]
      show ((Mo.noex (Mo.lift (m_parsed_row_b892 [.str (rowT r)]) : R D)) >>= fun y => (lcF (fun d => some d) (fun (c3 : D) => pure true) (fun (c3 : D) => (Mo.lift (m_parsed_row_b892 [c3]))) (rows.map fun r => .str (rowT r)) : R (List D)) >>= fun r => pure (y :: r)) = _
      rw [lift_pR, e, ih']
      rfl
  unfold m_site_of_0513 apR2
  simp only [e_site_of_0513, hp, askR, pure_bind]
  rw [hw]
  simp only [okpR, pure_bind, site_by_ok (pd := .lst (rows.map rowD)) rfl hr hh, lift_pR]
  rfl
end FN
namespace FN
open DL PySem PySem.W
abbrev Hst := List (List Nat)
def hD (h : Hst) : D := .tup (h.map .str)
def grD (g : List Hst) : D := .tup (g.map hD)
def MemOk (m : Hst) : Prop := Labs m ∧ 1 ≤ m.length ∧ m.length ≤ 3
def GrOk (g : List Hst) : Prop := (∀ m ∈ g, MemOk m) ∧ 2 ≤ g.length ∧ g.length ≤ 4
abbrev Best := Option (Hst × Hst)
def bestLen : Best → Nat
  | none => 0
  | some q => q.1.length
def stepM (h g0 : Hst) (q : Best) (m : Hst) : Best := if endsB h m = true ∧ bestLen q < m.length then some (m, g0) else q
def stepG (h : Hst) (q : Best) (g : List Hst) : Best := g.foldl (stepM h (g.headD [])) q
def bestN (kin : List (List Hst)) (h : Hst) : Best := kin.foldl (stepG h) none
def movedN (kin : List (List Hst)) (h : Hst) : Hst := match bestN kin h with
  | none => h
  | some q => h.take (h.length - q.1.length) ++ q.2
def encL : Best → D × D
  | none => (.tup [], .tup [])
  | some q => (hD q.1, hD q.2)
def BestOk (h : Hst) (q : Best) : Prop := ∀ x, q = some x → x.1.length ≤ h.length ∧ MemOk x.2
theorem lenH {h : Hst} : lenD [hD h] = some (.int (h.length : Int)) := lenT
theorem grp_head {g : List Hst} (k : GrOk g) : ∃ g0 gs, g = g0 :: gs ∧ ixD (grD g) (.int 0) = some (hD g0) ∧ g.headD [] = g0 ∧ MemOk g0 := by
  cases g with
  | nil => have := k.2.1; simp at this
  | cons g0 gs => exact ⟨g0, gs, rfl, by
    show ((L2.ixN ((g0 :: gs).map hD).length 0).bind fun j => ((g0 :: gs).map hD)[j]?) = _
    rw [ixN_ok (by omega) (by simp)]
    rfl, rfl, k.1 g0 (.head _)⟩
theorem best_ok {kin : List (List Hst)} {h : Hst} (hk : ∀ g ∈ kin, GrOk g) : BestOk h (bestN kin h) := by
  have one : ∀ (g0 : Hst) (ms : List Hst) (q : Best), MemOk g0 → BestOk h q → BestOk h (ms.foldl (stepM h g0) q) := by
    intro g0 ms
    induction ms with
    | nil => intro q _ hq; exact hq
    | cons m ms ih =>
      intro q h0 hq
      refine ih _ h0 ?_
      unfold stepM
      by_cases c : endsB h m = true ∧ bestLen q < m.length
      · rw [if_pos c]
        intro x e
        cases e
        have := c.1
        unfold endsB at this
        simp only [Bool.and_eq_true, decide_eq_true_eq] at this
        exact ⟨this.1, h0⟩
      · rw [if_neg c]; exact hq
  have all : ∀ (ks : List (List Hst)) (q : Best), (∀ g ∈ ks, GrOk g) → BestOk h q → BestOk h (ks.foldl (stepG h) q) := by
    intro ks
    induction ks with
    | nil => intro q _ hq; exact hq
    | cons g ks ih =>
      intro q hg hq
      refine ih _ (fun x m => hg x (.tail _ m)) ?_
      obtain ⟨g0, gs, e, _, e2, h0⟩ := grp_head (hg g (.head _))
      unfold stepG
      rw [e2]
      exact one g0 g q h0 hq
  exact all kin none hk fun x e => by cases e
theorem cut_take {A : Hst} {n : Nat} (h : n ≤ A.length) : cutL (A.map D.str) none (some ((A.length : Int) - (n : Int))) = (A.take (A.length - n)).map D.str := by
  rw [show ((A.length : Int) - (n : Int)) = ((A.length - n : Nat) : Int) by omega, cut_toD, List.map_take]
theorem moved_facts {kin : List (List Hst)} {h : Hst} (hk : ∀ g ∈ kin, GrOk g) (hh : Labs h) (h1 : 1 ≤ h.length) : Labs (movedN kin h) ∧ (movedN kin h).length ≤ h.length + 3 ∧ 1 ≤ (movedN kin h).length := by
  have bo := best_ok (h := h) hk
  unfold movedN
  cases hb : bestN kin h with
  | none => exact ⟨hh, by simp, h1⟩
  | some x =>
    obtain ⟨b1, b2, b3, b4⟩ := bo x hb
    refine ⟨labs_app (labs_take _ hh) b2, ?_, ?_⟩
    · show (h.take (h.length - x.1.length) ++ x.2).length ≤ _
      rw [List.length_append, List.length_take]; omega
    · show 1 ≤ (h.take (h.length - x.1.length) ++ x.2).length
      rw [List.length_append, List.length_take]; omega
theorem row_tx {r : Row} (h : RowOk r) : Tx 1000 (rowT r) := by
  obtain ⟨k, A⟩ := r
  obtain ⟨hA, h1, h2, _, _⟩ := h
  dsimp only at hA h1 h2
  have jl : (joinN [46] A).length ≤ 100 := by
    have := (join_row2 (S := [46]) (row_of (by omega) hA) (by simp)).2
    have h3 : ∀ {I : List (List Nat)}, (∀ z ∈ I, z.length ≤ 20) → (joinN [46] I).length ≤ 21 * I.length := by
      intro I
      induction I with
      | nil => intro _; simp [joinN]
      | cons a I ih =>
        intro hz
        have h1 := hz a (.head _)
        have h2 := ih fun z m => hz z (.tail _ m)
        cases I with
        | nil => simp only [joinN, List.length_cons, List.length_nil]; omega
        | cons b I =>
          simp only [joinN, List.length_append, List.length_cons, List.length_nil] at h2 ⊢
          omega
    have := h3 fun z m => (isLab_iff.mp (hA z m)).2.1
    omega
  have jc : ∀ c ∈ joinN [46] A, c < 1114112 := join_tx (row_of (by omega) hA) (by omega)
  cases k with
  | pl => exact ⟨by show (joinN [46] A).length ≤ _; omega, jc⟩
  | wi => exact ⟨by show (42 :: 46 :: joinN [46] A).length ≤ _; simp only [List.length_cons]; omega, fun c m => by
      rcases List.mem_cons.mp (show c ∈ 42 :: 46 :: joinN [46] A from m) with rfl | m
      · omega
      · rcases List.mem_cons.mp m with rfl | m
        · omega
        · exact jc c m⟩
  | ex => exact ⟨by show (33 :: joinN [46] A).length ≤ _; simp only [List.length_cons]; omega, fun c m => by
      rcases List.mem_cons.mp (show c ∈ 33 :: joinN [46] A from m) with rfl | m
      · omega
      · exact jc c m⟩
def rowsD (rows : List Row) : List D := rows.map fun r => .str (rowT r)
def TabOk (rows : List Row) : Prop := (∀ r ∈ rows, RowOk r) ∧ (rows.map rowT).Nodup ∧ rows.length ≤ 8
end FN
namespace FN
open DL PySem PySem.W
theorem door40 {s w nm t pj sch : List Nat} {pd near host path : D} {i : Int} (hw : Wd w) (ht : Dr t pd) (hsch : sch = kHttp ∨ sch = kHttps) : m_door_fits_6b32 [.ins "Rule" RNs (ruF s w nm t pj pd near host path), .str sch, .int i] = .ok (.bl (fitB w sch i pd)) := by
  have f1 : fldD ["Page", "Rule"] "scheme" (.ins "Rule" RNs (ruF s w nm t pj pd near host path)) = some (.str w) := rfl
  have f2 : fldD ["Rule"] "ports" (.ins "Rule" RNs (ruF s w nm t pj pd near host path)) = some pd := rfl
  have hin := (in_any hw hsch).1
  unfold m_door_fits_6b32 apR3
  simp only [e_door_fits_6b32, f1, f2, askR, pure_bind, sz2, hin]
  unfold fitB
  cases hb : decide (w ∈ [[97, 110, 121], sch]) with
  | false => rfl
  | true =>
    simp only [Bool.not_true, Bool.false_eq_true, if_false, Bool.true_and]
    rcases ht with ⟨rfl, rfl⟩ | ⟨u, lo, hi, rfl, rfl, h1, h2, h3, _⟩
    · have isn : isD .non .non = some (.bl true) := rfl
      simp only [isn, Option.bind_some, bOf_bl, askR, pure_bind, if_true, def_port2 hsch, lift_pR, okpR, eq_i]
      rfl
    · have isn : isD (iPd lo hi) .non = some (.bl false) := rfl
      have x0 : ixD (iPd lo hi) (.int 0) = some (.int lo) := rfl
      have x1 : ixD (iPd lo hi) (.int 1) = some (.int hi) := rfl
      simp only [isn, Option.bind_some, bOf_bl, askR, pure_bind, Bool.false_eq_true, if_false, sqp, x0, x1, chain_ii, okpR]
      rfl
theorem labs_sh {A : Hst} (h : Labs A) : Sh A := fun z m => by have := (lab_tx (h z m)).1; omega
theorem path40 {J path : D} {x : List Nat} (k : PjD J x path) {B : Hst} (hB : Labs B) (hl : B.length ≤ 1000) : ∃ b, insOk ["HostPattern", "PathPattern"] "shape" path = some () ∧ (∃ sh, dispM [("HostPattern", m_Pattern_shape_d275), ("PathPattern", m_Pattern_shape_d275)] path [] = .ok sh ∧ m_row_fits_a0db [sh, hD B] = .ok (.bl b)) ∧ m__law_row_fits_3c3f [J, .lst (B.map .str)] = .ok (.bl b) := by
  cases k with
  | @mk J h t g p hl2 =>
    obtain ⟨a1, a2, a3, a4⟩ := pat_len p hl2
    exact ⟨rowN h t g B, rfl, ⟨_, rfl, row_fits43 a3 a4 (labs_sh hB) (by omega) (by omega) hl⟩, law_row43 p (labs_sh hB) (by omega) hl⟩
theorem near_fits {s w nm t pj : List Nat} {pd path : D} {N A : Hst} {rows : List Row} {td : D} (ht : itD td = some (rows.map fun r => .str (rowT r))) (hr : ∀ r ∈ rows, RowOk r) (hN : Labs N) (hA : Labs A) : m_host_fits_56fd [.ins "Rule" RNs (ruF s w nm t pj pd (hD N) .non path), td, hD A] = .ok (.bl (decide (siteN rows A = siteN rows N))) := by
  have g5 : fldD ["Page", "Rule"] "host" (.ins "Rule" RNs (ruF s w nm t pj pd (hD N) .non path)) = some .non := rfl
  have g6 : fldD ["Rule"] "near" (.ins "Rule" RNs (ruF s w nm t pj pd (hD N) .non path)) = some (hD N) := rfl
  have isn : isD .non .non = some (.bl true) := rfl
  have s1 : m_site_of_0513 [td, hD A] = .ok (.tup ((siteN rows A).map .str)) := site_of_ok ht hr hA
  have s2 : m_site_of_0513 [td, hD N] = .ok (.tup ((siteN rows N).map .str)) := site_of_ok ht hr hN
  have eq := eqT (A := siteN rows A) (B := siteN rows N) (labs_drop _ hA) (labs_drop _ hN)
  unfold m_host_fits_56fd apR3
  simp only [e_host_fits_56fd, g5, g6, askR, pure_bind, isn, Option.bind_some, bOf_bl, if_true, s1, s2, lift_pR, okpR, eq]
  rfl
theorem pat_fits {s w nm t pj : List Nat} {pd path td : D} {I h t2 : List (List Nat)} {g : Bool} (p : PatI 1 4 3 2 I.reverse h t2 g) (hl : I.length ≤ 10) {A : Hst} (hA : Labs A) (lA : A.length ≤ 1000) : m_host_fits_56fd [.ins "Rule" RNs (ruF s w nm t pj pd .non (.ins "HostPattern" PNs (ptF (joinN [46] I) c_HOST h t2 g)) path), td, hD A] = .ok (.bl (rowN h t2 g A.reverse)) := by
  have g5 : fldD ["Page", "Rule"] "host" (.ins "Rule" RNs (ruF s w nm t pj pd .non (.ins "HostPattern" PNs (ptF (joinN [46] I) c_HOST h t2 g)) path)) = some (.ins "HostPattern" PNs (ptF (joinN [46] I) c_HOST h t2 g)) := rfl
  obtain ⟨a1, a2, a3, a4⟩ := pat_len p (by rw [List.length_reverse]; exact hl)
  have isn : isD (.ins "HostPattern" PNs (ptF (joinN [46] I) c_HOST h t2 g)) .non = some (.bl false) := rfl
  have o2 : insOk ["HostPattern", "PathPattern"] "shape" (.ins "HostPattern" PNs (ptF (joinN [46] I) c_HOST h t2 g)) = some () := rfl
  have d2 : dispM [("HostPattern", m_Pattern_shape_d275), ("PathPattern", m_Pattern_shape_d275)] (.ins "HostPattern" PNs (ptF (joinN [46] I) c_HOST h t2 g)) [] = .ok (.tup [.tup (h.map .str), .tup (t2.map .str), .bl g]) := rfl
  have shA := labs_sh hA
  have rf := row_fits43 (g := g) a3 a4 (R := A.reverse) (fun z m => shA z (List.mem_reverse.mp m)) (by omega) (by omega) (by rw [List.length_reverse]; exact lA)
  have rv : revD (hD A) = some (.tup (A.reverse.map .str)) := by
    show some (D.tup (A.map D.str).reverse) = _
    rw [List.map_reverse]
  unfold m_host_fits_56fd apR3
  simp only [e_host_fits_56fd, g5, askR, pure_bind, isn, Option.bind_some, bOf_bl, Bool.false_eq_true, if_false, sqp, o2, d2, lift_pR, okpR, rv, rf]
  rfl
theorem rule_fits_ok {s w nm t pj sch : List Nat} {pd near host path td : D} {A A0 B : Hst} {i : Int} {b c : Bool} (hw : Wd w) (ht : Dr t pd) (hg : Pg sch A0 i B) (o1 : insOk ["HostPattern", "PathPattern"] "shape" path = some ()) {sh : D} (d1 : dispM [("HostPattern", m_Pattern_shape_d275), ("PathPattern", m_Pattern_shape_d275)] path [] = .ok sh) (f1 : m_row_fits_a0db [sh, hD B] = .ok (.bl b)) (h1 : m_host_fits_56fd [.ins "Rule" RNs (ruF s w nm t pj pd near host path), td, hD A] = .ok (.bl c)) :
    m_rule_fits_7439 [.ins "Rule" RNs (ruF s w nm t pj pd near host path), td, hD A, pgD sch A0 i B] = .ok (.bl (fitB w sch i pd && (b && c))) := by
  have g1 : fldD ["Page", "Rule"] "scheme" (pgD sch A0 i B) = some (.str sch) := rfl
  have g2 : fldD ["Page"] "port" (pgD sch A0 i B) = some (.int i) := rfl
  have g3 : fldD ["Page", "Rule"] "path" (pgD sch A0 i B) = some (hD B) := rfl
  have g4 : fldD ["Page", "Rule"] "path" (.ins "Rule" RNs (ruF s w nm t pj pd near host path)) = some path := rfl
  have door := door40 (s := s) (nm := nm) (pj := pj) (near := near) (host := host) (path := path) (i := i) hw ht hg.sw
  unfold m_rule_fits_7439 apR4
  simp only [e_rule_fits_7439, g1, g2, g3, g4, askR, pure_bind, door, lift_pR, okpR, tru_bl, DL.notM, DL.orM, o1, d1, f1, h1]
  cases fitB w sch i pd <;> cases b <;> rfl
end FN
namespace DL
open PySem PySem.Spec PyProof.Rows L2 StX
end DL
namespace FN
open DL
end FN
namespace DL
end DL
namespace FN
open DL
end FN
namespace FN
open DL PySem PySem.W
theorem ix_hd {x : D} {xs : List D} : ixD (.tup (x :: xs)) (.int 0) = some x := by
  show ((L2.ixN (x :: xs).length 0).bind fun j => (x :: xs)[j]?) = _
  rw [ixN_ok (by omega) (by simp)]
  rfl
theorem lstrip_ok {z : List Nat} (h : z.length ≤ 1000000) : lstripD (.str z) (.str [33]) = some (.str (z.drop (z.takeWhile fun c => c == 33).length)) := by
  have e : (Txt.lstripChars ⟨z.toArray⟩ ⟨([33] : List Nat).toArray⟩).cps.toList = z.drop (z.takeWhile fun c => c == 33).length := by
    unfold Txt.lstripChars
    rw [PyProof.Rows.stripBy_eq, StrLaws.strSub_toList]
    have e1 : ((⟨([33] : List Nat).toArray⟩ : Str).cps.contains) = fun c => c == 33 := by
      funext c
      show ([33] : List Nat).toArray.contains c = _
      simp
      by_cases q : c = 33 <;> simp [q]
    rw [e1]
    show (z.drop (z.takeWhile fun c => c == 33).length).take (z.length - (z.takeWhile fun c => c == 33).length) = _
    rw [List.take_of_length_le (by rw [List.length_drop]; exact Nat.le_refl _)]
  show (if (Txt.lstripChars ⟨z.toArray⟩ ⟨([33] : List Nat).toArray⟩).cps.toList.length ≤ sizeLine then some (D.str (Txt.lstripChars ⟨z.toArray⟩ ⟨([33] : List Nat).toArray⟩).cps.toList) else none) = _
  rw [e, if_pos (by rw [List.length_drop, sizeLine_eq]; omega)]
def labT (r : Row) : List (List Nat) := match r.1 with
  | .wi => [42] :: r.2
  | _ => r.2
theorem law_split {r : Row} (h : RowOk r) : ∃ t, lstripD (.str (rowT r)) (.str [33]) = some (.str t) ∧ splitD (.str t) (.str [46]) = some ((labT r).map .str) := by
  obtain ⟨k, A⟩ := r
  have tx := row_tx h
  obtain ⟨hA, h1, h2, h3, h4⟩ := h
  dsimp only at hA h1 h2 h3 h4
  have ne : A ≠ [] := fun e => by rw [e] at h1; simp at h1
  obtain ⟨c, r, ej, hc⟩ := head_lab hA h1
  have c33 : (c == 33) = false := by
    have : c ≠ 33 := fun e => by rw [e] at hc; revert hc; decide
    simpa using this
  have ls := lstrip_ok (z := rowT (k, A)) (by have := tx.1; omega)
  cases k with
  | pl =>
    have e : rowT (.pl, A) = c :: r := ej
    refine ⟨joinN [46] A, ?_, split_labs hA h1 (by omega)⟩
    rw [ls, e, List.takeWhile_cons, c33, ← ej]
    rfl
  | wi =>
    refine ⟨rowT (.wi, A), ?_, ?_⟩
    · rw [ls]
      show some (D.str ((42 :: 46 :: joinN [46] A).drop ((42 :: 46 :: joinN [46] A).takeWhile fun c => c == 33).length)) = _
      rw [List.takeWhile_cons]
      rfl
    · have e : rowT (.wi, A) = joinN [46] ([42] :: A) := by
        cases A with
        | nil => exact absurd rfl ne
        | cons a A => rfl
      have hl := tx.1
      rw [e] at hl ⊢
      show (if 46 < 256 ∧ (joinN [46] ([42] :: A)).length ≤ 1000000 then some ((TL.spl [46] 0 [] (joinN [46] ([42] :: A))).map D.str) else none) = _
      rw [if_pos ⟨by omega, by omega⟩, joinN_eq, TL.spl_join (by simp) fun p m => by
        rcases List.mem_cons.mp m with rfl | m
        · decide
        · exact ch_free (by decide) (hA p m)]
      rfl
  | ex =>
    refine ⟨joinN [46] A, ?_, split_labs hA h1 (by omega)⟩
    rw [ls]
    show some (D.str ((33 :: joinN [46] A).drop ((33 :: joinN [46] A).takeWhile fun c => c == 33).length)) = _
    rw [ej, List.takeWhile_cons, List.takeWhile_cons, c33]
    rfl
end FN
namespace FN
open DL PySem PySem.W
end FN
namespace DL
open PySem L2
end DL
namespace DL
open PySem PySem.Spec PyProof.Rows L2 PySem.SeqAt PySem.MeetsSeq PySem.MeetsSeq2 PySem.MeetsSeq3 PySem.SeqRoads2
section
variable {prog : Program} {w : World} {A : Around} {R : Result → Shared → Prop}
inductive Eqs (prog : Program) (w : World) (A : Around) (J : Shared → Prop) : List (Value × Value) → List Bool → Prop where
  | nil : Eqs prog w A J [] []
  | cons {y x : Value} {r : Bool} {l : List (Value × Value)} {rs : List Bool} (h : ∀ (t : Shared) (E : Value → Shared → Prop) (Q : Bool → Shared → Prop), J t → (∀ t', J t' → Q r t') → wpAny (model prog w) A.in1 (eqBool y x) Q E t)
    (tl : Eqs prog w A J l rs) : Eqs prog w A J ((y, x) :: l) (r :: rs)
theorem Eqs.get {J : Shared → Prop} : ∀ {l : List (Value × Value)} {rs : List Bool} {i : Nat} {y x : Value}, Eqs prog w A J l rs → l[i]? = some (y, x) →
    ∃ r, rs[i]? = some r ∧ ∀ (t : Shared) (E : Value → Shared → Prop) (Q : Bool → Shared → Prop), J t → (∀ t', J t' → Q r t') → wpAny (model prog w) A.in1 (eqBool y x) Q E t
  | _, _, _, _, _, .nil, e => by simp at e
  | _, _, 0, _, _, .cons h _, e => by
    simp at e
    obtain ⟨rfl, rfl⟩ := e
    exact ⟨_, rfl, h⟩
  | _, _, i + 1, _, _, .cons _ tl, e => by
    obtain ⟨r, h1, h2⟩ := tl.get (i := i) (by simpa using e)
    exact ⟨r, by simpa using h1, h2⟩
end
def kdD : D → Nat
  | .non => 0
  | .bl _ => 1
  | .int _ => 2
  | .str _ => 3
  | _ => 4
end DL
namespace DL
open PySem PySem.Spec PyProof.Rows L2
end DL
namespace DL
open PySem PySem.Spec PyProof.Rows L2 StX
section
variable {K : PySem.W.Frag} {mg : Str → Option Value} [DL.TC]
def KwRun {α : Type} (D : Addr) : List (Str × Value) → Sem α → Sem α → Prop
  | [], t, r => t = r
  | q :: l, t, r => ∃ (β γ : Type) (k1 : Option Value → Sem β) (k2 : β → Sem γ) (k3 : γ → Sem α) (a : β), t = ((nsGet D q.1 >>= k1) >>= k2) >>= k3 ∧ k1 (some q.2) = pure a ∧ KwRun D l (k2 a >>= k3) r
theorem KwRun.run {α : Type} {M : Model} {A : Around} {D : Addr} {Q : α → Shared → Prop} {E : Value → Shared → Prop} {s : Shared} (X : K.In s.heap) : ∀ {l : List (Str × Value)} {t r : Sem α}, (∀ q ∈ l, PySem.W.nsIn K D q.1 = some (some q.2)) → KwRun D l t r → wpAny M A r Q E s → wpAny M A t Q E s
  | [], _, _, _, e, h => by rw [show _ = _ from e]; exact h
  | q :: l, t, r, hl, e, h => by
    obtain ⟨β, γ, k1, k2, k3, a, rfl, e2, e3⟩ := e
    have flat : ((nsGet D q.1 >>= k1) >>= k2) >>= k3 = nsGet D q.1 >>= fun o => k1 o >>= fun b => k2 b >>= k3 := by simp only [bind_assoc]
    rw [flat]
    refine wpAny_bind ((PySem.W.looks_nsIn X (hl q (.head _))).at ?_)
    rw [e2, pure_bind]
    exact KwRun.run X (fun q hq => hl q (.tail _ hq)) e3 h
end
end DL
namespace DL
open PySem PySem.Spec PyProof.Rows L2
section
variable {K : PySem.W.Frag} [DL.TC]
theorem xc_of {C : Addr} {b : PySem.OwnX.XB} (h : xcB K C b = true) : ∃ (b : PySem.OwnX.XB) (nm q : Str) (N : Addr) (bs bm : List Value) (sn : List Str) (sub : List Value) (ab : Bool) (col : Option Bool) (dd : Option Addr) (k0 k1 k2 k3 k5 : Option Value),
    K.lookup C = some (excClassObj nm q C N bs bm true sn sub ab col dd k0 k1 k2 k3 k5 b.nw) ∧ PySem.OwnX.overB b bm = true := by
  unfold xcB at h
  split at h
  · rename_i dd cd sl ho
    split at h
    · rename_i C' bm k0 k1 k2 k3 n k5 hm hs
      simp only [Bool.and_eq_true, Bool.not_eq_true', beq_iff_eq] at h
      obtain ⟨⟨rfl, rfl⟩, hd, hh, hb⟩ := h
      obtain ⟨a1, a2, a3, a4, a5, a6, a7, a8, a9, a10, a11⟩ := cd
      simp only at hm hd hh
      subst hm hd hh
      have es : sl = #[k0, k1, k2, k3, some (.builtin b.nw), k5] := by
        have := congrArg List.toArray hs
        simpa using this
      subst es
      exact ⟨b, _, _, _, _, bm, _, _, _, _, dd, k0, k1, k2, k3, k5, ho, hb⟩
    · cases h
  · cases h
end
theorem walk_gE {l : PySem.W.OpenLaw} {n k : Nat} {q : Program} {loose : List Str} {XP : (Str → Option Value) → Heap → Prop} {YP : World → Heap → Prop} {d : DefRec} {x : Str} {g : List D → R D}
    (hn : l.most = some n) (hn2 : n ≤ sizeLine) (hdf : d.params.defaults = []) (hr : Room k callerA)
    (F : ∀ (w : World) (mg : Str → Option Value) (fa : Addr) (h : Heap), YP w h → h.Ns mainGlobals mg → mg d.name = some (.ref fa) →
      ∃ (K : PySem.W.Frag) (fd : FuncData), K.In h ∧ (∀ (s : Shared) (u : Value), BindsTo s fd ⟨[u], []⟩ [(x, u)]) ∧ ∀ base : Heap, K.In base → base.Ns mainGlobals mg → FnG l.prog w K mg base k fa fd [x] (@spR K mg (tc0 w) false 1 g))
    (hg : ∀ ns : List Int, ns.length ≤ n → g [.scr ns] = .ok (.bl true)) :
    PySem.W.WalkO q loose XP YP l.row.toRowW d [] (fun f vs => PySem.call f vs) := by
  refine Att.attach_call hn hdf fun w s0 s1 mg mb fa o pm cd doc a vs ns G Y ho hd hcd hmg hobj hints hlen hgn => ?_
  obtain ⟨K, fd, KX, hb, hF⟩ := F w mg fa _ Y G.T.g hmg
  letI : TC := tc0 w
  exact law_callG rfl KX G.T.g G.T.b G.T.builtins G.T.nolimit hgn hobj hints (Nat.le_trans hlen hn2) hr hF hb (hg ns hlen)
end DL
namespace DL
open PySem PySem.Spec PyProof.Rows L2
structure FL (K : PySem.W.Frag) (as : List Addr) (vs : List FnV) : Prop where
  v : as.map (fnV K) = vs
  c : as.all (fcB K) = true
section
variable {K : PySem.W.Frag} {h : Heap} {mg : Str → Option Value} [DL.TC]
theorem ng_ok (X : K.In h) (G : h.Ns mainGlobals mg) {x : Str} (c : ngB K x = true) : mg x = some (.ref (gA K x)) := PySem.W.mg_of X G (of_decide_eq_true c)
theorem nn_ok (X : K.In h) (G : h.Ns mainGlobals mg) {x : Str} (c : nnB K x = true) : mg x = none := PySem.W.mg_none_of X G (of_decide_eq_true c)
theorem all_of {α : Type} {p : α → Bool} {l : List α} (h : l.all p = true) {a : α} (m : a ∈ l) : p a = true := List.all_eq_true.mp h a m
theorem fc_ok {a : Addr} {x qual : Str} {pa : Arguments} {bo : FuncBody} {sc : Scope} {g b : Addr} {cl : List Str} (e : fnV K a = some (x, qual, pa, bo, sc, g, cl, b)) (c : fcB K a = true) : codB K a qual = true ∧ PySem.W.keepIn K (.ref a) = true := by
  unfold fnV at e
  unfold fcB at c
  unfold codB
  cases q : K.lookup a with
  | none => rw [q] at c; cases c
  | some o =>
    obtain ⟨oc, od, dt, osl⟩ := o
    rw [q] at c e
    cases dt with
    | func fd =>
      have e2 : (some (fd.name, fd.qualname, fd.params, fd.body, fd.scope, fd.globals, fd.closure.map (·.1), fd.builtins) : FnV) = some (x, qual, pa, bo, sc, g, cl, b) := e
      simp only [Option.some.injEq, Prod.mk.injEq] at e2
      have c2 := He.ba c
      rw [e2.2.1] at c2
      exact c2
    | _ => cases c
theorem FL.hd {a : Addr} {as : List Addr} {v : FnV} {vs : List FnV} (F : FL K (a :: as) (v :: vs)) : (fnV K a = v ∧ fcB K a = true) ∧ FL K as vs := by
  obtain ⟨v, c⟩ := F
  rw [List.map_cons] at v
  rw [List.all_cons] at c
  obtain ⟨c1, c2⟩ := He.ba c
  exact ⟨⟨(List.cons.inj v).1, c1⟩, (List.cons.inj v).2, c2⟩
theorem FL.fn {a : Addr} {as : List Addr} {x q : Str} {st : Stmt} {vs : List FnV} (F : FL K (a :: as) (fnT x q st [] :: vs)) : ∃ f, Fun K x q st a f ∧ FL K as vs := by
  obtain ⟨⟨v, c⟩, r⟩ := F.hd
  obtain ⟨cc, k⟩ := fc_ok v c
  obtain ⟨oc, od, kV, dc, pm, an, cd, ct, sl, l, q⟩ := fun_of (pa := defArgs st) (bo := defBody st) (sc := defScope st) v cc
  exact ⟨_, fun_mk l q k, r⟩
theorem FL.fs {a : Addr} {as : List Addr} {x q : Str} {st : Stmt} {vs : List FnV} (F : FL K (a :: as) (fnT x q st [] :: vs)) : ∃ (kV dc pm : Value) (an : Option Addr) (cd ct : Value), Fun K x q st a (PySem.W.fnOf x q (defArgs st) (defBody st) (defScope st) .none kV dc pm an cd ct) ∧ FL K as vs := by
  obtain ⟨⟨v, c⟩, r⟩ := F.hd
  obtain ⟨cc, k⟩ := fc_ok v c
  obtain ⟨oc, od, kV, dc, pm, an, cd, ct, sl, l, q⟩ := fun_of (pa := defArgs st) (bo := defBody st) (sc := defScope st) v cc
  exact ⟨_, _, _, _, _, _, fun_mk l q k, r⟩
theorem cl_ok (X : K.In h) (G : h.Ns mainGlobals mg) {c : Str} (e : clB K c = true) : ClsN K mg c (gA K c) := by
  unfold clB at e
  obtain ⟨e1, e⟩ := He.ba e
  obtain ⟨e2, e⟩ := He.ba e
  obtain ⟨e3, e⟩ := He.ba e
  obtain ⟨e4, e⟩ := He.ba e
  obtain ⟨e5, e⟩ := He.ba e
  obtain ⟨e6, e⟩ := He.ba e
  obtain ⟨e7, e⟩ := He.ba e
  obtain ⟨e8, e9⟩ := He.ba e
  exact ⟨ng_ok X G e1, ⟨e2, e3, e4, of_decide_eq_true e5⟩, of_decide_eq_true e6, of_decide_eq_true e7, of_decide_eq_true e8, of_decide_eq_true e9⟩
theorem na_ok {c : Str} {fs : List Str} (e : naB K c fs = true) : ∀ f ∈ fs, NoAttr K (gA K c) f := fun f hf => of_decide_eq_true (p := PySem.W.findIn K (.ref (gA K c)) f = some none) (all_of e hf)
theorem mt_ok {c m : Str} {a : Addr} (e : mtB K c m a = true) : PySem.W.findIn K (.ref (gA K c)) m = some (some (.ref a)) ∧ PySem.W.isFn K (.ref a) = true := ⟨of_decide_eq_true (He.ba e).1, (He.ba e).2⟩
theorem mk_ok {c : Str} (e : mkB K c = true) : Mk K (gA K c) (mA K c "__init__") := ⟨(He.ba (He.ba e).2).1, (mt_ok (He.ba e).1).1, (mt_ok (He.ba e).1).2, (He.ba (He.ba e).2).2⟩
theorem pr_ok {c m : Str} (e : prB K c m = true) : ∃ p, PropOf K (gA K c) m p (prA K c m) := by
  obtain ⟨e1, e⟩ := He.ba e
  obtain ⟨e2, e⟩ := He.ba e
  obtain ⟨e3, e4⟩ := He.ba e
  exact ⟨_, of_decide_eq_true e1, of_decide_eq_true e2, of_decide_eq_true e3, hdB_ok e4⟩
theorem FL.own (X : K.In h) (G : h.Ns mainGlobals mg) {x f q : Str} {b : PySem.OwnX.XB} {p1 p2 q1 q2 q3 q4 : Pos} {as : List Addr} {vs : List FnV} (F : FL K (mA K x "__init__" :: as) (some ("__init__", q, PySem.OwnX.iA f p1 p2, .stmts (PySem.OwnX.iB f q1 q2 q3 q4), PySem.OwnX.iS f, mainGlobals, [], builtinsNs) :: vs)) (e : xB K x f b = true)
    (fs : (f == ("self" : Str)) = false) (fb : (f == ("__debug__" : Str)) = false) (bd : ∀ (doc pm : Value) (an : Option Addr) (cdv ct u v : Value) (p1 p2 q1 q2 q3 q4 : Pos), bindArgs (PySem.W.fnOf "__init__" q (PySem.OwnX.iA f p1 p2) (PySem.OwnX.iB f q1 q2 q3 q4) (PySem.OwnX.iS f) .none .none doc pm an cdv ct) ⟨[u, v], []⟩ = pure [(("self" : Str), u), (f, v)]) :
    PySem.OwnX.OwnTxt K mg x f q (gA K x) (mA K x "__init__") ∧ FL K as vs := by
  obtain ⟨⟨v, c⟩, r⟩ := F.hd
  obtain ⟨cc, k⟩ := fc_ok v c
  unfold xB at e
  obtain ⟨e1, e⟩ := He.ba e
  obtain ⟨e2, e⟩ := He.ba e
  obtain ⟨e3, e⟩ := He.ba e
  obtain ⟨e4, e⟩ := He.ba e
  obtain ⟨e5, e⟩ := He.ba e
  obtain ⟨e6, e⟩ := He.ba e
  obtain ⟨e7, e⟩ := He.ba e
  obtain ⟨e8, e⟩ := He.ba e
  obtain ⟨e9, e⟩ := He.ba e
  obtain ⟨e10, e⟩ := He.ba e
  obtain ⟨e11, e⟩ := He.ba e
  obtain ⟨e12, e⟩ := He.ba e
  obtain ⟨e13, e⟩ := He.ba e
  obtain ⟨e14, e15⟩ := He.ba e
  obtain ⟨oc, od, dc, pm, an, cd, ct, sl, l, q⟩ := funN_of v cc e15
  exact ⟨{ fs := fs, fb := fb, bind := bd, gC := ng_ok X G e1, cls := xc_of e2, sa := of_decide_eq_true e3, ga := of_decide_eq_true e4, gg := of_decide_eq_true e5, noN := of_decide_eq_true e6, iC := of_decide_eq_true e7, tC := of_decide_eq_true e8, kC := e9, exC := of_decide_eq_true e10, tyC := of_decide_eq_true e11, hdC := e12, te := exm_self (of_decide_eq_true e10) e13 (of_decide_eq_true e11) (of_decide_eq_true e14), fn := ⟨oc, od, dc, pm, an, cd, ct, sl, _, _, _, _, _, _, l, q⟩ }, r⟩
theorem gs_ok (X : K.In h) (G : h.Ns mainGlobals mg) {c s : Str} {l : List Nat} (e : gsB K c s = true) (hs : s = ⟨l.toArray⟩) (hl : l.length ≤ 1000) : GlobIs K mg c (.str l) := by
  obtain ⟨t, e⟩ := strB_ok e
  exact globS (PySem.W.mg_of X G e) hs hl
theorem gi_ok (X : K.In h) (G : h.Ns mainGlobals mg) {c : Str} {i : Int} (e : giB K c i = true) : GlobIs K mg c (.int i) := by
  obtain ⟨t, e⟩ := intB_ok e
  exact globI (PySem.W.mg_of X G e)
theorem FL.sup {P : Program} (X : K.In h) (G : h.Ns mainGlobals mg) {a fb : Addr} {c x q : Str} {st : Stmt} {as : List Addr} {vs : List FnV} {xb qb : Str} {stb : Stmt} {fdb : FuncData} (F : FL K (a :: as) (fnT x q st ["__class__"] :: vs)) (B : Fun K xb qb stb fb fdb) (su : supB K a (gA K c) P.main.file = true) (sb : suB K c fb = true)
    (zs : nnB K "super" = true) (top : (P.main.scope.names.lookup ("super" : Str)).isSome = false) (tp : decide (PySem.W.nsIn K cStatics "thirdparty.any" = some none) = true) :
    (∃ f, SupFun P K mg x q st a fb (gA K c) f ∧ ∀ ps : List Str, (∀ (cc cda : Addr) (kV doc pm : Value) (an : Option Addr) (ct : Value) (us : List Value), us.length = ps.length → bindArgs (PySem.W.fnX x q (defArgs st) (defBody st) (defScope st) [("__class__", cc)] .none kV doc pm an (.ref cda) ct) ⟨us, []⟩ = pure (ps.zip us)) → Binds K f ps []) ∧ FL K as vs := by
  obtain ⟨⟨v, c⟩, r⟩ := F.hd
  obtain ⟨cc, k⟩ := fc_ok v c
  obtain ⟨oc, od, kV, dc, pm, an, cda, ct, sl, cc, ccl, cdd, vs, ccs, file, tf, cl, cld, csl, l, cq, lc, hv, hf, hcc⟩ := funX_of (st := st) v cc su
  obtain ⟨s1, s⟩ := He.ba sb
  obtain ⟨s2, s⟩ := He.ba s
  obtain ⟨s3, s4⟩ := He.ba s
  obtain ⟨ob, od2, kV2, dc2, pm2, an2, cd2, ct2, sl2, e2, lb, _⟩ := B.ex
  exact ⟨⟨_, supFun_mk l cq lc hv hf hcc s1 (of_decide_eq_true s2) (nn_ok X G zs) top (of_decide_eq_true s4) (of_decide_eq_true s3) lb (of_decide_eq_true tp), fun ps h => Binds.all fun us hl => h _ _ _ _ _ _ _ us hl⟩, r⟩
end
end DL
namespace DL
open PySem L2
end DL
namespace FN
open DL PySem PySem.W
end FN
namespace FN
open DL PySem PySem.W
end FN
namespace DL
open PySem PySem.Spec PyProof.Rows L2
end DL
namespace DL
open PySem PySem.Spec PyProof.Rows L2
def rCount (K : PySem.W.Frag) : V → List V → Hp → VK → Prop := fun x xs H Q => ∃ (a : Addr) (ys : List V) (y : V), x = V.ref a ∧ xs = [y] ∧ SqL K H a ys ∧ flatV y = true ∧ ys.all flatV = true ∧ Q (.int ((ys.countP fun z => eqV z y : Nat) : Int)) H
theorem count_rel {y : V} : ∀ {ys : List V} {us : List Value}, Vals ys us → ys.all flatV = true → us.countP (eqU y) = ys.countP fun z => eqV z y
  | _, _, .nil, _ => rfl
  | _, _, .cons r t, f => by
    rw [List.all_cons, Bool.and_eq_true] at f
    rw [List.countP_cons, List.countP_cons, count_rel t f.2, eqU_of r f.1]
section
variable {X : Cx} [DL.TC]
theorem list_lies {pins : List (Addr × Obj)} {s : Shared} {σ : L2.St} {H : Hp} {a : Addr} {ys : List V} (I : L2.Inv X pins σ H s) (seq : SqL X.K H a ys) :
    ∃ (its : List Value) (n : Nat) (dd : Option Addr) (sl : Array (Option Value)), Vals ys its ∧ s.heap.get? a = some { cls := .type "list", dict := dd, data := .seq its.toArray n, slots := sl } := by
  obtain ⟨its, vals, ⟨⟨c, dd, dt, sl⟩, n, lies, ec, -, ed⟩, -⟩ := I.list seq
  have ec' : c = .type "list" := ec
  have ed' : dt = .seq its.toArray n := ed
  exact ⟨its, n, dd, sl, vals, ec' ▸ ed' ▸ lies⟩
theorem mt_count : MtR X "list.count" (rCount X.K) := fun pins s σ H x xs v us Q I rx rxs ⟨a, ys, y, ex, exs, seq, fy, fys, q⟩ => by
  subst ex exs
  cases rx
  obtain ⟨u, rfl, ry⟩ := vals1 rxs
  obtain ⟨its, n, dd, sl, vals, lies⟩ := list_lies I seq
  refine call_meets PySem.F.slot_list_count ⟨_, lies, rfl⟩ PySem.F.entry_list_count (PySem.F.args_list_count_2 _ _) (SeqAt.list_countAt a its.toArray n dd sl u (eqU y)) ⟨lies, fun z hz => mem_eqAt ry fy vals fys z (by simpa using hz), ?_⟩
  have count : its.toArray.toList.countP (eqU y) = ys.countP fun z => eqV z y := count_rel vals fys
  rw [count]
  exact ⟨.int ((ys.countP fun z => eqV z y : Nat) : Int), H, I.tok _, ⟨_, rfl⟩, q⟩
end
end DL
namespace DL
open PySem PySem.Spec PyProof.Rows L2
end DL
namespace DL
open PySem PySem.Spec PyProof.Rows L2
section
variable {prog : Program} {w : World} {A : Around} {E : Value → Shared → Prop} {s : Shared}
def TupOfText (Q : Value → Shared → Prop) (x : Str) (s : Shared) : Prop :=
  ∀ (s' : Shared) (acc : Array Value), (∀ b o, s.heap.get? b = some o → s'.heap.get? b = some o) → s'.gens = s.gens → s'.drawn = s.drawn → s'.os = s.os → ItemsOf (SignAt x) acc x.cps.size → Q (.ref s'.heap.objs.size) { s' with heap := s'.heap.push { cls := .type "tuple", data := .seq acc } }
theorem tuple_new_text {Q : Value → Shared → Prop} {x : Str} {t : Tok} (hh : A.handled = none) (hn : x.cps.size ≤ sizeLine) (got : TupOfText Q x s) :
    codeAny (model prog w) A (.call (.builtin "tuple.__new__") ⟨[.type "tuple", .str x t], []⟩) (wants Q E) s := by
  refine codeAny_of_tree (wpAny_bind (m := checkBuiltinCall "tuple.__new__" _) (wpAny_of_eq (F.newCall_tuple_1 (.str x t)) (wpAny_pure ⟨plainId_quiet F.plain_tuple_new _, codeAny_builtin F.entry_tuple_new ?_⟩)))
  rw [Around.under_plainId F.plain_tuple_new _]
  have lookups := And.intro sub_tuple_self (And.intro init_tuple_lookup madeHere_tuple)
  obtain ⟨sub, ini, made⟩ := lookups
  have text : s.TypeIs (.str x t) "str" := typeIs_str s x t
  wp_walk using wpAny_typeOf text, wpAny_collect_str (A := A.in1) (hn := hn) (show A.in1.handled = none from hh) x t
  intro s' acc k1 k2 k3 k4 items
  have size : acc.toList.toArray.size ≤ sizeLine := by rw [Array.toArray_toList, items.1]; exact hn
  refine wpAny_bind (m := Builtin.Tuple.tupleExact _) (wpAny_newObj_type (wpAny_pure ?_) size)
  rw [Array.toArray_toList]
  exact got s' acc k1 k2 k3 k4 items
theorem call_tuple_str {Q : Value → Shared → Prop} (hh : A.handled = none) (x : Str) (t : Tok) (hn : x.cps.size ≤ sizeLine) (hQ : TupOfText Q x s) : wpAny (model prog w) A (call (.type "tuple") [.str x t]) Q E s :=
  callType_codes (Q₁ := fun v s1 => s1.TypeIs v "tuple" ∧ Q v s1) F.called_tuple (F.typeCall_tuple_1 _) F.entry_object_init (tuple_new_text (A := A.in1) hh hn fun s' acc k1 k2 k3 k4 items => ⟨⟨_, Heap.get?_push_size _ rfl, rfl⟩, hQ s' acc k1 k2 k3 k4 items⟩)
    fun v s1 ⟨is, q⟩ => ⟨is, F.args_object_init_2 v _, object_init_meets F.called_tuple.init.lookup F.called_tuple.made (by decide) prog w A.in1 _ s1 ⟨is, rfl, q⟩⟩
end
section
variable {X : Cx} [DL.TC]
theorem call_tuple_chrs (hc : X.calm = true) : CallR X (.type "tuple") (fun xs H Q => ∃ z : List Nat, xs = [.str ⟨z.toArray⟩] ∧ z.length ≤ sizeLine ∧ ∀ q, H q = none → Q (.ref q) (upd H q (.tup (z.map fun c => .str ⟨#[c]⟩)))) := by
  intro pins s σ H xs us Q I r h
  obtain ⟨z, rfl, hz, q⟩ := h
  obtain ⟨u, rfl, rx⟩ := vals1 r
  obtain ⟨t, rfl⟩ := rx
  have hz' : (⟨z.toArray⟩ : Str).cps.size ≤ sizeLine := by
    show z.toArray.size ≤ sizeLine
    simpa using hz
  refine call_tuple_str (I.ok.hd hc) _ t hz' fun ⟨h', g', d', tk, o'⟩ acc hk eg ed eo hacc => ?_
  obtain rfl : g' = s.gens := eg
  obtain rfl : d' = s.drawn := ed
  obtain rfl : o' = s.os := eo
  have el : acc.toList.length = z.length := by
    have := hacc.1
    simpa using this
  have rv : Vals (z.map fun c => V.str ⟨#[c]⟩) acc.toList := by
    refine vals_of_at (by rw [List.length_map, el]) fun j x w h1 h2 => ?_
    obtain ⟨c, u, hc', ew⟩ := hacc.2 j w (by rw [← Array.getElem?_toList]; exact h2)
    subst ew
    have hc2 : z[j]? = some c := by
      have : z.toArray[j]? = some c := hc'
      rwa [List.getElem?_toArray] at this
    rw [List.getElem?_map, hc2] at h1
    cases h1
    exact ⟨u, rfl⟩
  have I1 : L2.Inv X pins σ H { s with heap := h', toks := tk } := I.kept (t' := tk) hk
  have I2 : L2.Inv X pins σ (upd H h'.objs.size (.tup (z.map fun c => V.str ⟨#[c]⟩))) { s with heap := h'.push { cls := .type "tuple", data := .seq acc }, toks := tk } :=
    I1.laid (t' := tk) (fun b o e => Heap.get?_push_of_some _ e) (Nat.le_refl _) (show ObjOk X.prog X.w _ _ _ (.tup (z.map fun c => V.str ⟨#[c]⟩)) from ⟨by simpa using hz, acc.toList, rv, by rw [Array.toArray_toList]; exact IsTup.new _ _⟩)
  exact ⟨.ref h'.objs.size, _, I2, rfl, q _ (I1.hok.fresh (Nat.le_refl _))⟩
def tupleXD : List D → Option D
  | [.str z] => some (.tup (chrs z))
  | ds => tupleD ds
theorem oc_tupleX (hc : X.calm = true) : CallR X (.type "tuple") (rDs X.K X.mg tupleXD) := by
  intro pins s σ H xs us Q I r h
  obtain ⟨Hf, ds, d, sb, l, e, q⟩ := h
  unfold tupleXD at e
  split at e
  · cases e
    obtain ⟨v, r1, rfl, ⟨rfl, hz⟩, rfl⟩ := l
    refine call_tuple_chrs hc pins s σ H _ us Q I r ⟨_, rfl, hz, fun p hp => q _ _ _ (.new sb hp) ?_⟩
    exact ⟨by unfold chrs; rw [List.length_map]; exact hz, p, _, rfl, .inl (.inl upd_same), isL_chrs _⟩
  · exact oc_tuple pins s σ H _ us Q I r ⟨Hf, _, d, sb, l, e, q⟩
end
end DL
namespace DL
open PySem PySem.Spec PyProof.Rows L2
end DL
namespace DL
open PySem PySem.Spec PyProof.Rows L2
end DL
namespace DL
open PySem PySem.W
structure STO {α : Type} (lt : α → α → Bool) : Prop where
  irr : ∀ a, lt a a = false
  trans : ∀ {a b c}, lt a b = true → lt b c = true → lt a c = true
  tri : ∀ a b, lt a b = true ∨ a = b ∨ lt b a = true
section
variable {α : Type} {lt : α → α → Bool} (O : STO lt)
include O
theorem STO.asym {a b : α} (h : lt a b = true) : lt b a = false := by
  cases q : lt b a with
  | false => rfl
  | true =>
    have := O.trans h q
    rw [O.irr] at this; cases this
theorem STO.le_iff {a b : α} : (!lt b a) = true ↔ lt a b = true ∨ a = b := by
  rw [Bool.not_eq_true']
  constructor
  · intro h
    rcases O.tri a b with q | q | q
    · exact .inl q
    · exact .inr q
    · rw [h] at q; cases q
  · rintro (h | rfl)
    · exact O.asym h
    · exact O.irr a
theorem STO.le_trans {a b c : α} (h1 : (!lt b a) = true) (h2 : (!lt c b) = true) : (!lt c a) = true := by
  rw [O.le_iff] at *
  rcases h1 with h1 | rfl
  · rcases h2 with h2 | rfl
    · exact .inl (O.trans h1 h2)
    · exact .inl h1
  · exact h2
end
end DL
namespace DL
open PySem PySem.Spec PyProof.Rows L2
section
variable {K : PySem.W.Frag} {mg : Str → Option Value} {fx : Fx} {Hf H : Hp} {σ : L2.St} {G : List Sl} {s : S} [DL.TC]
theorem StS.setNew {i : Nat} {x0 : Sl} {p : Addr} (st : StS K mg fx Hf H σ G s) (hn : ∀ (j : Nat) (q : Addr), σ[j]? = some (some (.ref q)) → (∀ x, G[j]? = some x → isOw x = true → q ≠ p)) (ox0 : isOw x0 = true) (new : SlOk K mg fx Hf H (some (some (.ref p))) x0) :
    StS K mg fx Hf H (σ.set i (some (.ref p))) (G.set i x0) s := by
  refine ⟨st.ste, st.bag, st.bagg, st.tb, by simpa using st.len, fun j x e => ?_, fun j k x y q hjk ex ey ox oy e1 e2 => ?_⟩
  · by_cases q : i = j
    · subst q
      have hi : i < G.length := by
        have := (List.getElem?_eq_some_iff.mp e).1
        simpa using this
      rw [List.getElem?_set_self hi] at e
      cases e
      rw [List.getElem?_set_self (by rw [st.len]; exact hi)]
      exact new
    · rw [List.getElem?_set_ne q] at e
      rw [List.getElem?_set_ne q]
      exact st.sl j x e
  · have hi : ∀ {z : Sl}, (G.set i x0)[i]? = some z → i < σ.length := fun e => by
      have := (List.getElem?_eq_some_iff.mp e).1
      rw [st.len]
      simpa using this
    by_cases a : i = j
    · subst a
      rw [List.getElem?_set_self (hi ex)] at e1
      have hk : i ≠ k := hjk
      rw [List.getElem?_set_ne hk] at ey e2
      cases e1
      exact hn k p e2 y ey oy rfl
    · rw [List.getElem?_set_ne a] at ex e1
      by_cases b : i = k
      · subst b
        rw [List.getElem?_set_self (hi ey)] at e2
        cases e2
        exact hn j p e1 x ex ox rfl
      · rw [List.getElem?_set_ne b] at ey e2
        exact st.dis j k x y q hjk ex ey ox oy e1 e2
end
end DL
namespace DL
open PySem PySem.Spec PyProof.Rows L2
end DL
namespace DL
open PySem PySem.Spec PyProof.Rows L2 HotX
end DL
namespace L2
open PySem PySem.Spec PyProof.Rows
end L2
namespace DL
open PySem PySem.Spec PyProof.Rows L2 HotX
end DL
namespace DL
open PySem PySem.Spec PyProof.Rows L2
end DL
namespace FN
open DL PySem PySem.W
variable {I : List (List Nat)} {l0 l1 mh mt : Nat} {x : D} {fs : List D}
theorem bols_map {α : Type} (f : α → Bool) : ∀ (L : List α), bolsOf (L.map fun a => D.bl (f a)) = some (L.map f)
  | [] => rfl
  | a :: L => by
    rw [List.map_cons]
    show (bolsOf (L.map fun a => D.bl (f a))).map (f a :: ·) = _
    rw [bols_map f L]; rfl
theorem all_map {α : Type} (f : α → Bool) (L : List α) : allD [.lst (L.map fun a => D.bl (f a))] = some (.bl (L.all f)) := by
  show (bolsOf (L.map fun a => D.bl (f a))).map (fun bs => D.bl (bs.all id)) = _
  rw [bols_map]
  show some (D.bl ((L.map f).all id)) = _
  rw [List.all_map]; rfl
end FN
namespace DL
open PySem PySem.Spec PyProof.Rows L2
end DL
namespace DL
open PySem PySem.Spec PyProof.Rows L2
end DL
namespace DL
open PySem PySem.Spec PyProof.Rows L2
end DL
namespace DL
open PySem PySem.Spec PyProof.Rows L2
end DL
namespace DL
open PySem PySem.Spec PyProof.Rows L2
end DL
namespace DL
open PySem PySem.Spec PyProof.Rows L2
end DL
namespace DL
open PySem PySem.Spec PyProof.Rows L2
end DL
namespace DL
open PySem PySem.Spec PyProof.Rows L2
end DL
namespace DL
open PySem PySem.Spec PyProof.Rows L2
end DL
namespace DL
open PySem PySem.Spec PyProof.Rows L2
section
variable {K : PySem.W.Frag} {mg : Str → Option Value} [DL.TC]
theorem spR_frz {n : Nat} {g : List D → R D} {vs : List V} {H : Hp} {Q : VK} {E : XK} (h : spR K mg false n g vs H Q E) : spR K mg true n g vs H Q E := by
  obtain ⟨hv, Hf, ds, sb, l, q⟩ := h
  refine ⟨hv, Hf, ds, sb, l, ?_⟩
  cases z : g ds with
  | ok d =>
    rw [z] at q
    rintro v Hf' H' e ⟨p, vs2, ds2, rfl, rfl, hp, hf, h0, l2, hz⟩
    have sb2 : Sub Hf' (upd Hf' p (.lst vs2)) := fun a o q => by
      have ne : a ≠ p := fun z => by rw [z, hf] at q; cases q
      rw [upd_ne ne]; exact q
    refine q (.ref p) (upd Hf' p (.lst vs2)) H' ⟨e.sub.trans sb2, fun a o q => ?_, e.keep, e.dom, fun a o q => ?_, e.tab⟩ ⟨hz, p, vs2, rfl, upd_same, l2.mono sb2⟩
    · by_cases c : a = p
      · subst c; rw [upd_same] at q; cases q; exact hp
      · rw [upd_ne c] at q; exact e.top a o q
    · by_cases c : a = p
      · subst c; exact .inr h0
      · rw [upd_ne c] at q; exact e.fresh a o q
  | ex e => rw [z] at q; exact q
  | stuck => rw [z] at q; exact q
theorem FnP.frz {P : Program} {w : World} {base : Heap} {k n : Nat} {f : Addr} {ks : List Str} {g : List D → R D} (F : FnP P w K mg base k f ks (spR K mg true n g)) : FnP P w K mg base k f ks (spR K mg false n g) := F.imp fun _ _ _ _ h => spR_frz h
end
end DL
namespace PySem
end PySem
namespace L2
open PySem PySem.Spec PyProof.Rows GenW
end L2
namespace DL
open PySem PySem.Spec PyProof.Rows L2 GenW
section
variable (K : PySem.W.Frag) (mg : Str → Option Value) (fx : Fx) {α β : Type} [DL.TC]
def FPY (Hf : Hp) (ex : α → List Sl) (exb : β → List Sl) (De : GEnds) : Fl (α × List D) (β × List D) → S → Prop := fun f s' => match f with
  | .nx a => ∀ Hf' H' σ' ys', Sub Hf Hf' → StS K mg fx Hf' H' σ' (ex a.1) s' → IsL K mg Hf' a.2 ys' → De.nx ys' σ' H'
  | .rt _ => False
  | .bk b => ∀ Hf' H' σ' ys', Sub Hf Hf' → StS K mg fx Hf' H' σ' (exb b.1) s' → IsL K mg Hf' b.2 ys' → De.bk ys' σ' H'
  | .ct b => ∀ Hf' H' σ' ys', Sub Hf Hf' → StS K mg fx Hf' H' σ' (exb b.1) s' → IsL K mg Hf' b.2 ys' → De.ct ys' σ' H'
def tYX (G : List Sl) (acc : List D) (ex : α → List Sl) (exb : β → List Sl) (x : R (Fl (α × List D) (β × List D))) (Hf : Hp) (s : S) (De : GEnds) (ys : List V) (σ : L2.St) (H : Hp) : Prop :=
  StS K mg fx Hf H σ G s ∧ IsL K mg Hf acc ys ∧ R.wp x s (FPY K mg fx Hf ex exb De) (fun _ _ => False)
end
section
variable {K : PySem.W.Frag} {mg : Str → Option Value} {fx : Fx} {α β γ δ ε : Type} {G G' : List Sl} {acc : List D} {ex : α → List Sl} {exb : β → List Sl} {rm : Hp → γ → δ → Prop} [DL.TC]
theorem FPY.up {Hf Hf1 : Hp} {De : GEnds} {f : Fl (α × List D) (β × List D)} {s : S} (sb : Sub Hf Hf1) (h : FPY K mg fx Hf ex exb De f s) : FPY K mg fx Hf1 ex exb De f s := by
  cases f with
  | nx a => exact fun Hf' H' σ' ys' sb' => h Hf' H' σ' ys' (sb.trans sb')
  | rt d => exact h
  | bk b => exact fun Hf' H' σ' ys' sb' => h Hf' H' σ' ys' (sb.trans sb')
  | ct b => exact fun Hf' H' σ' ys' sb' => h Hf' H' σ' ys' (sb.trans sb')
theorem tYX.bind {x : R γ} {k : γ → R (Fl (α × List D) (β × List D))} {Hf : Hp} {s : S} {ys : List V} {σ : L2.St} {H : Hp} {De : GEnds} (h : tYX K mg fx G acc ex exb (x >>= k) Hf s De ys σ H) :
    tX K mg fx G rm x Hf s σ H (fun b H1 => ∃ a Hf1 s1, Sub Hf Hf1 ∧ rm Hf1 a b ∧ tYX K mg fx G acc ex exb (k a) Hf1 s1 De ys σ H1) := by
  obtain ⟨st, l, w⟩ := h
  have w1 := Mo.wp_bind (m := R) w
  exact ⟨st, Mo.wp_mono (m := R) w1 (fun a s1 h1 b Hf1 H1 ste bag r => ⟨a, Hf1, s1, ste.sub, r, st.step ste bag, l.mono ste.sub, Mo.wp_mono (m := R) h1 (fun f s2 h2 => h2.up ste.sub) fun e s' k => k⟩) fun e s' k => k.elim⟩
end
end DL
namespace L2
open PySem PySem.Spec PyProof.Rows GenW
end L2
namespace L2
open PySem PySem.Spec PyProof.Rows GenW
end L2
namespace DL
open PySem PySem.Spec PyProof.Rows L2 GenW
end DL
namespace L3
open PySem PySem.Spec PyProof.Rows GenW L2
end L3
namespace L3
open PySem PySem.Spec PyProof.Rows GenW L2
end L3
namespace DL
open PySem PySem.Spec PyProof.Rows L2 GenW L3
end DL
namespace L3
open PySem PySem.Spec PyProof.Rows GenW L2
end L3
namespace L3
open PySem PySem.Spec PyProof.Rows GenW L2
end L3
namespace DL
open PySem PySem.Spec PyProof.Rows L2 GenW
end DL
namespace L3
open PySem PySem.Spec PyProof.Rows GenW L2
end L3
namespace DL
open PySem PySem.Spec PyProof.Rows L2
end DL
namespace DL
open PySem PySem.Spec PyProof.Rows L2
end DL
namespace DL
open PySem PySem.Spec PyProof.Rows L2
end DL
namespace DL
open PySem PySem.Spec PyProof.Rows L2
end DL
namespace DL
open PySem PySem.Spec PyProof.Rows L2
end DL
namespace DL
open PySem PySem.Spec PyProof.Rows L2
end DL
namespace DL
open PySem PySem.Spec PyProof.Rows PySem.SeqAt
open AutoSeq1 (wpAny_loadPart')
end DL
namespace DL
open PySem PySem.Spec PyProof.Rows L2
end DL
namespace DL
open PySem PySem.Spec PyProof.Rows L2
end DL
namespace DL
open PySem PySem.Spec PyProof.Rows L2
end DL
namespace DL
open PySem PySem.Spec PyProof.Rows L2
end DL
namespace DL
open PySem PySem.Spec PyProof.Rows L2
end DL
namespace DL
open PySem PySem.Spec PyProof.Rows L2
end DL
namespace DL
open PySem PySem.Spec PyProof.Rows L2
end DL
namespace DL
open PySem PySem.Spec PyProof.Rows L2 GenW
end DL
namespace DL
open PySem PySem.Spec PyProof.Rows L2
end DL
namespace DL
open PySem PySem.Spec PyProof.Rows L2
end DL
namespace FN
open DL PySem PySem.W
end FN
namespace FN
open DL
def k__law_moved_e405_0 (a1 : D) (c18 : D) (q17 : D × D) (c15 : D) : R (Fl (D × D) (D × D)) := (do let t43 ← (DL.andM (do let x28 ← (do let x25 ← (pure a1); let l26 ← (do let x23 ← (do let x22 ← (do let r21 ← (do let x19 ← (pure c18); let r20 ← pure []; pure (x19 :: r20)); DL.ask (lenD r21)); DL.ask (negD x22)); let i24 ← DL.ask (intOf x23); pure (some i24)); let u27 ← (pure none); DL.ask (sliceD x25 l26 u27)); let y29 ← (pure c18); DL.ask ((eqD x28 y29).bind bOf)) (do let x36 ← (do let r32 ← (do let x30 ← (pure c18); let r31 ← pure []; pure (x30 :: r31)); DL.ask (lenD r32)); let y37 ← (do let r35 ← (do let x33 ← (pure q17.1); let r34 ← pure []; pure (x33 :: r34)); DL.ask (lenD r35)); DL.ask ((gtD x36 y37).bind bOf))); seqF (if t43 = true then (do let v39 ← (pure c18); let v40 ← (do let x41 ← (pure c15); let y42 ← (pure (.int 0)); DL.ask (ixD x41 y42)); (pure (.nx (v39, v40)))) else (pure (.nx (q17.1, q17.2)))) fun (q38 : D × D) => (pure (.nx (q38.1, q38.2))))
def k__law_moved_e405_1 (a1 : D) (q46 : D × D) : R (Fl (Unit) (Empty)) := (do let v62 ← (do let x60 ← (do let x57 ← (pure a1); let l58 ← (pure none); let u59 ← (do let x55 ← (do let x53 ← (do let r49 ← (do let x47 ← (pure a1); let r48 ← pure []; pure (x47 :: r48)); DL.ask (lenD r49)); let y54 ← (do let r52 ← (do let x50 ← (pure q46.1); let r51 ← pure []; pure (x50 :: r51)); DL.ask (lenD r52)); DL.ask (subD x53 y54)); let i56 ← DL.ask (intOf x55); pure (some i56)); DL.ask (sliceD x57 l58 u59)); let y61 ← (pure q46.2); DL.ask (addD x60 y61)); pure (.rt v62))
def k__law_moved_e405_2 (a0 : D) (a1 : D) (c2 : D × D) : R (Fl (Unit) (Empty)) := (do let r63 ← (do let r13 ← (pure a0); DL.ask (itD r13)); seqF (forF (fun d => some d) (fun (q14 : D × D) (c15 : D) => (do let r45 ← (do let r16 ← (pure c15); DL.ask (itD r16)); seqF (forF (fun d => some d) (fun (q17 : D × D) (c18 : D) => (k__law_moved_e405_0 a1 c18 q17 c15)) r45 (q14.1, q14.2)) fun (q44 : D × D) => (pure (.nx (q44.1, q44.2))))) r63 (c2.1, c2.2)) fun (q46 : D × D) => (k__law_moved_e405_1 a1 q46))
def k__law_moved_e405_3 (a0 : D) (a1 : D) : R (Fl (Unit) (Empty)) := (do let v1 ← (do let r11 ← (do let x9 ← (do let r3 ← pure []; let r4 ← DL.ask (szL r3); pure (.tup r4)); let r10 ← (do let x7 ← (do let r5 ← pure []; let r6 ← DL.ask (szL r5); pure (.tup r6)); let r8 ← pure []; pure (x7 :: r8)); pure (x9 :: r10)); let r12 ← DL.ask (szL r11); pure (.tup r12)); let c2 ← DL.ask (un2 v1); (k__law_moved_e405_2 a0 a1 c2))
def b__law_moved_e405 (a0 a1 : D) : R (Fl Unit Empty) := (k__law_moved_e405_3 a0 a1)
theorem e__law_moved_e405 (a0 a1 : D) : b__law_moved_e405 a0 a1 = (do let r4 ← DL.ask (szL []); let r6 ← DL.ask (szL []); let r12 ← DL.ask (szL [(.tup r4), (.tup r6)]); let c2 ← DL.ask (un2 (.tup r12)); let r63 ← (DL.ask (itD a0)); seqF (forF (fun d => some d) (fun (q14 : D × D) (c15 : D) => (do let r45 ← (DL.ask (itD c15)); seqF (forF (fun d => some d) (fun (q17 : D × D) (c18 : D) => (do let t43 ← (DL.andM (do let x22 ← (DL.ask (lenD [c18])); let x23 ← (DL.ask (negD x22)); let i24 ← DL.ask (intOf x23); let x28 ← (DL.ask (sliceD a1 (some i24) none)); DL.ask ((eqD x28 c18).bind bOf)) (do let x36 ← (DL.ask (lenD [c18])); let y37 ← (DL.ask (lenD [q17.1])); DL.ask ((gtD x36 y37).bind bOf))); seqF (if t43 = true then (do let v40 ← (DL.ask (ixD c15 (.int 0))); (pure (.nx (c18, v40)))) else (pure (.nx (q17.1, q17.2)))) fun (q38 : D × D) => (pure (.nx (q38.1, q38.2))))) r45 (q14.1, q14.2)) fun (q44 : D × D) => (pure (.nx (q44.1, q44.2))))) r63 (c2.1, c2.2)) fun (q46 : D × D) => (do let x53 ← (DL.ask (lenD [a1])); let y54 ← (DL.ask (lenD [q46.1])); let x55 ← (DL.ask (subD x53 y54)); let i56 ← DL.ask (intOf x55); let x60 ← (DL.ask (sliceD a1 none (some i56))); let v62 ← (DL.ask (addD x60 q46.2)); pure (.rt v62))) := by
  unfold b__law_moved_e405; simp only [k__law_moved_e405_0, k__law_moved_e405_1, k__law_moved_e405_2, k__law_moved_e405_3, pure_bind, bind_assoc, mkL]
def m__law_moved_e405 : List D → R D := apR2 fun a0 a1 => (runR false (b__law_moved_e405 a0 a1))
def k__law_site_8604_0 (a1 : D) (v12 : D) (q10 : D × D) : R (Fl (D × D) (D × D)) := (do let v25 ← (iteM (do let x35 ← (do let x32 ← (pure a1); let l33 ← (do let x30 ← (do let x29 ← (do let r28 ← (do let x26 ← (pure v12); let r27 ← pure []; pure (x26 :: r27)); DL.ask (lenD r28)); DL.ask (negD x29)); let i31 ← DL.ask (intOf x30); pure (some i31)); let u34 ← (pure none); DL.ask (sliceD x32 l33 u34)); let y36 ← (pure v12); DL.ask ((eqD x35 y36).bind bOf)) (do let r44 ← (do let x42 ← (pure q10.1); let r43 ← (do let x40 ← (do let r39 ← (do let x37 ← (pure v12); let r38 ← pure []; pure (x37 :: r38)); DL.ask (lenD r39)); let r41 ← pure []; pure (x40 :: r41)); pure (x42 :: r43)); DL.ask (maxD r44)) (pure q10.1)); (pure (.nx (v25, q10.2))))
def k__law_site_8604_1 (a1 : D) (v12 : D) (q10 : D × D) : R (Fl (D) (D × D)) := (do let v50 ← (iteM (DL.andM (do let x57 ← (do let r53 ← (do let x51 ← (pure a1); let r52 ← pure []; pure (x51 :: r52)); DL.ask (lenD r53)); let y58 ← (do let r56 ← (do let x54 ← (pure v12); let r55 ← pure []; pure (x54 :: r55)); DL.ask (lenD r56)); DL.ask ((geD x57 y58).bind bOf)) (do let x75 ← (do let x67 ← (pure a1); let l68 ← (do let x65 ← (do let x63 ← (do let x62 ← (do let r61 ← (do let x59 ← (pure v12); let r60 ← pure []; pure (x59 :: r60)); DL.ask (lenD r61)); DL.ask (negD x62)); let y64 ← (pure (.int 1)); DL.ask (addD x63 y64)); let i66 ← DL.ask (intOf x65); pure (some i66)); let u69 ← (pure none); DL.ask (sliceD x67 l68 u69)); let y76 ← (do let x72 ← (pure v12); let l73 ← (do let x70 ← (pure (.int 1)); let i71 ← DL.ask (intOf x70); pure (some i71)); let u74 ← (pure none); DL.ask (sliceD x72 l73 u74)); DL.ask ((eqD x75 y76).bind bOf))) (do let r84 ← (do let x82 ← (pure q10.2); let r83 ← (do let x80 ← (do let r79 ← (do let x77 ← (pure v12); let r78 ← pure []; pure (x77 :: r78)); DL.ask (lenD r79)); let r81 ← pure []; pure (x80 :: r81)); pure (x82 :: r83)); DL.ask (maxD r84)) (pure q10.2)); (pure (.nx v50)))
def k__law_site_8604_2 (a1 : D) (v12 : D) (q10 : D × D) : R (Fl (D) (D × D)) := (do let t106 ← (do let x94 ← (do let x91 ← (pure a1); let l92 ← (do let x89 ← (do let x88 ← (do let r87 ← (do let x85 ← (pure v12); let r86 ← pure []; pure (x85 :: r86)); DL.ask (lenD r87)); DL.ask (negD x88)); let i90 ← DL.ask (intOf x89); pure (some i90)); let u93 ← (pure none); DL.ask (sliceD x91 l92 u93)); let y95 ← (pure v12); DL.ask ((eqD x94 y95).bind bOf)); seqF (if t106 = true then (do let v97 ← (do let r105 ← (do let x103 ← (pure q10.2); let r104 ← (do let x101 ← (do let r100 ← (do let x98 ← (pure v12); let r99 ← pure []; pure (x98 :: r99)); DL.ask (lenD r100)); let r102 ← pure []; pure (x101 :: r102)); pure (x103 :: r104)); DL.ask (maxD r105)); (pure (.nx v97))) else (pure (.nx q10.2))) fun (q96 : D) => (pure (.nx q96)))
def k__law_site_8604_3 (c11 : D) (a1 : D) (v12 : D) (q10 : D × D) : R (Fl (D × D) (D × D)) := (do let t108 ← (do let x22 ← (do let x20 ← (pure c11); let y21 ← (pure (.int 0)); DL.ask (ixD x20 y21)); let y23 ← (pure (.str [33])); DL.ask ((eqD x22 y23).bind bOf)); seqF (if t108 = true then (k__law_site_8604_0 a1 v12 q10) else (do let t107 ← (do let x47 ← (do let x45 ← (pure v12); let y46 ← (pure (.int 0)); DL.ask (ixD x45 y46)); let y48 ← (pure (.str [42])); DL.ask ((eqD x47 y48).bind bOf)); seqF (if t107 = true then (k__law_site_8604_1 a1 v12 q10) else (k__law_site_8604_2 a1 v12 q10)) fun (q49 : D) => (pure (.nx (q10.1, q49))))) fun (q24 : D × D) => (pure (.nx (q24.1, q24.2))))
def k__law_site_8604_4 (c11 : D) (a1 : D) (q10 : D × D) : R (Fl (D × D) (D × D)) := (do let v12 ← (do let r19 ← (do let x17 ← (mkL (do let x15 ← (do let x13 ← (pure c11); let _ ← DL.ask (strOf x13); let y14 ← (pure (.str [33])); DL.ask (lstripD x13 y14)); let _ ← DL.ask (strOf x15); let y16 ← (pure (.str [46])); DL.ask (splitD x15 y16))); let r18 ← pure []; pure (x17 :: r18)); DL.ask (tupleD r19)); (k__law_site_8604_3 c11 a1 v12 q10))
def k__law_site_8604_5 (a1 : D) (q109 : D × D) : R (Fl (Unit) (Empty)) := (do let v120 ← (do let x117 ← (pure a1); let l118 ← (do let x115 ← (do let x114 ← (iteM (do let x110 ← (pure q109.1); let y111 ← (pure (.int 0)); DL.ask ((gtD x110 y111).bind bOf)) (pure q109.1) (do let x112 ← (pure q109.2); let y113 ← (pure (.int 1)); DL.ask (addD x112 y113))); DL.ask (negD x114)); let i116 ← DL.ask (intOf x115); pure (some i116)); let u119 ← (pure none); DL.ask (sliceD x117 l118 u119)); pure (.rt v120))
def k__law_site_8604_6 (a0 : D) (a1 : D) : R (Fl (Unit) (Empty)) := (do let v1 ← (do let r7 ← (do let x5 ← (pure (.int 0)); let r6 ← (do let x3 ← (pure (.int 1)); let r4 ← pure []; pure (x3 :: r4)); pure (x5 :: r6)); let r8 ← DL.ask (szL r7); pure (.tup r8)); let c2 ← DL.ask (un2 v1); (do let r121 ← (do let r9 ← (pure a0); DL.ask (itD r9)); seqF (forF (fun d => some d) (fun (q10 : D × D) (c11 : D) => (k__law_site_8604_4 c11 a1 q10)) r121 (c2.1, c2.2)) fun (q109 : D × D) => (k__law_site_8604_5 a1 q109)))
def b__law_site_8604 (a0 a1 : D) : R (Fl Unit Empty) := (k__law_site_8604_6 a0 a1)
theorem e__law_site_8604 (a0 a1 : D) : b__law_site_8604 a0 a1 = (do let r8 ← DL.ask (szL [(.int 0), (.int 1)]); let c2 ← DL.ask (un2 (.tup r8)); let r121 ← (DL.ask (itD a0)); seqF (forF (fun d => some d) (fun (q10 : D × D) (c11 : D) => (do let _ ← DL.ask (strOf c11); let x15 ← (DL.ask (lstripD c11 (.str [33]))); let _ ← DL.ask (strOf x15); let x17 ← (DL.ask (splitD x15 (.str [46]))); let v12 ← (DL.ask (tupleD [(.lst x17)])); let x22 ← (DL.ask (ixD c11 (.int 0))); let t108 ← (DL.ask ((eqD x22 (.str [33])).bind bOf)); seqF (if t108 = true then (do let v25 ← (iteM (do let x29 ← (DL.ask (lenD [v12])); let x30 ← (DL.ask (negD x29)); let i31 ← DL.ask (intOf x30); let x35 ← (DL.ask (sliceD a1 (some i31) none)); DL.ask ((eqD x35 v12).bind bOf)) (do let x40 ← (DL.ask (lenD [v12])); DL.ask (maxD [q10.1, x40])) (pure q10.1)); (pure (.nx (v25, q10.2)))) else (do let x47 ← (DL.ask (ixD v12 (.int 0))); let t107 ← (DL.ask ((eqD x47 (.str [42])).bind bOf)); seqF (if t107 = true then (do let v50 ← (iteM (DL.andM (do let x57 ← (DL.ask (lenD [a1])); let y58 ← (DL.ask (lenD [v12])); DL.ask ((geD x57 y58).bind bOf)) (do let x62 ← (DL.ask (lenD [v12])); let x63 ← (DL.ask (negD x62)); let x65 ← (DL.ask (addD x63 (.int 1))); let i66 ← DL.ask (intOf x65); let x75 ← (DL.ask (sliceD a1 (some i66) none)); let i71 ← DL.ask (intOf (.int 1)); let y76 ← (DL.ask (sliceD v12 (some i71) none)); DL.ask ((eqD x75 y76).bind bOf))) (do let x80 ← (DL.ask (lenD [v12])); DL.ask (maxD [q10.2, x80])) (pure q10.2)); (pure (.nx v50))) else (do let x88 ← (DL.ask (lenD [v12])); let x89 ← (DL.ask (negD x88)); let i90 ← DL.ask (intOf x89); let x94 ← (DL.ask (sliceD a1 (some i90) none)); let t106 ← (DL.ask ((eqD x94 v12).bind bOf)); seqF (if t106 = true then (do let x101 ← (DL.ask (lenD [v12])); let v97 ← (DL.ask (maxD [q10.2, x101])); (pure (.nx v97))) else (pure (.nx q10.2))) fun (q96 : D) => (pure (.nx q96)))) fun (q49 : D) => (pure (.nx (q10.1, q49))))) fun (q24 : D × D) => (pure (.nx (q24.1, q24.2))))) r121 (c2.1, c2.2)) fun (q109 : D × D) => (do let x114 ← (iteM (DL.ask ((gtD q109.1 (.int 0)).bind bOf)) (pure q109.1) (DL.ask (addD q109.2 (.int 1)))); let x115 ← (DL.ask (negD x114)); let i116 ← DL.ask (intOf x115); let v120 ← (DL.ask (sliceD a1 (some i116) none)); pure (.rt v120))) := by
  unfold b__law_site_8604; simp only [k__law_site_8604_0, k__law_site_8604_1, k__law_site_8604_2, k__law_site_8604_3, k__law_site_8604_4, k__law_site_8604_5, k__law_site_8604_6, pure_bind, bind_assoc, mkL]
def m__law_site_8604 : List D → R D := apR2 fun a0 a1 => (runR false (b__law_site_8604 a0 a1))
def k__law_matches_aa11_0 (c4 : List D) (c2 : List D) (a2 : D) (v32 : D) : R (Fl (Unit) (Empty)) := (do let v66 ← (andV (do let r51 ← (do let x49 ← (pure (c4.getD 4 .non)); let r50 ← (do let x47 ← (mkL (do let r45 ← (do let x43 ← (pure (c2.getD 3 .non)); let r44 ← pure []; pure (x43 :: r44)); let r46 ← DL.ask (listD r45); DL.ask (szL r46))); let r48 ← pure []; pure (x47 :: r48)); pure (x49 :: r50)); Mo.lift (m__law_row_fits_3c3f r51)) (do let x64 ← (do let r56 ← (do let x54 ← (pure a2); let r55 ← (do let x52 ← (pure v32); let r53 ← pure []; pure (x52 :: r53)); pure (x54 :: r55)); Mo.lift (m__law_site_8604 r56)); let y65 ← (do let r63 ← (do let x61 ← (pure a2); let r62 ← (do let x59 ← (do let x57 ← (pure (c4.getD 2 .non)); let y58 ← (pure (.int 1)); DL.ask (ixD x57 y58)); let r60 ← pure []; pure (x59 :: r60)); pure (x61 :: r62)); Mo.lift (m__law_site_8604 r63)); DL.ask (eqD x64 y65))); pure (.rt v66))
def k__law_matches_aa11_1 (c4 : List D) (c2 : List D) (v32 : D) : R (Fl (Unit) (Empty)) := (do let v87 ← (andV (do let r75 ← (do let x73 ← (pure (c4.getD 4 .non)); let r74 ← (do let x71 ← (mkL (do let r69 ← (do let x67 ← (pure (c2.getD 3 .non)); let r68 ← pure []; pure (x67 :: r68)); let r70 ← DL.ask (listD r69); DL.ask (szL r70))); let r72 ← pure []; pure (x71 :: r72)); pure (x73 :: r74)); Mo.lift (m__law_row_fits_3c3f r75)) (do let r86 ← (do let x84 ← (do let x76 ← (pure (c4.getD 2 .non)); let y77 ← (pure (.int 1)); DL.ask (ixD x76 y77)); let r85 ← (do let x82 ← (mkL (do let r80 ← (do let x78 ← (pure v32); let r79 ← pure []; pure (x78 :: r79)); let r81 ← DL.ask (listD r80); DL.ask (szL r81))); let r83 ← pure []; pure (x82 :: r83)); pure (x84 :: r85)); Mo.lift (m__law_row_fits_3c3f r86))); pure (.rt v87))
def k__law_matches_aa11_2 (a3 : D) (c2 : List D) (c4 : List D) (a2 : D) : R (Fl (Unit) (Empty)) := (do let v32 ← (do let r37 ← (do let x35 ← (pure a3); let r36 ← (do let x33 ← (pure (c2.getD 1 .non)); let r34 ← pure []; pure (x33 :: r34)); pure (x35 :: r36)); Mo.lift (m__law_moved_e405 r37)); (do let t88 ← (do let x40 ← (do let x38 ← (pure (c4.getD 2 .non)); let y39 ← (pure (.int 0)); DL.ask (ixD x38 y39)); let y41 ← (pure (.str [126])); DL.ask ((eqD x40 y41).bind bOf)); seqF (if t88 = true then (k__law_matches_aa11_0 c4 c2 a2 v32) else (pure (.nx ()))) fun (q42 : Unit) => (k__law_matches_aa11_1 c4 c2 v32)))
def k__law_matches_aa11_3 (c4 : List D) (c2 : List D) (a3 : D) (a2 : D) : R (Fl (Unit) (Empty)) := (do let t89 ← (DL.andM (do let x23 ← (pure (c4.getD 3 .non)); let y24 ← (pure .non); DL.ask ((isNotD x23 y24).bind bOf)) (DL.notM (do let x29 ← (chainM leD leD (do let x25 ← (pure (c4.getD 3 .non)); let y26 ← (pure (.int 0)); DL.ask (ixD x25 y26)) (pure (c2.getD 2 .non)) (do let x27 ← (pure (c4.getD 3 .non)); let y28 ← (pure (.int 1)); DL.ask (ixD x27 y28))); DL.ask (bOf x29)))); seqF (if t89 = true then (do let v31 ← (pure (.bl false)); pure (.rt v31)) else (pure (.nx ()))) fun (q30 : Unit) => (k__law_matches_aa11_2 a3 c2 c4 a2))
def k__law_matches_aa11_4 (c4 : List D) (c2 : List D) (a3 : D) (a2 : D) : R (Fl (Unit) (Empty)) := (do let t90 ← (DL.andM (do let x14 ← (pure (c4.getD 3 .non)); let y15 ← (pure .non); DL.ask ((isD x14 y15).bind bOf)) (do let x19 ← (pure (c2.getD 2 .non)); let y20 ← (do let r18 ← (do let x16 ← (pure (c2.getD 0 .non)); let r17 ← pure []; pure (x16 :: r17)); Mo.lift (m__law_default_6094 r18)); DL.ask ((neD x19 y20).bind bOf))); seqF (if t90 = true then (do let v22 ← (pure (.bl false)); pure (.rt v22)) else (pure (.nx ()))) fun (q21 : Unit) => (k__law_matches_aa11_3 c4 c2 a3 a2))
def k__law_matches_aa11_5 (c4 : List D) (c2 : List D) (a3 : D) (a2 : D) : R (Fl (Unit) (Empty)) := (do let t91 ← (do let x10 ← (pure (c4.getD 1 .non)); let y11 ← (mkL (do let r9 ← (do let x7 ← (pure (.str [97, 110, 121])); let r8 ← (do let x5 ← (pure (c2.getD 0 .non)); let r6 ← pure []; pure (x5 :: r6)); pure (x7 :: r8)); DL.ask (szL r9))); DL.ask ((notInD x10 y11).bind bOf)); seqF (if t91 = true then (do let v13 ← (pure (.bl false)); pure (.rt v13)) else (pure (.nx ()))) fun (q12 : Unit) => (k__law_matches_aa11_4 c4 c2 a3 a2))
def b__law_matches_aa11 (a0 a1 a2 a3 : D) : R (Fl Unit Empty) := (do let v1 ← (pure a1); let c2 ← DL.ask ((unN 4) v1); (do let v3 ← (pure a0); let c4 ← DL.ask ((unN 5) v3); (k__law_matches_aa11_5 c4 c2 a3 a2)))
theorem e__law_matches_aa11 (a0 a1 a2 a3 : D) : b__law_matches_aa11 a0 a1 a2 a3 = (do let c2 ← DL.ask ((unN 4) a1); let c4 ← DL.ask ((unN 5) a0); let y11 ← (DL.ask (szL [(.str [97, 110, 121]), (c2.getD 0 .non)])); let t91 ← (DL.ask ((notInD (c4.getD 1 .non) (.lst y11)).bind bOf)); seqF (if t91 = true then (pure (.rt (.bl false))) else (pure (.nx ()))) fun (q12 : Unit) => (do let t90 ← (DL.andM (DL.ask ((isD (c4.getD 3 .non) .non).bind bOf)) (do let y20 ← (Mo.lift (m__law_default_6094 [(c2.getD 0 .non)])); DL.ask ((neD (c2.getD 2 .non) y20).bind bOf))); seqF (if t90 = true then (pure (.rt (.bl false))) else (pure (.nx ()))) fun (q21 : Unit) => (do let t89 ← (DL.andM (DL.ask ((isNotD (c4.getD 3 .non) .non).bind bOf)) (DL.notM (do let x29 ← (chainM leD leD (DL.ask (ixD (c4.getD 3 .non) (.int 0))) (pure (c2.getD 2 .non)) (DL.ask (ixD (c4.getD 3 .non) (.int 1)))); DL.ask (bOf x29)))); seqF (if t89 = true then (pure (.rt (.bl false))) else (pure (.nx ()))) fun (q30 : Unit) => (do let v32 ← (Mo.lift (m__law_moved_e405 [a3, (c2.getD 1 .non)])); let x40 ← (DL.ask (ixD (c4.getD 2 .non) (.int 0))); let t88 ← (DL.ask ((eqD x40 (.str [126])).bind bOf)); seqF (if t88 = true then (do let v66 ← (andV (do let r46 ← DL.ask (listD [(c2.getD 3 .non)]); let x47 ← (DL.ask (szL r46)); Mo.lift (m__law_row_fits_3c3f [(c4.getD 4 .non), (.lst x47)])) (do let x64 ← (Mo.lift (m__law_site_8604 [a2, v32])); let x59 ← (DL.ask (ixD (c4.getD 2 .non) (.int 1))); let y65 ← (Mo.lift (m__law_site_8604 [a2, x59])); DL.ask (eqD x64 y65))); pure (.rt v66)) else (pure (.nx ()))) fun (q42 : Unit) => (do let v87 ← (andV (do let r70 ← DL.ask (listD [(c2.getD 3 .non)]); let x71 ← (DL.ask (szL r70)); Mo.lift (m__law_row_fits_3c3f [(c4.getD 4 .non), (.lst x71)])) (do let x84 ← (DL.ask (ixD (c4.getD 2 .non) (.int 1))); let r81 ← DL.ask (listD [v32]); let x82 ← (DL.ask (szL r81)); Mo.lift (m__law_row_fits_3c3f [x84, (.lst x82)]))); pure (.rt v87)))))) := by
  unfold b__law_matches_aa11; simp only [k__law_matches_aa11_0, k__law_matches_aa11_1, k__law_matches_aa11_2, k__law_matches_aa11_3, k__law_matches_aa11_4, k__law_matches_aa11_5, pure_bind, bind_assoc, mkL]
def m__law_matches_aa11 : List D → R D := apR4 fun a0 a1 a2 a3 => (runR false (b__law_matches_aa11 a0 a1 a2 a3))
end FN
namespace FN
open DL PySem PySem.W
def encS (q : Nat × Nat) : D × D := (.int (q.2 : Int), .int (q.1 : Int))
theorem law_site_ok {rows : List Row} {h : Hst} (hr : ∀ r ∈ rows, RowOk r) (hh : Labs h) : m__law_site_8604 [.lst (rowsD rows), hD h] = .ok (hD (siteN rows h)) := by
  have it : itD (.lst (rowsD rows)) = some (rows.map fun r => .str (rowT r)) := rfl
  unfold m__law_site_8604 apR2
  simp only [e__law_site_8604, sz2, askR, pure_bind, un2_2, it]
  rw [show ((D.int 0, D.int 1) : D × D) = encS (1, 0) from rfl, for_fold (β := Empty) (fun r => .str (rowT r)) RowOk encS (stepE h) (fun q r hk => ⟨.str (rowT r), rfl, .inl ?_⟩) rows (1, 0) hr]
  · show runR false (do let x114 ← (iteM (DL.ask ((gtD (encS (foldE rows h)).1 (.int 0)).bind bOf)) (pure (encS (foldE rows h)).1) (DL.ask (addD (encS (foldE rows h)).2 (.int 1)))); let x115 ← (DL.ask (negD x114)); let i116 ← DL.ask (intOf x115); let v120 ← (DL.ask (sliceD (hD h) (some i116) none)); pure (.rt v120)) = _
    unfold siteN
    generalize foldE rows h = q
    obtain ⟨l, e⟩ := q
    show runR false (do let x114 ← (iteM (DL.ask ((gtD (.int (e : Int)) (.int 0)).bind bOf)) (pure (.int (e : Int))) (DL.ask (addD (.int (l : Int)) (.int 1)))); let x115 ← (DL.ask (negD x114)); let i116 ← DL.ask (intOf x115); let v120 ← (DL.ask (sliceD (.tup (h.map .str)) (some i116) none)); pure (.rt v120)) = _
    by_cases c : 0 < e
    · have c' : (0 : Int) < (e : Int) := by omega
      have es : h.length - (sizeE (l, e) + 1) = h.length - e := by
        unfold sizeE
        rw [if_pos c]
        show h.length - (e - 1 + 1) = _
        omega
      simp only [gt_l, decide_eq_true c', iteM, Option.bind_some, bOf_bl, askR, pure_bind, if_true, neg_i, int_of, slice_t, cut_neg (A := h) (n := e) c, es]
      rfl
    · have c' : ¬ (0 : Int) < (e : Int) := by omega
      have es : sizeE (l, e) = l := if_neg c
      have ea : ((l : Int) + 1) = ((l + 1 : Nat) : Int) := by omega
      simp only [gt_l, decide_eq_false c', iteM, Option.bind_some, bOf_bl, askR, pure_bind, Bool.false_eq_true, if_false, add_ii, ea, neg_i, int_of, slice_t, cut_neg (A := h) (n := l + 1) (by omega), es]
      rfl
  · obtain ⟨t, l1, l2⟩ := law_split hk
    obtain ⟨k, A⟩ := r
    obtain ⟨l, e⟩ := q
    obtain ⟨hA, h1, h2, h3, h4⟩ := hk
    dsimp only at hA h1 h2 h3 h4
    have cn : cutL (h.map D.str) (some (-(A.length : Int))) none = (h.drop (h.length - A.length)).map D.str := cut_neg h1
    have eq : eqD (.tup ((h.drop (h.length - A.length)).map D.str)) (.tup (A.map .str)) = some (.bl (endsB h A)) := by rw [eqT (labs_drop _ hh) hA, ends_neg]
    have slh : ∀ lo hi, sliceD (hD h) lo hi = some (.tup (cutL (h.map D.str) lo hi)) := fun _ _ => rfl
    obtain ⟨c, r, ej, hc⟩ := head_lab hA h1
    have c33 : c ≠ 33 := fun e => by rw [e] at hc; revert hc; decide
    have a42 : ∀ a, a ∈ A → ¬ (a = [42]) := fun a m e => by
      have := (isLab_iff.mp (hA a m)).2.2 42 (by rw [e]; simp)
      revert this; decide
    simp only [str_of, askR, pure_bind, l1, l2, tup_lst]
    cases k with
    | ex =>
      have i0 : ixD (.str (rowT (.ex, A))) (.int 0) = some (.str [33]) := ix_zero (r := joinN [46] A)
      have lt : labT (.ex, A) = A := rfl
      have e33 : decide (([33] : List Nat) = [33]) = true := by decide
      simp only [i0, lt, eq_ss, e33, Option.bind_some, bOf_bl, askR, pure_bind, if_true, lenT, neg_i, int_of, slh, cn, eq, iteM]
      cases hb : endsB h A with
      | true =>
        simp only [if_true, encS, max_ii, askR, pure_bind, stepE, hb]
        rfl
      | false =>
        simp only [Bool.false_eq_true, if_false, stepE, hb]
        rfl
    | pl =>
      have i0 : ixD (.str (rowT (.pl, A))) (.int 0) = some (.str [c]) := by
        show ixD (.str (joinN [46] A)) (.int 0) = _
        rw [ej]; exact ix_zero
      have lt : labT (.pl, A) = A := rfl
      have e33 : decide (([c] : List Nat) = [33]) = false := by simp [c33]
      obtain ⟨a, A', rfl⟩ : ∃ a A', A = a :: A' := by
        cases A with
        | nil => simp at h1
        | cons a A' => exact ⟨a, A', rfl⟩
      have ia : ixD (.tup ((a :: A').map D.str)) (.int 0) = some (.str a) := ix_hd
      have e42 : decide (a = [42]) = false := decide_eq_false (a42 a (.head _))
      simp only [i0, lt, eq_ss, e33, Option.bind_some, bOf_bl, askR, pure_bind, Bool.false_eq_true, if_false, ia, e42, lenT, neg_i, int_of, slh, cn, eq]
      cases hb : endsB h (a :: A') with
      | true =>
        simp only [if_true, encS, max_ii, askR, pure_bind, stepE, hb]
        rfl
      | false =>
        simp only [Bool.false_eq_true, if_false, stepE, hb]
        rfl
    | wi =>
      have i0 : ixD (.str (rowT (.wi, A))) (.int 0) = some (.str [42]) := ix_zero (r := 46 :: joinN [46] A)
      have lt : labT (.wi, A) = [42] :: A := rfl
      have e33 : decide (([42] : List Nat) = [33]) = false := by decide
      have e42 : decide (([42] : List Nat) = [42]) = true := by decide
      have ia : ixD (.tup (([42] :: A).map D.str)) (.int 0) = some (.str [42]) := ix_hd
      have ll : lenD [.tup (([42] :: A).map D.str)] = some (.int ((A.length + 1 : Nat) : Int)) := lenT
      have ng : -((A.length + 1 : Nat) : Int) + 1 = -(A.length : Int) := by omega
      have sl1 : sliceD (.tup (([42] :: A).map D.str)) (some 1) none = some (.tup (A.map .str)) := by
        rw [slice_t, cut_lo (by omega)]; rfl
      simp only [i0, lt, eq_ss, e33, e42, Option.bind_some, bOf_bl, askR, pure_bind, Bool.false_eq_true, if_false, if_true, ia, ll, lenH, ge_l, neg_i, add_ii, ng, int_of, slh, cn, sl1, eq, iteM, DL.andM]
      by_cases c : A.length < h.length
      · have c' : ((A.length + 1 : Nat) : Int) ≤ (h.length : Int) := by omega
        simp only [decide_eq_true c', if_true]
        cases hb : endsB h A with
        | true =>
          simp only [if_true, encS, max_ii, askR, pure_bind, stepE, hb, if_pos c]
          rfl
        | false =>
          simp only [Bool.false_eq_true, if_false, stepE, hb]
          rfl
      · have c' : ¬ ((A.length + 1 : Nat) : Int) ≤ (h.length : Int) := by omega
        simp only [decide_eq_false c', Bool.false_eq_true, if_false, stepE, if_neg c]
        cases hb : endsB h A <;> rfl
theorem law_moved_ok {kin : List (List Hst)} {h : Hst} (hk : ∀ g ∈ kin, GrOk g) (hh : Labs h) (hl : h.length ≤ 1000) : m__law_moved_e405 [.lst (kin.map grD), hD h] = .ok (hD (movedN kin h)) := by
  have s0 : szL [] = some [] := sz_ok (by simp)
  have it : itD (.lst (kin.map grD)) = some (kin.map grD) := rfl
  have bo := best_ok (h := h) hk
  unfold m__law_moved_e405 apR2
  simp only [e__law_moved_e405, s0, sz2, askR, pure_bind, un2_2, it]
  rw [show ((D.tup [], D.tup []) : D × D) = encL none from rfl, for_fold (β := Empty) grD GrOk encL (stepG h) (fun q g kg => ⟨grD g, rfl, .inl ?_⟩) kin none hk]
  · show runR false (do let x53 ← (DL.ask (lenD [hD h])); let y54 ← (DL.ask (lenD [(encL (bestN kin h)).1])); let x55 ← (DL.ask (subD x53 y54)); let i56 ← DL.ask (intOf x55); let x60 ← (DL.ask (sliceD (hD h) none (some i56))); let v62 ← (DL.ask (addD x60 (encL (bestN kin h)).2)); pure (.rt v62)) = _
    unfold movedN
    cases hb : bestN kin h with
    | none =>
      have l0 : lenD [(encL none).1] = some (.int ((0 : Nat) : Int)) := rfl
      have sl : sliceD (hD h) none (some ((h.length : Int) - ((0 : Nat) : Int))) = some (hD h) := by
        show sliceD (.tup (h.map .str)) _ _ = _
        rw [slice_t, cut_take (Nat.zero_le _), Nat.sub_zero, List.take_length]; rfl
      have ad : addD (hD h) (encL none).2 = some (hD h) := by
        show addD (.tup (h.map D.str)) (.tup []) = _
        rw [add_tt (by simp; omega), List.append_nil]; rfl
      simp only [lenH, l0, sub_ii, int_of, sl, ad, askR, pure_bind]
      rfl
    | some x =>
      obtain ⟨b1, b2⟩ := bo x hb
      have l0 : lenD [(encL (some x)).1] = some (.int (x.1.length : Int)) := lenH
      have sl : sliceD (hD h) none (some ((h.length : Int) - (x.1.length : Int))) = some (hD (h.take (h.length - x.1.length))) := by
        show sliceD (.tup (h.map .str)) _ _ = _
        rw [slice_t, cut_take b1]; rfl
      have ad : addD (hD (h.take (h.length - x.1.length))) (encL (some x)).2 = some (hD (h.take (h.length - x.1.length) ++ x.2)) := by
        show addD (.tup (_ : List D)) (.tup (_ : List D)) = _
        rw [add_tt (by have := b2.2.2; simp; omega), ← List.map_append]; rfl
      simp only [lenH, l0, sub_ii, int_of, sl, ad, askR, pure_bind]
      rfl
  · obtain ⟨g0, gs, e, ix, e2, h0⟩ := grp_head kg
    have ig : itD (grD g) = some (g.map hD) := rfl
    simp only [ig, askR, pure_bind]
    rw [show ((encL q).1, (encL q).2) = encL q from rfl, for_fold (β := D × D) hD MemOk encL (stepM h g0) (fun q m km => ⟨hD m, rfl, .inl ?_⟩) g q kg.1]
    · show R.ok (Fl.nx (encL (g.foldl (stepM h g0) q))) = _
      unfold stepG
      rw [e2]
    · have l1 := km.2.1
      have cn : cutL (h.map D.str) (some (-(m.length : Int))) none = (h.drop (h.length - m.length)).map D.str := cut_neg l1
      have eq : eqD (.tup ((h.drop (h.length - m.length)).map D.str)) (hD m) = some (.bl (endsB h m)) := by
        show eqD _ (.tup (m.map .str)) = _
        rw [eqT (labs_drop _ hh) km.1, ends_neg]
      have slh : ∀ lo hi, sliceD (hD h) lo hi = some (.tup (cutL (h.map D.str) lo hi)) := fun _ _ => rfl
      have lb : lenD [(encL q).1] = some (.int (bestLen q : Int)) := by
        cases q with
        | none => rfl
        | some x => exact lenH
      simp only [lenH, neg_i, int_of, slh, cn, eq, lb, gt_l, Option.bind_some, bOf_bl, askR, pure_bind, DL.andM]
      unfold stepM
      cases hb : endsB h m with
      | false =>
        simp only [Bool.false_eq_true, if_false, false_and]
        rfl
      | true =>
        by_cases c : bestLen q < m.length
        · have c' : (bestLen q : Int) < (m.length : Int) := by omega
          simp only [decide_eq_true c', if_true, ix, askR, pure_bind, c, and_self]
          rfl
        · have c' : ¬ (bestLen q : Int) < (m.length : Int) := by omega
          simp only [decide_eq_false c', Bool.false_eq_true, if_true, if_false, c, and_false]
          rfl
theorem match40 {x : D} {T : List Nat} {F : List D} (r : RuD x T F) {sch : List Nat} {A B : Hst} {i : Int} (hg : Pg sch A i B) {rows : List Row} {kin : List (List Hst)} (hr : ∀ r ∈ rows, RowOk r) (hk : ∀ g ∈ kin, GrOk g) :
    ∃ b, m_rule_fits_7439 [.ins "Rule" RNs F, .tup (rowsD rows), hD (movedN kin A), pgD sch A i B] = .ok (.bl b) ∧ m__law_matches_aa11 [x, .tup [.str sch, .tup (A.map .str), .int i, .tup (B.map .str)], .lst (rowsD rows), .lst (kin.map grD)] = .ok (.bl b) := by
  cases r with
  | @mk s w nm t pj part pd near host path J hs hw ht hn hp =>
    have hA1 := lab_ok_row hg.rA
    have hB1 := lab_ok_row hg.rB
    have lA0 : Labs A := hA1.2
    have lB0 : Labs B := hB1.2
    have lA : A.length ≤ 1000 := by have := hA1.1; omega
    have lB : B.length ≤ 1000 := by have := hB1.1; omega
    have n1 : 1 ≤ A.length := List.length_pos_iff.mpr hg.nA
    obtain ⟨b, o1, ⟨sh, d1, f1⟩, lf⟩ := path40 hp lB0 lB
    obtain ⟨m1, m2, m3⟩ := moved_facts hk lA0 n1
    have lm := law_moved_ok hk lA0 lA
    have lm' : m__law_moved_e405 [.lst (kin.map grD), .tup (A.map D.str)] = .ok (hD (movedN kin A)) := lm
    generalize hM : movedN kin A = M at m1 m2 m3 lm' ⊢
    have lM : M.length ≤ 1000 := by omega
    have u4 : ∀ a b c d : D, unN 4 (.tup [a, b, c, d]) = some [a, b, c, d] := fun _ _ _ _ => rfl
    have u5 : ∀ a b c d e : D, unN 5 (.tup [a, b, c, d, e]) = some [a, b, c, d, e] := fun _ _ _ _ _ => rfl
    have lB2 : listD [.tup (B.map D.str)] = some (B.map .str) := rfl
    have lM2 : listD [hD M] = some (M.map .str) := rfl
    have sB : szL (B.map D.str) = some (B.map .str) := sz_ok (by rw [List.length_map]; omega)
    have sM : szL (M.map D.str) = some (M.map .str) := sz_ok (by rw [List.length_map]; omega)
    have hostP : ∃ c, m_host_fits_56fd [.ins "Rule" RNs (ruF s w nm t pj pd near host path), .tup (rowsD rows), hD M] = .ok (.bl c) ∧ (do let x40 ← (DL.ask (ixD part (.int 0))); let t88 ← (DL.ask ((eqD x40 (.str [126])).bind bOf)); seqF (if t88 = true then (do let v66 ← (andV (pure (.bl b)) (do let x64 ← (Mo.lift (m__law_site_8604 [.lst (rowsD rows), hD M])); let x59 ← (DL.ask (ixD part (.int 1))); let y65 ← (Mo.lift (m__law_site_8604 [.lst (rowsD rows), x59])); DL.ask (eqD x64 y65))); pure (.rt v66)) else (pure (.nx ()))) fun (q42 : Unit) => (do let v87 ← (andV (pure (.bl b)) (do let x84 ← (DL.ask (ixD part (.int 1))); let r83 ← DL.ask (some (M.map D.str)); Mo.lift (m__law_row_fits_3c3f [x84, .lst r83]))); pure (.rt v87)) : R (Fl Unit Empty)) = .ok (.rt (.bl (b && c))) := by
      have e126 : decide (([126] : List Nat) = [126]) = true := rfl
      cases hn with
      | @near A' h0 hl hA =>
        have i0 : ixD (.tup [.str [126], .tup (A'.map D.str)]) (.int 0) = some (.str [126]) := rfl
        have i1 : ixD (.tup [.str [126], .tup (A'.map D.str)]) (.int 1) = some (hD A') := rfl
        have hA' : Labs A' := hA
        have eq : eqD (hD (siteN rows M)) (hD (siteN rows A')) = some (.bl (decide (siteN rows M = siteN rows A'))) := eqT (labs_drop _ m1) (labs_drop _ hA')
        refine ⟨decide (siteN rows M = siteN rows A'), near_fits rfl hr hA' m1, ?_⟩
        simp only [i0, i1, askR, pure_bind, eq_ss, e126, Option.bind_some, bOf_bl, if_true, andV, tru_bl, law_site_ok hr m1, law_site_ok hr hA', lift_pR, okpR, eq]
        cases b <;> rfl
      | @host I h t2 g p h0 hl =>
        have i0 : ixD (.tup [.str [], .lst (I.map D.str)]) (.int 0) = some (.str []) := rfl
        have i1 : ixD (.tup [.str [], .lst (I.map D.str)]) (.int 1) = some (.lst (I.map .str)) := rfl
        have e0 : decide (([] : List Nat) = [126]) = false := by decide
        have lw := host43 p hl (labs_sh m1) lM
        refine ⟨rowN h t2 g M.reverse, pat_fits p hl m1 lM, ?_⟩
        simp only [i0, i1, askR, pure_bind, eq_ss, e0, Option.bind_some, bOf_bl, Bool.false_eq_true, if_false, sqp, andV, tru_bl, lw, lift_pR, okpR]
        cases b <;> rfl
    obtain ⟨c, h1, h2⟩ := hostP
    refine ⟨fitB w sch i pd && (b && c), rule_fits_ok hw ht hg o1 d1 f1 h1, ?_⟩
    unfold m__law_matches_aa11 apR4
    simp only [e__law_matches_aa11, u4, u5, askR, pure_bind, List.getD_cons_zero, List.getD_cons_succ, sz2, lm', lift_pR, okpR]
    simp only [lB2, sB, lf, lM2, sM, askR, pure_bind, okpR]
    have gt := fun k => gate43 (i := i) hw ht hg.sw (k := k)
    simp only [lift_pR] at gt
    rw [gt]
    have h3 := h2
    simp only [askR, pure_bind, lift_pR, okpR] at h3
    by_cases c1 : fitB w sch i pd = true
    · rw [if_pos c1, h3, c1]
      rfl
    · have c2 : fitB w sch i pd = false := by simpa using c1
      rw [if_neg c1, c2]
      rfl
theorem ix_tup {ds : List D} {i : Int} (h0 : 0 ≤ i) (h : i < ds.length) : ixD (.tup ds) (.int i) = some (ds[i.toNat]'(by omega)) := by
  have e : ixD (.tup ds) (.int i) = ixD (.lst ds) (.int i) := rfl
  rw [e, ix_lst h0 h]
end FN
namespace FN
open DL PySem PySem.W
def fx (I : List (List Nat)) : Nat := (I.filter fun z => !decide (42 ∈ z)).length
def one (b : Bool) : Int := if b = true then 1 else 0
end FN
namespace FN
open DL PySem PySem.W
abbrev R3 := D × List Nat × List D
def RuOk (r : R3) : Prop := RuD r.1 r.2.1 r.2.2
def ruO (r : R3) : D := .ins "Rule" RNs r.2.2
def pgL (sch : List Nat) (A : Hst) (i : Int) (B : Hst) : D := .tup [.str sch, .tup (A.map .str), .int i, .tup (B.map .str)]
section
variable (rows : List Row) (kin : List (List Hst)) (sch : List Nat) (A : Hst) (i : Int) (B : Hst)
def mt (r : R3) : Bool := match m__law_matches_aa11 [r.1, pgL sch A i B, .lst (rowsD rows), .lst (kin.map grD)] with
  | .ok (.bl b) => b
  | _ => false
end
variable {rows : List Row} {kin : List (List Hst)} {sch : List Nat} {A : Hst} {i : Int} {B : Hst}
theorem mt_ok {r : R3} (h : RuOk r) (hg : Pg sch A i B) (hr : ∀ r ∈ rows, RowOk r) (hk : ∀ g ∈ kin, GrOk g) : m__law_matches_aa11 [r.1, pgL sch A i B, .lst (rowsD rows), .lst (kin.map grD)] = .ok (.bl (mt rows kin sch A i B r)) ∧ m_rule_fits_7439 [ruO r, .tup (rowsD rows), hD (movedN kin A), pgD sch A i B] = .ok (.bl (mt rows kin sch A i B r)) := by
  obtain ⟨b, h1, h2⟩ := match40 h hg hr hk
  have e : mt rows kin sch A i B r = b := by
    show (match m__law_matches_aa11 [r.1, pgL sch A i B, .lst (rowsD rows), .lst (kin.map grD)] with | .ok (.bl b) => b | _ => false) = b
    rw [show m__law_matches_aa11 [r.1, pgL sch A i B, .lst (rowsD rows), .lst (kin.map grD)] = .ok (.bl b) from h2]
  rw [e]
  exact ⟨h2, h1⟩
end FN
namespace FN
open DL PySem PySem.W
end FN
namespace FN
open DL PySem PySem.W
def off (r : R3) : Bool := match ixD r.1 (.int 0) with
  | some (.str s) => decide (s = [43])
  | _ => false
end FN
namespace FN
open DL PySem PySem.W
structure Hm where
  w : List Nat
  A : List (List Nat)
  i : Int
  B : List (List Nat)
def Hm.t (h : Hm) : List Nat := ptx h.w h.A h.i h.B
def Hm.d (h : Hm) : D := pgD h.w h.A h.i h.B
end FN
namespace FN
open DL PySem PySem.W
end FN
namespace FN
open DL PySem PySem.W
end FN
namespace FN
open DL PySem PySem.W
def headD : List D → D
  | [] => .non
  | d :: _ => d
end FN
namespace FN
open DL
end FN
namespace FN
open DL PySem PySem.W
end FN
namespace FN
open DL PySem PySem.W
end FN
namespace FN
open DL PySem PySem.W
end FN
namespace DL
open PySem PySem.Spec PyProof.Rows L2 NdefX LamX
end DL
namespace DL
open PySem PySem.Spec PyProof.Rows L2 PySem.Froz
end DL
namespace DL
open PySem PySem.Spec PyProof.Rows L2 PySem.Froz
section
variable {P : Program} {w : World} {A : Around} {E : Value → Shared → Prop} {s : Shared}
def TSet (P : Program) (w : World) (h : Heap) (a : Addr) (l : List Str) : Prop :=
  ∃ D : SD, h.get? a = some (sObj "set" D) ∧ TxOk P w D l ∧ l.Nodup ∧ Ris D.2.2.place.toList ∧ (w.params.followText "set-order" = true ∨ D.2.2.led = true)
end
end DL
namespace DL
open PySem PySem.Spec PyProof.Rows L2 PySem.Froz
def toS (z : List Nat) : Str := ⟨z.toArray⟩
def dd : List (List Nat) → List (List Nat)
  | [] => []
  | x :: r => if x ∈ r then dd r else x :: dd r
def TSetO (P : Program) (w : World) (a : Addr) (l : List Str) : HO := .ext fun h => TSet P w h a l
end DL
namespace DL
open PySem PySem.Spec PyProof.Rows L2 LamX NdefX
end DL
namespace DL
open PySem PySem.Spec PyProof.Rows L2 LamX
end DL
namespace FN
open DL PySem PySem.W
end FN
namespace DL
open PySem PySem.Spec PyProof.Rows L2 PySem.Froz
abbrev KTx := List Str
section
variable (P : Program) (w : World)
abbrev thS (k : KTx) : Int := tupleKeyHash (strKind P w) k
def rowS (p : Addr × KTx) : Int × Value := (thS P w p.2, .ref p.1)
structure TuO (L : List (Addr × KTx)) (es : Array (Int × Value)) (t : SetTable) : Prop where
  rows : es.toList = L.map (rowS P w)
  tab : L2.TabOk t (L.map fun p => thS P w p.2)
  nd : (L.map (·.2)).Nodup
  led : w.params.followText "set-order" = true ∨ t.led = true
  room : L.length * 5 < t.mask * 3
  few : L.length < 64
def TuAt (h : Heap) (D : Addr) (L : List (Addr × KTx)) : Prop := ∃ o es ep t, h.get? D = some o ∧ o.ExactSet ∧ o.data = .set es ep t ∧ TuO P w L es t
end
section
variable {P : Program} {w : World} {A : Around} {E : Value → Shared → Prop} {s : Shared} {D x : Addr} {L : List (Addr × KTx)} {es : Array (Int × Value)} {ep : Nat} {t : SetTable} {o : Obj} {k : KTx}
theorem TuO.size (R : TuO P w L es t) : es.size = L.length := by
  have e := congrArg List.length R.rows
  rwa [Array.length_toList, List.length_map] at e
theorem TuO.row (R : TuO P w L es t) {i : Nat} {p : Addr × KTx} (h : L[i]? = some p) : es[i]? = some (rowS P w p) := by
  rw [← Array.getElem?_toList, R.rows, List.getElem?_map, h]
  rfl
end
end DL
namespace DL
open PySem PySem.Spec PyProof.Rows L2 PySem.Froz
end DL
namespace DL
open PySem PySem.Spec PyProof.Rows L2 PySem.Froz PpSet
def TupH (K : PySem.W.Frag) (H : Hp) (p : Addr × KTx) : Prop := SqT K H p.1 (p.2.map V.str)
structure GotT (acc L : List (Addr × KTx)) : Prop where
  sub : ∀ p ∈ L, p ∈ acc
  all : ∀ p ∈ acc, p.2 ∈ L.map (·.2)
  len : L.length ≤ acc.length
  nd : (L.map (·.2)).Nodup
theorem GotT.nil : GotT [] [] := ⟨fun p m => m, (fun p m => by cases m), Nat.le_refl _, List.nodup_nil⟩
section
variable {X : Cx} {pins : List (Addr × Obj)} {σ : L2.St} {H : Hp} {s : Shared} {A : Around} {E : Value → Shared → Prop}
theorem TuAt.mono {P : Program} {w : World} {h h' : Heap} {D : Addr} {L : List (Addr × KTx)} (x : TuAt P w h D L) (k : ∀ o, h.get? D = some o → h'.get? D = some o) : TuAt P w h' D L := by
  obtain ⟨o, es, ep, t, e, r⟩ := x
  exact ⟨o, es, ep, t, k o e, r⟩
end
section
variable {K : PySem.W.Frag} {mg : Str → Option Value} {Hf H : Hp} [DL.TC]
theorem TupH.sub {p : Addr × KTx} (x : TupH K Hf p) (s : Sub Hf H) : TupH K H p := by
  rcases x with x | x
  · refine .inl ?_
    rcases x with x | ⟨o, x⟩
    · exact .inl (s _ _ x)
    · exact .inr ⟨o, s _ _ x⟩
  · exact .inr x
end
end DL
namespace DL
open PySem PySem.Spec PyProof.Rows L2
end DL
namespace DL
open PySem PySem.Spec PyProof.Rows L2
end DL
namespace DL
open PySem PySem.Spec PyProof.Rows L2
abbrev TRow := List (List Nat)
abbrev NTs := List (TRow × List (List Nat))
def txsD (r : TRow) : D := .tup (r.map .str)
def keyT (r : TRow) : NestedKey := .tup (r.map fun z => .text ⟨z.toArray⟩)
theorem nkL_txs : ∀ r : TRow, nkL (r.map .str) = some (r.map fun z => NestedKey.text ⟨z.toArray⟩)
  | [] => rfl
  | z :: r => by
    rw [List.map_cons, nkL, nkL_txs r]
    rfl
theorem depth_txs : ∀ r : TRow, NestedKey.depthAll (r.map fun z => NestedKey.text ⟨z.toArray⟩) = 0
  | [] => rfl
  | z :: r => by
    rw [List.map_cons, NestedKey.depthAll, depth_txs r]
    rfl
theorem nkT_txs (r : TRow) : nkT (txsD r) = some (keyT r) := by
  have e : nkD (txsD r) = some (keyT r) := by
    unfold txsD nkD
    rw [nkL_txs]
    rfl
  unfold nkT
  rw [e]
  have h : nkTp (txsD r) = true ∧ (keyT r).depth ≤ 8 := ⟨rfl, by
    unfold keyT
    rw [NestedKey.depth, depth_txs]
    decide⟩
  exact if_pos h
theorem keyT_inj {r r' : TRow} (h : keyT r = keyT r') : r = r' := by
  unfold keyT at h
  injection h with h
  induction r generalizing r' with
  | nil => cases r' with
    | nil => rfl
    | cons _ _ => cases h
  | cons z r ih => cases r' with
    | nil => cases h
    | cons z' r' =>
      rw [List.map_cons, List.map_cons] at h
      injection h with h1 h2
      injection h1 with h1
      injection h1 with h1
      rw [ih h2, show z = z' from by simpa using congrArg Array.toList h1]
def ndPush (ns : NTs) (r : TRow) (c : List Nat) : NTs := ns.map fun n => if n.1 = r then (n.1, if c ∈ n.2 then n.2 else n.2 ++ [c]) else n
section
variable (K : PySem.W.Frag) (mg : Str → Option Value) (fx : Fx) [DL.TC]
def ChAt (Hf H : Hp) (q : Addr) (cs : List (List Nat)) : Prop := ∃ vs, H q = some (.lst vs) ∧ Hf q = none ∧ fx.H0 q = none ∧ q ∉ fx.bag ∧ IsL K mg Hf (cs.map .str) vs ∧ cs.length ≤ 100000
def NodesAt (Hf H : Hp) (p : Addr) (ns : NTs) (qs : List Addr) (xs : List NX) : Prop := (∃ ep, H p = some (NdO TC.w p xs ep)) ∧ (Hf p = none ∧ fx.H0 p = none ∧ p ∉ fx.bag) ∧ (p == sysModules) = false ∧ ns.length ≤ 100000 ∧
  xs.map (·.1) = ns.map (fun n => keyT n.1) ∧ (ns.map (·.1)).Nodup ∧ IsL K mg Hf (ns.map fun n => txsD n.1) (xs.map fun x => V.ref x.2.1) ∧ xs.map (·.2.2) = qs.map Value.ref ∧ qs.Nodup ∧ ∀ (i : Nat) (q : Addr) (n : TRow × List (List Nat)), qs[i]? = some q → ns[i]? = some n → ChAt K mg fx Hf H q n.2
end
section
variable {K : PySem.W.Frag} {mg : Str → Option Value} {fx : Fx} [DL.TC] {Hf H Hf' H' : Hp} {p q : Addr} {ns : NTs} {qs : List Addr} {xs : List NX} {r : TRow} {cs : List (List Nat)}
theorem ChAt.step (a : Ste fx.bag Hf H Hf' H') (h : ChAt K mg fx Hf H q cs) : ChAt K mg fx Hf' H' q cs := by
  obtain ⟨vs, h1, h2, h3, h4, l, z⟩ := h
  exact ⟨vs, a.keep _ _ h1 h4 nofun, a.stayNone h2 (by rw [h1]; simp), h3, h4, l.mono a.sub, z⟩
theorem NodesAt.step (a : Ste fx.bag Hf H Hf' H') (h : NodesAt K mg fx Hf H p ns qs xs) : NodesAt K mg fx Hf' H' p ns qs xs := by
  obtain ⟨⟨ep, h1⟩, ⟨h2, h3, h4⟩, z, nl, e1, nn, l, e2, nq, ch⟩ := h
  exact ⟨⟨ep, a.keep _ _ h1 h4 nc_nd.1⟩, ⟨a.stayNone h2 (by rw [h1]; simp), h3, h4⟩, z, nl, e1, nn, l.mono a.sub, e2, nq, fun i q n a1 a2 => (ch i q n a1 a2).step a⟩
theorem NodesAt.lens (h : NodesAt K mg fx Hf H p ns qs xs) : xs.length = ns.length ∧ qs.length = ns.length := by
  obtain ⟨h1, ⟨h2, h3, h4⟩, z, nl, e1, nn, l, e2, nq, ch⟩ := h
  have a := congrArg List.length e1
  have b := congrArg List.length e2
  simp at a b
  exact ⟨a, by omega⟩
theorem NodesAt.ne (h : NodesAt K mg fx Hf H p ns qs xs) : p ∉ qs := fun m => by
  have hl := h.lens
  obtain ⟨h1, ⟨h2, h3, h4⟩, z, nl, e1, nn, l, e2, nq, ch⟩ := h
  obtain ⟨i, hi, rfl⟩ := List.getElem_of_mem m
  have hn : i < ns.length := by omega
  obtain ⟨vs, a, _⟩ := ch i qs[i] ns[i] (List.getElem?_eq_getElem hi) (List.getElem?_eq_getElem hn)
  obtain ⟨ep, h1⟩ := h1
  rw [h1] at a
  unfold NdO at a
  cases a
theorem NodesAt.nodup (h : NodesAt K mg fx Hf H p ns qs xs) : (xs.map (·.1)).Nodup := by
  obtain ⟨h1, ⟨h2, h3, h4⟩, z, nl, e1, nn, l, e2, nq, ch⟩ := h
  rw [e1]
  have e : ns.map (fun n => keyT n.1) = (ns.map (·.1)).map keyT := by simp
  rw [e]
  exact List.pairwise_map.mpr (nn.imp fun h e => h (keyT_inj e))
theorem NodesAt.keys (h : NodesAt K mg fx Hf H p ns qs xs) : (ns.map fun n => txsD n.1).map nkT = xs.map (fun x => some x.1) := by
  obtain ⟨h1, ⟨h2, h3, h4⟩, z, nl, e1, nn, l, e2, nq, ch⟩ := h
  have : xs.map (fun x => some x.1) = (xs.map (·.1)).map some := by simp
  rw [this, e1]
  simp [nkT_txs]
theorem NodesAt.vals (h : NodesAt K mg fx Hf H p ns qs xs) : Vals (qs.map V.ref) (xs.map (·.2.2)) := by
  obtain ⟨h1, ⟨h2, h3, h4⟩, z, nl, e1, nn, l, e2, nq, ch⟩ := h
  rw [e2]
  clear e2 ch nq
  induction qs with
  | nil => exact .nil
  | cons q qs ih => exact .cons rfl ih
theorem NodesAt.there (h : NodesAt K mg fx Hf H p ns qs xs) {pr : Addr × Value} (e : atKey xs (keyT r) = some pr) : (ns.any fun n => n.1 == r) = true ∧ ∃ (i : Nat) (q : Addr) (cs : List (List Nat)), ns[i]? = some (r, cs) ∧ qs[i]? = some q ∧ pr.2 = .ref q := by
  have hl := h.lens
  obtain ⟨h1, ⟨h2, h3, h4⟩, z, nl, e1, nn, l, e2, nq, ch⟩ := h
  unfold atKey at e
  cases q0 : xs.find? (fun x => decide (x.1 = keyT r)) with
  | none => rw [q0] at e; cases e
  | some x =>
    rw [q0] at e
    cases e
    have hm := List.mem_of_find?_eq_some q0
    have hk : x.1 = keyT r := by
      have := List.find?_some q0
      simpa using this
    obtain ⟨i, hi, he⟩ := List.getElem_of_mem hm
    have hn : i < ns.length := by omega
    have hq : i < qs.length := by omega
    have a1 := congrArg (fun l => l[i]?) e1
    simp only [List.getElem?_map, List.getElem?_eq_getElem hi, List.getElem?_eq_getElem hn, Option.map_some, Option.some.injEq] at a1
    rw [he, hk] at a1
    have er := keyT_inj a1
    have a2 := congrArg (fun l => l[i]?) e2
    simp only [List.getElem?_map, List.getElem?_eq_getElem hi, List.getElem?_eq_getElem hq, Option.map_some, Option.some.injEq] at a2
    rw [he] at a2
    refine ⟨List.any_eq_true.mpr ⟨ns[i], List.getElem_mem hn, by rw [er]; simp⟩, i, qs[i], ns[i].2, ?_, List.getElem?_eq_getElem hq, a2⟩
    rw [List.getElem?_eq_getElem hn, er]
theorem NodesAt.push (h : NodesAt K mg fx Hf H p ns qs xs) {i : Nat} {q : Addr} {c : List Nat} {vs : List V} {v : V} (hi : ns[i]? = some (r, cs)) (hq : qs[i]? = some q) (hv : H q = some (.lst vs)) (ic : Is K mg Hf (.str c) v) (hc : c ∉ cs) (hl : cs.length < 100000) :
    NodesAt K mg fx Hf (upd H q (.lst (vs ++ [v]))) p (ndPush ns r c) qs xs := by
  have hne := h.ne
  have hls := h.lens
  obtain ⟨h1, h2, z, nl, e1, nn, l, e2, nd, ch⟩ := h
  have hqp : p ≠ q := fun e => hne (e ▸ List.mem_of_getElem? hq)
  have k1 : (ndPush ns r c).map (·.1) = ns.map (·.1) := by
    unfold ndPush
    rw [List.map_map]
    refine List.map_congr_left fun n _ => ?_
    show (if n.1 = r then (n.1, if c ∈ n.2 then n.2 else n.2 ++ [c]) else n).1 = n.1
    split <;> rfl
  have kl : (ndPush ns r c).length = ns.length := by unfold ndPush; rw [List.length_map]
  have k2 : ∀ {β : Type} (f : TRow → β), (ndPush ns r c).map (fun n => f n.1) = ns.map (fun n => f n.1) := fun {β} f => by
    have e := congrArg (List.map f) k1
    rw [List.map_map, List.map_map] at e
    exact e
  obtain ⟨ep, h1⟩ := h1
  refine ⟨⟨ep, by rw [upd_ne hqp]; exact h1⟩, h2, z, by rw [kl]; exact nl, by rw [k2 keyT]; exact e1, by rw [k1]; exact nn, by rw [k2 txsD]; exact l, e2, nd, fun j q' n a1 a2 => ?_⟩
  have hj : j < ns.length := by
    have := (List.getElem?_eq_some_iff.mp a2).1
    rw [kl] at this
    exact this
  have a2' : (if ns[j].1 = r then (ns[j].1, if c ∈ ns[j].2 then ns[j].2 else ns[j].2 ++ [c]) else ns[j]) = n := by
    unfold ndPush at a2
    rw [List.getElem?_map, List.getElem?_eq_getElem hj] at a2
    exact Option.some.inj a2
  have hn := ch j q' ns[j] a1 (List.getElem?_eq_getElem hj)
  by_cases e : j = i
  · subst e
    rw [hq] at a1
    cases a1
    have er : ns[j] = (r, cs) := by
      rw [List.getElem?_eq_getElem hj] at hi
      exact Option.some.inj hi
    rw [er, if_pos rfl, if_neg hc] at a2'
    subst a2'
    rw [er] at hn
    obtain ⟨vs', b1, b2, b3, b4, b5, b6⟩ := hn
    rw [hv] at b1
    cases b1
    refine ⟨vs ++ [v], upd_same, b2, b3, b4, ?_, by rw [List.length_append]; exact hl⟩
    rw [List.map_append]
    exact b5.app (.cons ic .nil)
  · have ne : q' ≠ q := fun z => by
      subst z
      have h1 := (List.getElem?_eq_some_iff.mp a1)
      have h2 := (List.getElem?_eq_some_iff.mp hq)
      exact e ((List.getElem_inj nd).mp (h1.2.trans h2.2.symm))
    have er : ns[j].1 ≠ r := fun z => e (by
      have hi' := List.getElem?_eq_some_iff.mp hi
      have w : (ns.map (·.1))[j]'(by simpa using hj) = (ns.map (·.1))[i]'(by simpa using hi'.1) := by
        rw [List.getElem_map, List.getElem_map, hi'.2, z]
      exact (List.getElem_inj nn).mp w)
    rw [if_neg er] at a2'
    subst a2'
    obtain ⟨vs', b1, b2⟩ := hn
    exact ⟨vs', by rw [upd_ne ne]; exact b1, b2⟩
end
end DL
namespace DL
open PySem PySem.Spec PyProof.Rows L2
end DL
namespace DL
open PySem PySem.Spec PyProof.Rows L2
def NB (n : Nat) (ns : NTs) : Prop := ns.length ≤ n ∧ ∀ m ∈ ns, m.2.length ≤ n ∧ ∀ z ∈ m.2, Tx 1000 z
theorem NB.up {n m : Nat} {ns : NTs} (h : NB n ns) (w : n ≤ m) : NB m ns := ⟨Nat.le_trans h.1 w, fun x hx => ⟨Nat.le_trans (h.2 x hx).1 w, (h.2 x hx).2⟩⟩
theorem NB.push {n : Nat} {ns : NTs} {r : TRow} {c : List Nat} (h : NB n ns) (hc : Tx 1000 c) : NB (n + 1) (ndPush ns r c) := by
  refine ⟨by unfold ndPush; rw [List.length_map]; exact Nat.le_succ_of_le h.1, fun m hm => ?_⟩
  unfold ndPush at hm
  obtain ⟨x, hx, rfl⟩ := List.mem_map.mp hm
  obtain ⟨a, b⟩ := h.2 x hx
  split
  · split
    · exact ⟨Nat.le_succ_of_le a, b⟩
    · refine ⟨by rw [List.length_append]; exact Nat.succ_le_succ a, fun z hz => ?_⟩
      rcases List.mem_append.mp hz with hz | hz
      · exact b z hz
      · have : z = c := by simpa using hz
        subst this
        exact hc
  · exact ⟨Nat.le_succ_of_le a, b⟩
section
variable {X : Cx} {fx : Fx} {kk : Nat} {iN : Nat} {G G1 G2 Gl : List Sl} {rest body : List Stmt} {pos : Pos} {γ : Type} [DL.TC]
def ndcT (ns : NTs) : D := .ndc (ns.map fun n => txsD n.1) (ns.map fun n => .lst (n.2.map .str))
theorem NodesAt.frz {Hf H : Hp} {σ : L2.St} {s : S} {p : Addr} {ns : NTs} {qs : List Addr} {xs : List NX} (st : StS X.K X.mg fx Hf H σ G s) (ep : σ[iN]? = some (some (.ref p))) (nd : NodesAt X.K X.mg fx Hf H p ns qs xs) (hG : ∀ x ∈ G, isOw x = false) :
    ∃ Hf', Sub Hf Hf' ∧ StS X.K X.mg fx Hf' H σ (G.set iN (.im (ndcT ns))) s := by
  classical
  have hls := nd.lens
  have hk := nd.keys
  have hnn := nd.nodup
  have hvv := nd.vals
  obtain ⟨⟨epo, g1⟩, ⟨g2, g3, g4⟩, g5, g6, g7, g8, g9, g10, g11, g12⟩ := nd
  have inq : ∀ {q}, q ∈ qs → ∃ vs, H q = some (.lst vs) ∧ Hf q = none ∧ fx.H0 q = none ∧ q ∉ fx.bag := fun {q} m => by
    obtain ⟨i, hi, rfl⟩ := List.getElem_of_mem m
    obtain ⟨vs, a, b, c, d, _⟩ := g12 i qs[i] (ns[i]'(by omega)) (List.getElem?_eq_getElem hi) (List.getElem?_eq_getElem (by omega))
    exact ⟨vs, a, b, c, d⟩
  obtain ⟨F, hF⟩ : ∃ F : Hp, F = fun a => if a = p ∨ a ∈ qs then H a else Hf a := ⟨_, rfl⟩
  have F1 : ∀ {a}, a = p ∨ a ∈ qs → F a = H a := fun {a} c => by rw [hF]; exact if_pos c
  have F2 : ∀ {a}, ¬ (a = p ∨ a ∈ qs) → F a = Hf a := fun {a} c => by rw [hF]; exact if_neg c
  have hfn : ∀ {a}, a = p ∨ a ∈ qs → Hf a = none ∧ fx.H0 a = none ∧ a ∉ fx.bag ∧ ∃ u, H a = some u ∧ ∀ ps, u ≠ .tbl ps := fun {a} c => by
    rcases c with rfl | c
    · exact ⟨g2, g3, g4, _, g1, nc_nd.1⟩
    · obtain ⟨vs, a1, a2, a3, a4⟩ := inq c
      exact ⟨a2, a3, a4, _, a1, (nc_lst (p := 0)).1⟩
  have sb : Sub Hf F := fun a o z => by
    by_cases c : a = p ∨ a ∈ qs
    · rw [(hfn c).1] at z; cases z
    · rw [F2 c]; exact z
  have top : Sub F H := fun a o z => by
    by_cases c : a = p ∨ a ∈ qs
    · rw [F1 c] at z; exact z
    · rw [F2 c] at z; exact st.top a o z
  have st' : StS X.K X.mg fx F H σ G s := by
    refine ⟨⟨st.ste.sub.trans sb, top, st.ste.keep, st.ste.dom, fun a o z => ?_, st.ste.tab⟩, st.bag, fun b m => ⟨?_, (st.bagg b m).2⟩, ⟨st.tb.1, fun t ht => ?_⟩, st.len, fun i x e => ?_, st.dis⟩
    · by_cases c : a = p ∨ a ∈ qs
      · exact .inr (hfn c).2.1
      · rw [F2 c] at z; exact st.ste.fresh a o z
    · have c : ¬ (b = p ∨ b ∈ qs) := fun c => by
        obtain ⟨h1, h2, h3, _⟩ := hfn c
        exact st.owNb h2 h3 m
      rw [F2 c]
      exact (st.bagg b m).1
    · have c : ¬ (t.1 = p ∨ t.1 ∈ qs) := fun c => by
        obtain ⟨h1, h2, h3, u, h4, h5⟩ := hfn c
        exact st.tb.1.ne ht h4 h5 rfl
      rw [F2 c]
      exact st.tb.2 t ht
    · have so := st.sl i x e
      have no := hG x (List.mem_of_getElem? e)
      cases x with
      | un => trivial
      | im d => obtain ⟨v, a, b⟩ := so; exact ⟨v, a, b.mono sb⟩
      | bg => exact so
      | rf _ => exact so
      | o2 _ _ => cases no
      | rw _ _ => cases no
      | ra N ds => obtain ⟨q, vs, e, h, l⟩ := so; exact ⟨q, vs, e, sb _ _ h, l.mono sb⟩
      | ow _ => cases no
      | od _ _ => cases no
      | nd _ _ => cases no
      | ob _ _ => cases no
  have is : Is X.K X.mg F (ndcT ns) (.ref p) := by
    refine ⟨p, xs, qs.map V.ref, epo, rfl, by rw [F1 (.inl rfl)]; exact g1, g5, by rw [hls.1, sizeLine_eq]; omega, hk, hnn, g9.mono sb, hvv, ?_⟩
    have key : ∀ (L : NTs) (Q : List Addr), L.length = Q.length → (∀ q ∈ Q, q ∈ qs) → (∀ (i : Nat) (q : Addr) (n : TRow × List (List Nat)), Q[i]? = some q → L[i]? = some n → ChAt X.K X.mg fx Hf H q n.2) → IsL X.K X.mg F (L.map fun n => .lst (n.2.map .str)) (Q.map V.ref) := by
      intro L
      induction L with
      | nil =>
        intro Q hl _ _
        cases Q with
        | nil => rfl
        | cons _ _ => cases hl
      | cons n L ih =>
        intro Q hl hm hc
        cases Q with
        | nil => cases hl
        | cons q Q =>
          obtain ⟨vs, a1, a2, a3, a4, a5, a6⟩ := hc 0 q n rfl rfl
          refine .cons ⟨by rw [List.length_map, sizeLine_eq]; omega, q, vs, rfl, by rw [F1 (.inr (hm q (.head _)))]; exact a1, a5.mono sb⟩ (ih Q (Nat.succ.inj hl) (fun q' h => hm q' (.tail _ h)) fun i q' n' b1 b2 => hc (i + 1) q' n' b1 b2)
    exact key ns qs hls.2.symm (fun q h => h) g12
  have fin := st'.set (i := iN) is
  have e : σ.set iN (some (.ref p)) = σ := by
    apply List.ext_getElem?
    intro j
    by_cases c : iN = j
    · subst c
      have hl : iN < σ.length := (List.getElem?_eq_some_iff.mp ep).1
      rw [List.getElem?_set_self hl, ep]
    · rw [List.getElem?_set_ne c]
  rw [e] at fin
  exact ⟨F, sb, fin⟩
end
end DL
namespace DL
open PySem PySem.Spec PyProof.Rows L2
end DL
namespace DL
open PySem PySem.Spec PyProof.Rows L2
end DL
namespace DL
open PySem L2
end DL
namespace DL
open PySem PyProof.Rows L2
end DL
namespace DL
open PySem
end DL
namespace DL
open PySem L2
end DL
namespace DL
open PySem PySem.Spec PyProof.Rows L2
end DL
namespace DL
open PySem PySem.Spec PyProof.Rows L2 NdefX LamX
section
variable (P : Program) (w : World) (K : PySem.W.Frag) (mg : Str → Option Value) (base : Heap) [DL.TC]
def NGd (k : Nat) (F : NF) (f : Addr) (fr : List Str) (ws : List (Option V)) (Hf0 : Hp) (n : Nat) (stp : List D → R D) : Prop :=
  ∀ (A : Around) (outer : List Env) (s : Shared) (H Hf : Hp) (us : List Value) (vs : List V) (ds : List D) (Q : VK) (E : XK), A.guards = some [] → Room k A → Env0 P w K mg base A outer s H → H f = some (FnO f F) → H F.c = some (CodeO F.c F.qual) →
    CellsAt F.cl fr ws s.heap H → Sub Hf0 Hf → SubT Hf H → Vals vs us → IsL K mg Hf ds vs → vs.length = n → (match stp ds with
      | .ok d => ∀ v Hf' H', Ste [] Hf H Hf' H' → Is K mg Hf' d v → Q v H'
      | _ => False) → codeAny (model P w) A (.call (.ref f) ⟨us, []⟩) (CR (CXm P w mg) outer P w H s Q E) s
structure StpO (k : Nat) (outer : List Env) (s : Shared) (H Hf0 : Hp) (f : Addr) (n : Nat) (stp : List D → R D) : Prop where
  ex : ∃ (F : NF) (fr : List Str) (ws : List (Option V)), H f = some (FnO f F) ∧ H F.c = some (CodeO F.c F.qual) ∧ CellsAt F.cl fr ws s.heap H ∧ (∀ y c, F.cl.lookup y = some c → c ∉ frs outer) ∧ NGd P w K mg base k F f fr ws Hf0 n stp
end
structure StpAt [DL.TC] (X : Cx) (fx : Fx) (k : Nat) (f : Addr) (n : Nat) (stp : List D → R D) : Prop where
  o : StpO X.prog X.w X.K X.mg X.base k X.outer X.s_0 X.H_0 fx.Hf0 f n stp
  ex0 : X.ex = []
  h0 : fx.H0 = X.H_0
  nb : fx.me ++ fx.bag = []
end DL
namespace DL
open PySem PySem.Spec PyProof.Rows L2 NdefX LamX
def G0f (N : List Str) (d0 : D) (fa : Addr) (d2 : D) : List Sl := [.im d0, .rf fa, .im d2] ++ List.replicate (N.length - 3) .un
section
variable (P : Program) (w : World) (K : PySem.W.Frag) (mg : Str → Option Value) (base : Heap) [DL.TC]
def FnX (k j : Nat) (f : Addr) (fd : FuncData) (ps : List Str) (n : Nat) (g : (List D → R D) → List D → R D) : Prop :=
  ∀ (A : Around) (outer : List Env) (s : Shared) (H Hf : Hp) (args : Args) (us : List Value) (v0 v2 : V) (fa : Addr) (Q : VK) (E : XK) (stp : List D → R D) (d0 d2 : D), A.guards = some [] → Room k A → Env0 P w K mg base A outer s H → BindsTo s fd args (ps.zip us) → Vals [v0, .ref fa, v2] us →
    SubT Hf H → Is K mg Hf d0 v0 → Is K mg Hf d2 v2 → StpO P w K mg base j outer s H Hf fa n stp → (∀ ds : List D, stp ds ≠ .stuck → ds.length = n) → (match g stp [d0, d2] with
      | .ok d => ∀ v Hf' H', Ste [] Hf H Hf' H' → Is K mg Hf' d v → Q v H'
      | _ => False) → codeAny (model P w) A (.call (.ref f) args) (CR (CXm P w mg) outer P w H s Q E) s
end
section
variable {P : Program} {w : World} {K : PySem.W.Frag} {mg : Str → Option Value} {base : Heap} [DL.TC]
theorem StS.initX {Hf H : Hp} {E : XK} {N : List Str} {d0 d2 : D} {v0 v2 : V} {fa : Addr} {s : S} (sb : SubT Hf H) (i0 : Is K mg Hf d0 v0) (i2 : Is K mg Hf d2 v2) (hN : 3 ≤ N.length) : StS K mg (fxE [] false H Hf E) Hf H (start N [v0, .ref fa, v2]) (G0f N d0 fa d2) s := by
  refine ⟨.refl sb.s, trivial, fun b hb => (by cases hb), sb.t, ?_, fun i x e => ?_, fun i j x y p _ ex _ ox _ => ?_⟩
  · rw [start_len (by simpa using hN)]
    unfold G0f
    simp; omega
  · match i, e with
    | 0, e => cases e; exact ⟨v0, rfl, i0⟩
    | 1, e => cases e; exact (rfl : (start N [v0, .ref fa, v2])[1]? = some (some (.ref fa)))
    | 2, e => cases e; exact ⟨v2, rfl, i2⟩
    | i + 3, e =>
      have e : (List.replicate (N.length - 3) Sl.un)[i]? = some x := e
      have := List.eq_of_mem_replicate (List.mem_of_getElem? e)
      subst this
      trivial
  · match i, ex with
    | 0, e => cases e; cases ox
    | 1, e => cases e; cases ox
    | 2, e => cases e; cases ox
    | i + 3, e =>
      have e : (List.replicate (N.length - 3) Sl.un)[i]? = some x := e
      have := List.eq_of_mem_replicate (List.mem_of_getElem? e)
      subst this
      cases ox
theorem fnX {x qual : Str} {st : Stmt} {f : Addr} {fd : FuncData} {N ps : List Str} {k j n : Nat} {g : (List D → R D) → List D → R D} [hw : WOk w] (F : Fun K x qual st f fd) (Sc : FnScope N ps (defScope st)) (hps : ps.length = 3) (hN : 3 ≤ N.length)
    (hb : ∀ (cdv : Value) (A : Around) (outer : List Env) (s : Shared) (H Hf : Hp) (E : XK) (d0 d2 : D) (fa : Addr) (stp : List D → R D), Cok (cxOf (CXm P w mg) P w K mg base N qual (defScope st) f cdv A outer s H E) (fxE [] false H Hf E) k →
      StpAt (cxOf (CXm P w mg) P w K mg base N qual (defScope st) f cdv A outer s H E) (fxE [] false H Hf E) j fa n stp → (∀ ds : List D, stp ds ≠ .stuck → ds.length = n) →
      ∃ body : R (Fl Unit Empty), PSs (cxOf (CXm P w mg) P w K mg base N qual (defScope st) f cdv A outer s H E) (defBody st)
        (tS (cxOf (CXm P w mg) P w K mg base N qual (defScope st) f cdv A outer s H E).K (cxOf (CXm P w mg) P w K mg base N qual (defScope st) f cdv A outer s H E).mg (fxE [] false H Hf E) (G0f N d0 fa d2) (fun _ => unG N) Empty.elim body) ∧ g stp [d0, d2] = runR false body) :
    FnX P w K mg base (k + 1) j f fd ps n g := by
  intro A outer s H Hf args us v0 v2 fa Q E stp d0 d2 gd hr e0 hbd r sb i0 i2 so hl hq
  obtain ⟨oc, od, kV, doc, pm, an, cdv, ct, osl, rfl, lk, hcd⟩ := F.ex
  have kp := fun b o e => (e0.bs b o e).1
  have hk : ∀ y ∈ ps.zip us, (defScope st).names.lookup y.1 = some .local ∨ ((defScope st).names.lookup y.1 = some .cell ∧ ((cellsFrom (s.heap.objs.size + 1) (defScope st).names []).lookup y.1).isSome = true) := fun y hy =>
    (Sc.par y.1 (List.of_mem_zip (a := y.1) (b := y.2) hy).1).imp (fun q => q) fun q => ⟨q, PySem.W.cellsFrom_some _ _ _ (.inl q)⟩
  refine codeAny_call_function hr.depth (e0.mod.kin.keeps kp _ _ lk) rfl Sc.co Sc.gen rfl (PySem.W.codeRec_of (e0.mod.kin.keeps kp) hcd) (hbd _ _ _ _ (wpAny_newFunctionEnv_cells Sc.kind hk fun env he s1 x => ?_))
  subst he
  have Ck : Cok (cxOf (CXm P w mg) P w K mg base N qual (defScope st) f cdv A outer s H E) (fxE [] false H Hf E) k := ⟨rfl, fun _ => passes_of rfl, takes_of rfl rfl rfl rfl, hr.deeper _, Sc.nd, gd, hw.e⟩
  obtain ⟨body, hp, hg⟩ := hb cdv A outer s H Hf E d0 d2 fa stp Ck ⟨so, rfl, rfl, rfl⟩ hl
  have I : L2.Inv (cxOf (CXm P w mg) P w K mg base N qual (defScope st) f cdv A outer s H E) [] (start N [v0, .ref fa, v2]) H s1 := inv_start Sc hr.hd e0 (by rw [hps]; rfl) r x
  rw [hg] at hq
  have start0 : tS K mg (fxE [] false H Hf E) (G0f N d0 fa d2) (fun _ => unG N) Empty.elim body { nx := fun _ H' => Q .non H', rt := Q } (start N [v0, .ref fa, v2]) H := by
    refine ⟨Hf, ⟨0, 0, 0, [], false⟩, .initX sb i0 i2 hN, ?_⟩
    show R.wp body _ _ _
    cases body with
    | ok fl =>
      cases fl with
      | nx a => exact fun Hf' H' σ' _ st => hq .non Hf' H' st.ste (rfl : V.non = V.non)
      | rt d => exact fun v Hf' H' st _ i => hq v Hf' H' st i
      | bk b => exact b.elim
      | ct b => exact b.elim
    | ex e => exact hq.elim
    | stuck => exact hq.elim
  refine ⟨(e0.mod.nolimit.keeps kp).keeps x.toInCall.keep, codeAny_func (wpAny_mono (hp.run [] s1 _ H _ I start0) (fun fl s' hs => ?_) fun e s' hs => hs)⟩
  cases fl with
  | ret u =>
    obtain ⟨v, σ', H', J', rv, q⟩ := hs
    exact ⟨v, H', J'.os, J'.bare, J'.base, J'.hok, rv, q⟩
  | next =>
    obtain ⟨σ', H', J', q⟩ := hs
    exact ⟨.non, H', J'.os, J'.bare, J'.base, J'.hok, rfl, q⟩
  | brk => exact hs.elim fun _ h => h.elim fun _ h => h.2.elim
  | cont => exact hs.elim fun _ h => h.elim fun _ h => h.2.elim
end
end DL
namespace DL
open PySem PySem.Spec PyProof.Rows L2 NdefX LamX
end DL
namespace DL
open PySem PySem.Spec PyProof.Rows L2
end DL
namespace DL
open PySem PySem.Spec PyProof.Rows L2
end DL
namespace DL
open PySem PySem.Spec PyProof.Rows L2
end DL
namespace DL
open PySem PySem.Spec PyProof.Rows PySem.Calls L2 RZ
end DL
namespace DL
open PySem PySem.Spec PyProof.Rows L2
section
variable {K : PySem.W.Frag} {mg : Str → Option Value} {fx : Fx} {Hf H : Hp} {σ σ' r : L2.St} {G G' o : List Sl} {s : S} [DL.TC]
theorem StS.push {v : V} {x : Sl} (st : StS K mg fx Hf H σ G s) (new : SlOk K mg fx Hf H (some (some v)) x) (hn : isOw x = true → ∀ (j : Nat) (y : Sl), G[j]? = some y → isOw y = true → σ[j]? = some (some v) → False) : StS K mg fx Hf H (σ ++ [some v]) (G ++ [x]) s := by
  have hl := st.len
  have key : ∀ j y, (G ++ [x])[j]? = some y → (j < G.length ∧ G[j]? = some y ∧ (σ ++ [some v])[j]? = σ[j]?) ∨ (j = G.length ∧ y = x ∧ (σ ++ [some v])[j]? = some (some v)) := fun j y e => by
    by_cases d : j < G.length
    · rw [List.getElem?_append_left d] at e
      exact .inl ⟨d, e, by rw [List.getElem?_append_left (by omega)]⟩
    · have h1 := (List.getElem?_eq_some_iff.mp e).1
      have ej : j = G.length := by simp at h1; omega
      subst ej
      rw [List.getElem?_append_right (Nat.le_refl _)] at e
      simp at e
      refine .inr ⟨rfl, e.symm, ?_⟩
      rw [← hl, List.getElem?_append_right (Nat.le_refl _)]
      simp
  refine ⟨st.ste, st.bag, st.bagg, st.tb, by simp [hl], fun j y e => ?_, fun j k y z p hjk e1 e2 o1 o2 f1 f2 => ?_⟩
  · rcases key j y e with ⟨_, a, b⟩ | ⟨_, rfl, b⟩
    · rw [b]; exact st.sl _ _ a
    · rw [b]; exact new
  · rcases key j y e1 with ⟨_, a, b⟩ | ⟨c, rfl, b⟩
    · rcases key k z e2 with ⟨_, a', b'⟩ | ⟨c', rfl, b'⟩
      · exact st.dis j k y z p hjk a a' o1 o2 (b ▸ f1) (b' ▸ f2)
      · rw [b'] at f2
        cases f2
        exact hn o2 j y a o1 (b ▸ f1)
    · rcases key k z e2 with ⟨_, a', b'⟩ | ⟨c', _, _⟩
      · rw [b] at f1
        cases f1
        exact hn o1 k z a' o2 (b' ▸ f2)
      · exact hjk (c.trans c'.symm)
end
end DL
namespace DL
open PySem PySem.Spec PyProof.Rows L2 PySem.Froz
end DL
namespace DL
open PySem PySem.Spec PyProof.Rows L2 PySem.Froz PpSet
end DL
namespace DL
open PySem PySem.Spec PyProof.Rows L2 PySem.Froz PpSet
def SetAt (P : Program) (w : World) (H : Hp) (Da : Addr) (acc : List D) : Prop := ∃ (l : List Str) (ls : List (List Nat)), H Da = some (TSetO P w Da l) ∧ acc = ls.map D.str ∧ (∀ k, k ∈ l ↔ k ∈ ls.map toS) ∧ l.Nodup ∧ l.length ≤ acc.length ∧ acc.length ≤ 900 ∧ ∀ z : List Nat, z ∈ ls → z.length ≤ sizeLine
theorem tset_ne {P : Program} {w : World} {a : Addr} {l : List Str} (ps : Array Value) : TSetO P w a l ≠ .tbl ps := fun z => by
  unfold TSetO at z
  cases z
section
variable {P : Program} {w : World} {H Hf : Hp} {Da : Addr} {acc : List D} [DL.TC]
theorem SetAt.some (x : SetAt P w H Da acc) : H Da ≠ none := by
  obtain ⟨l, ls, e, _⟩ := x
  rw [e]; simp
theorem SetAt.keep {bag : List Addr} {Hf' H' : Hp} (x : SetAt P w H Da acc) (e : Ste bag Hf H Hf' H') (nb : Da ∉ bag) : SetAt P w H' Da acc := by
  obtain ⟨l, ls, h, r⟩ := x
  exact ⟨l, ls, e.keep _ _ h nb tset_ne, r⟩
theorem SetAt.nil : SetAt P w (L2.upd H Da (TSetO P w Da [])) Da [] := ⟨[], [], upd_same, rfl, fun k => by simp, List.nodup_nil, Nat.le_refl _, Nat.zero_le _, fun z m => by cases m⟩
end
end DL
namespace DL
open PySem PySem.Spec PyProof.Rows L2 NdefX LamX
end DL
namespace DL
open PySem PySem.Spec PyProof.Rows L2
end DL
namespace DL
open PySem PySem.Spec PyProof.Rows L2
end DL
namespace DL
open PySem PySem.Spec PyProof.Rows L2 NdefX ClX
end DL
namespace DL
open PySem PySem.Spec PyProof.Rows L2
end DL
namespace DL
open PySem PySem.Spec PyProof.Rows L2
end DL
namespace DL
open PySem PySem.Spec PyProof.Rows L2
theorem ps_of_one {X : Cx} {st : Stmt} {t : TS} (h : PSs X [st] t) : PS X st t := ⟨fun pins s σ H D I q => by
  have z := h.run pins s σ H D I q
  intro Γ p hΓ
  have z := z Γ p hΓ
  rw [execs_cons, Sem.wp_bind'] at z
  refine Sem.wp_mono _ Γ _ (fun f p' s' h' => ?_) (fun _ _ _ h' => h') _ _ z
  cases f with
  | next =>
    have h' : Sem.wp _ Γ (execs [] X.env) _ _ p' s' := h'
    rw [execs_nil, Sem.wp_pure'] at h'
    exact h'
  | ret v => exact h'
  | brk => exact h'
  | cont => exact h'⟩
end DL
namespace DL
open PySem PySem.Spec PyProof.Rows L2
end DL
namespace DL
open PySem PySem.Spec PyProof.Rows L2
end DL
namespace DL
open PySem PySem.Spec PyProof.Rows L2
abbrev RK := V → Value → Hp → Shared → Prop
def ER (X : Cx) (pins : List (Addr × Obj)) (σ : L2.St) (Q : RK) : Value → Shared → Prop := fun u s' => ∃ v H', L2.Inv X pins σ H' s' ∧ RelV v u ∧ Q v u H' s'
structure PER (X : Cx) (e : Expr) (t : L2.St → Hp → RK → Prop) : Prop where
  run : ∀ (pins : List (Addr × Obj)) (s : Shared) (σ : L2.St) (H : Hp) (Q : RK), L2.Inv X pins σ H s → t σ H Q → wpAny (model X.prog X.w) X.A (eval e X.env) (ER X pins σ Q) X.xe s
section
variable {X : Cx} {pins : List (Addr × Obj)} {σ : L2.St} {H : Hp} {s : Shared} {N : Nat} {vs : List V} {l : Addr}
theorem TokIn.mono {N M : Nat} {u : Value} (h : N ≤ M) (x : TokIn N u) : TokIn M u := by
  obtain ⟨z, t, e, h1, h2⟩ := x
  exact ⟨z, t, e, h1, Nat.lt_of_lt_of_le h2 h⟩
theorem rwP_keep {N : Nat} {vs : List V} {p : Addr} {h h' : Heap} (x : RwP N vs p h) (k : ∀ o, h.get? p = some o → h'.get? p = some o) : RwP N vs p h' := by
  obtain ⟨its, n, r, e, t, z⟩ := x
  exact ⟨its, n, r, k _ e, t, z⟩
theorem rwO_ok {P : Program} {w : World} {H' : Hp} {h : Heap} (x : RwP N vs l h) : ObjOk P w H' h l (RwO N vs l) := by
  have x' := x
  obtain ⟨its, n, r, e, t, z⟩ := x'
  exact ⟨x, ⟨_, e⟩, fun h1 h2 y st => rwP_keep y st⟩
theorem rwP_of (I : L2.Inv X pins σ H s) (hH : H l = some (RwO N vs l)) : RwP N vs l s.heap := (I.hok l _ hH).1
theorem inv_rset {its' : List Value} {its : List Value} {n : Nat} {f : Array Value → Array Value} {t' : Nat} {ys : List V} (I : L2.Inv X pins σ H s) (hH : H l = some (RwO N vs l))
    (e : s.heap.get? l = some { cls := .type "list", data := .seq its.toArray n }) (hf : f its.toArray = its'.toArray) (hv : Vals ys its') (ht : ∀ u ∈ its', TokIn N u) (hz : ys.length ≤ sizeLine) :
    L2.Inv X pins σ (upd H l (RwO N ys l)) { s with heap := s.heap.update l (Obj.mapSeq f), toks := t' } := by
  have q := PySem.IsL.update e f
  rw [hf] at q
  refine I.write (x := l) (e := l) (by rw [hH]; exact trivial) (.inl rfl) (fun b' u hb hu => (Heap.get?_update_other s.heap (Obj.mapSeq f) (Ne.symm hb)).trans hu) ⟨_, q⟩ (rwO_ok ⟨its', _, hv, q, ht, hz⟩)
theorem cr_lenR : CallR X (.builtin "len") (fun xs H Q => ∃ l N vs, xs = [.ref l] ∧ H l = some (RwO N vs l) ∧ Q (.int vs.length) H) := by
  intro pins s σ H xs us Q I r h
  obtain ⟨l, N, vs, rfl, hH, q⟩ := h
  rw [L2.Vals.ref1 r]
  obtain ⟨its, n, r', e, _, hz⟩ := rwP_of I hH
  have hlen := r'.length
  have hn := line63
  rw [sizeLine_eq] at hz
  refine Calls.call_len_list (items := its.toArray) ⟨_, e, rfl, n, rfl⟩ (by simp only [List.size_toArray]; omega) ⟨.int vs.length, H, I.tok _, ⟨s.toks + 1, by rw [List.size_toArray, hlen]⟩, q⟩
end
section
variable {X : Cx} {e : Expr} {te : TE} {i : Nat} {n : Str} {np apos cpos pos : Pos}
def only (R : V → Hp → Prop) : List V → Hp → Prop := fun vs H => match vs with
  | [v] => R v H
  | _ => False
theorem only_of {R : V → Hp → Prop} {vs : List V} {H : Hp} (h : only R vs H) : ∃ v, vs = [v] ∧ R v H := by
  match vs, h with
  | [v], h => exact ⟨v, rfl, h⟩
theorem per_pop (he : PE X e te) (hN : X.N[i]? = some n) (hv : Vis X.env.scope n) (hd : (n == ("__debug__" : Str)) = false) (hcd : (n == ("__classdict__" : Str)) = false)
    (hst : starEach [e] X.env = [(false, eval e X.env)]) (hbase : attributeBase (.Name n np) "pop" X.env (eval (.Name n np) X.env) = eval (.Name n np) X.env)
    (hfew : ((backTo cpos (starEach [e] X.env)).all (fun x => !x.1) && (backToKw cpos (keywordEach [] X.env)).all (fun x => x.1.isSome) && decide ([e].length + ([] : List Keyword).length + (if ([] : List Keyword).isEmpty then 0 else 1) < 30)) = true)
    (hline : (apos.endLine == cpos.line) = true) (hplain : (backTo cpos (starEach [] X.env)).any (·.1) = false) :
    PER X (.Call (.Attribute (.Name n np) "pop" apos) [e] [] cpos) (fun σ H Q => ∃ l N vs0, σ[i]? = some (some (.ref l)) ∧ H l = some (RwO N vs0 l) ∧ te σ H (fun v1 H1 => ∃ (vs : List V) (j : Int) (k : Nat) (y : V), v1 = .int j ∧ H1 l = some (RwO N vs l) ∧ (vs.length ≤ sizeLine → -(2 ^ 63) ≤ j ∧ j < 2 ^ 63) ∧ seqIndex? j vs.length = some k ∧ vs[k]? = some y ∧ ∀ u s', TokIn N u → Q y u (upd H1 l (RwO N (vs.eraseIdx k) l)) s')) := by
  refine ⟨fun pins s σ H Q I ⟨l, N, vs0, el, hl0, h⟩ => ?_⟩
  refine wpAny_Call_method_late hbase hfew hline rfl (thn ((pe_var (pos := np) hN hv hd hcd).run pins s σ H (fun v H1 => v = .ref l ∧ H1 = H) I ⟨.ref l, el, rfl, rfl⟩) fun v s1 ⟨x, H1, I1, r1, ex, eH⟩ => ?_)
  subst ex
  subst eH
  have hr : v = .ref l := r1
  subst hr
  obtain ⟨its0, n0, _, e0, _, _⟩ := rwP_of I1 hl0
  refine ⟨"list", "list.pop", PySem.F.plainAttrs_list, PySem.F.slot_list_pop, PySem.F.type_list_pop, ⟨_, e0, rfl⟩, fun a ea => by cases ea; exact ⟨_, e0, rfl⟩, ?_⟩
  have hA := (pa_cons he pa_nil hst).run cpos pins s1 σ H1 (only (fun v1 H1 => ∃ (vs : List V) (j : Int) (k : Nat) (y : V), v1 = .int j ∧ H1 l = some (RwO N vs l) ∧ (vs.length ≤ sizeLine → -(2 ^ 63) ≤ j ∧ j < 2 ^ 63) ∧ seqIndex? j vs.length = some k ∧ vs[k]? = some y ∧ ∀ u s', TokIn N u → Q y u (upd H1 l (RwO N (vs.eraseIdx k) l)) s')) I1 h
  rw [hst] at hA ⊢
  refine Calls.callWith_builtin (by show (false || (backTo cpos (starEach [] X.env)).any (·.1)) = false; rw [hplain] <;> rfl) (Calls.evalArgs_plain ?_)
  refine thn hA fun us s2 ⟨vs2, H2, I2, r2, q2⟩ => ?_
  obtain ⟨v1, rfl, vs, j, k, y, rfl, hH, hb, hk, hy, q⟩ := only_of q2
  obtain ⟨u0, rfl, ru⟩ := r2.one
  obtain ⟨t, rfl⟩ := ru
  obtain ⟨its, n1, r, e, ht, hz⟩ := rwP_of I2 hH
  obtain ⟨h1, h2⟩ := hb hz
  obtain ⟨w, hw, rw'⟩ := r.get hy
  have hl := r.length
  rw [sizeLine_eq] at hz
  refine call_meets PySem.F.slot_list_pop ⟨_, e, rfl⟩ PySem.F.entry_list_pop (PySem.F.args_list_pop_2 _ _)
    (MeetsSeq.list_pop_at l its.toArray n1 j t k w (fitsIndex_both h1 h2) (by rw [List.size_toArray, ← hl]; exact hk) (by rw [← Array.getElem?_toList]; exact hw) (by rw [List.size_toArray, sizeLine_eq]; omega)) ⟨e, ?_⟩
  refine ⟨y, _, inv_rset (its' := its.eraseIdx k) I2 hH e ?_ (r.eraseIdx k) (fun u m => ht u (List.mem_of_mem_eraseIdx m)) ?_, rw', q w _ (ht w (List.mem_of_getElem? hw))⟩
  · show its.toArray.eraseIdxIfInBounds k = (its.eraseIdx k).toArray
    rw [List.eraseIdxIfInBounds_toArray]
  · rw [sizeLine_eq]
    have := List.length_eraseIdx_le vs k
    omega
theorem ps_appendR {tr : L2.St → Hp → RK → Prop} (he : PER X e tr) (hN : X.N[i]? = some n) (hv : Vis X.env.scope n) (hd : (n == ("__debug__" : Str)) = false) (hcd : (n == ("__classdict__" : Str)) = false)
    (hst : starEach [e] X.env = [(false, eval e X.env)]) (hbase : attributeBase (.Name n np) "append" X.env (eval (.Name n np) X.env) = eval (.Name n np) X.env)
    (hfew : ((backTo cpos (starEach [e] X.env)).all (fun x => !x.1) && (backToKw cpos (keywordEach [] X.env)).all (fun x => x.1.isSome) && decide ([e].length + ([] : List Keyword).length + (if ([] : List Keyword).isEmpty then 0 else 1) < 30)) = true)
    (hline : (apos.endLine == cpos.line) = true) (hplain : (backTo cpos (starEach [] X.env)).any (·.1) = false)
    (hs : swapsWith (.Call (.Attribute (.Name n np) "append" apos) [e] [] cpos) none pos.line X.env = pure false) :
    PS X (.Expr (.Call (.Attribute (.Name n np) "append" apos) [e] [] cpos) pos) (fun D σ H => ∃ l N vs0, σ[i]? = some (some (.ref l)) ∧ H l = some (RwO N vs0 l) ∧ tr σ H (fun y u H1 s1 => ∃ vs, H1 l = some (RwO N vs l) ∧ TokIn N u ∧ vs.length < sizeLine ∧ D.nx σ (upd H1 l (RwO N (vs ++ [y]) l)))) := by
  have pe : PE X (.Call (.Attribute (.Name n np) "append" apos) [e] [] cpos) (fun σ H Q => ∃ l N vs0, σ[i]? = some (some (.ref l)) ∧ H l = some (RwO N vs0 l) ∧ tr σ H (fun y u H1 s1 => ∃ vs, H1 l = some (RwO N vs l) ∧ TokIn N u ∧ vs.length < sizeLine ∧ Q .non (upd H1 l (RwO N (vs ++ [y]) l)))) := by
    refine ⟨fun pins s σ H Q I ⟨l, N, vs0, el, hl0, h⟩ => ?_⟩
    refine wpAny_Call_method_late hbase hfew hline rfl (thn ((pe_var (pos := np) hN hv hd hcd).run pins s σ H (fun v H1 => v = .ref l ∧ H1 = H) I ⟨.ref l, el, rfl, rfl⟩) fun v s1 ⟨x, H1, I1, r1, ex, eH⟩ => ?_)
    subst ex
    subst eH
    have hr : v = .ref l := r1
    subst hr
    obtain ⟨its0, n0, _, e0, _, _⟩ := rwP_of I1 hl0
    refine ⟨"list", "list.append", PySem.F.plainAttrs_list, PySem.F.slot_list_append, PySem.F.type_list_append, ⟨_, e0, rfl⟩, fun a ea => by cases ea; exact ⟨_, e0, rfl⟩, ?_⟩
    have h0 : backTo cpos (starEach [e] X.env) = (false, eval e X.env) :: backTo cpos (starEach [] X.env) := by rw [hst]; rfl
    rw [h0]
    refine Calls.callWith_builtin (by show (false || (backTo cpos (starEach [] X.env)).any (·.1)) = false; rw [hplain] <;> rfl) (Calls.evalArgs_plain ?_)
    refine Calls.spliced_cons (thn (he.run pins s1 σ H1 _ I1 h) fun u s2 ⟨y, H2, I2, r2, vs, hH, htk, hlt, q⟩ => ?_)
    refine Calls.spliced_nil ?_
    obtain ⟨its, n1, r, e, ht, hz⟩ := rwP_of I2 hH
    have hl := r.length
    rw [sizeLine_eq] at hlt
    refine call_meets PySem.F.slot_list_append ⟨_, e, rfl⟩ PySem.F.entry_list_append (PySem.F.args_list_append_2 _ _) (PySem.list_append l its.toArray n1 u (by rw [List.size_toArray, sizeLine_eq]; omega)) ⟨e, ?_⟩
    refine ⟨.non, _, inv_rset (its' := its ++ [u]) I2 hH e (by simp) (r.append (.cons r2 .nil)) (fun z m => ?_) ?_, rfl, q⟩
    · rcases List.mem_append.mp m with m | m
      · exact ht z m
      · rw [List.mem_singleton.mp m]; exact htk
    · rw [List.length_append, List.length_singleton, sizeLine_eq]
      omega
  exact ⟨fun pins s σ H D I h => (ps_expr pe hs).run pins s σ H D I h⟩
end
end DL
namespace DL
open PySem PySem.Spec PyProof.Rows L2
section
variable {prog : Program} {w : World} {A : Around} {E : Value → Shared → Prop} {s : Shared}
structure Signs (x : Str) (acc : Array Value) (tk : Nat) : Prop where
  items : ItemsOf (SignAt x) acc acc.size
  toks : ∀ v ∈ acc.toList, TokIn tk v
theorem Signs.next {x : Str} {acc : Array Value} {tk c : Nat} (g : Signs x acc tk) (one : 1 ≤ tk) (sign : x.cps[acc.size]? = some c) : Signs x (acc.push (.str ⟨#[c]⟩ tk)) (tk + 1) where
  items := by
    have z := ItemsOf.push (x := .str ⟨#[c]⟩ tk) g.items ⟨c, tk, sign, rfl⟩
    rwa [Array.size_push]
  toks v m := by
    rw [Array.toList_push] at m
    rcases List.mem_append.mp m with m | m
    · exact (g.toks v m).mono (Nat.le_succ _)
    · rw [List.mem_singleton.mp m]
      exact ⟨_, tk, rfl, one, Nat.lt_succ_self _⟩
theorem text_fill {x : Str} {t : Tok} {S it : Addr} {res : Value} (hh : A.handled = none) (apart : it ≠ S) (hn : x.cps.size ≤ sizeLine) : ∀ (k : Nat) (s : Shared) (acc : Array Value) (c : Nat), x.cps.size ≤ acc.size + k → 1 ≤ s.toks →
    s.heap.IsStrIter it "str_ascii_iterator" x t acc.size → s.heap.get? S = some { cls := .type "list", data := .seq acc c } → Signs x acc s.toks →
      codeAny (model prog w) A (.builtin "list.extend.loop" ⟨[.ref S, .ref it, res], []⟩) (fun r s' => r = .ok (.ret res) ∧ ∃ h' tk acc' c', s' = { s with heap := h', toks := tk } ∧ (∀ b o, b ≠ S → b ≠ it → s.heap.get? b = some o → h'.get? b = some o) ∧
        h'.get? S = some { cls := .type "list", data := .seq acc' c' } ∧ acc'.size = x.cps.size ∧ Signs x acc' tk) s := by
  intro k
  induction k with
  | zero =>
    intro s acc c few one at_ lies g
    refine codeAny_builtin PySem.F.entry_extend_loop ?_
    rw [Around.under_plainId PySem.F.plain_extend_loop _]
    have full : acc.size = x.cps.size := by
      refine Nat.le_antisymm ?_ few
      cases h : acc.size with
      | zero => exact Nat.zero_le _
      | succ n =>
        have last : acc[n]? = some acc[n] := Array.getElem?_eq_getElem (by omega)
        obtain ⟨c', _, e, -⟩ := g.items.2 n _ last
        exact (Array.getElem?_eq_some_iff.mp e).1
    exact wpAny_bind (m := pyNext (.ref it)) (wpAny_pyNext_ascii_end (A := A.in1) hh at_ (Array.getElem?_eq_none (by omega)) fun h' ext => wpAny_pure ⟨rfl, h', s.toks, acc, c, rfl, fun b o _ ne e => ext b o ne e, ext _ _ (Ne.symm apart) lies, full, g⟩)
  | succ k ih =>
    intro s acc c few one at_ lies g
    refine codeAny_builtin PySem.F.entry_extend_loop ?_
    rw [Around.under_plainId PySem.F.plain_extend_loop _]
    cases e : x.cps[acc.size]? with
    | none =>
      have full : acc.size = x.cps.size := by
        have le := Array.getElem?_eq_none_iff.mp e
        refine Nat.le_antisymm ?_ le
        cases h : acc.size with
        | zero => exact Nat.zero_le _
        | succ n =>
          have last : acc[n]? = some acc[n] := Array.getElem?_eq_getElem (by omega)
          obtain ⟨c', _, e', -⟩ := g.items.2 n _ last
          exact (Array.getElem?_eq_some_iff.mp e').1
      exact wpAny_bind (m := pyNext (.ref it)) (wpAny_pyNext_ascii_end (A := A.in1) hh at_ e fun h' ext => wpAny_pure ⟨rfl, h', s.toks, acc, c, rfl, fun b o _ ne q => ext b o ne q, ext _ _ (Ne.symm apart) lies, full, g⟩)
    | some z =>
      have here := (Array.getElem?_eq_some_iff.mp e).1
      refine wpAny_bind (m := pyNext (.ref it)) (wpAny_pyNext_ascii_item at_ e fun h1 at1 same1 => ?_)
      have lies1 := same1.extBut _ _ (Ne.symm apart) lies
      refine wpAny_bind (m := updateSeq S (·.push (.str ⟨#[z]⟩ s.toks))) (wpAny_updateSeq lies1 rfl (wpAny_pure ⟨plainId_quiet PySem.F.plain_extend_loop _, ?_⟩) (by omega) (by show (acc.push _).size ≤ sizeLine + 1; rw [Array.size_push]; omega))
      have off : ∀ b o, b ≠ S → h1.get? b = some o → (h1.update S (Obj.mapSeq (·.push (.str ⟨#[z]⟩ s.toks)))).get? b = some o := fun b o ne q => (Heap.get?_update_other _ _ (Ne.symm ne)).trans q
      have grown : (acc.push (Value.str ⟨#[z]⟩ s.toks)).size = acc.size + 1 := Array.size_push ..
      refine codeAny_mono (ih { s with heap := h1.update S (Obj.mapSeq (·.push (.str ⟨#[z]⟩ s.toks))), toks := s.toks + 1 } (acc.push (.str ⟨#[z]⟩ s.toks)) _ (by omega) (Nat.le_succ_of_le one) ?_ (Heap.get?_update_self _ lies1 rfl) (g.next one e)) fun r s' got => ?_
      · rw [grown]
        obtain ⟨o, q, r⟩ := at1
        exact ⟨o, off _ _ apart q, r⟩
      · obtain ⟨er, h', tk, acc', c', es, keep, rest⟩ := got
        exact ⟨er, h', tk, acc', c', es, fun b o n1 n2 q => keep b o n1 n2 (off b o n1 (same1.extBut b o n2 q)), rest⟩
theorem call_list_strT {Q : Value → Shared → Prop} (hh : A.handled = none) (x : Str) (t : Tok) (ha : x.cps.all (· < 128) = true) (h1t : 1 ≤ s.toks)
    (hQ : ∀ h' tk acc' c', (∀ b o, s.heap.get? b = some o → h'.get? b = some o) → h'.get? s.heap.objs.size = some { cls := .type "list", dict := none, data := .seq acc' c', slots := #[] } → ItemsOf (SignAt x) acc' x.cps.size → (∀ v ∈ acc'.toList, TokIn tk v) → Q (.ref s.heap.objs.size) { s with heap := h', toks := tk })
    (hn : x.cps.size ≤ sizeLine := by size_fits) : wpAny (model prog w) A (call (.type "list") [.str x t]) Q E s := by
  have fresh : ∀ {b : Addr} {o : Obj}, s.heap.get? b = some o → b ≠ s.heap.objs.size := fun e => Nat.ne_of_lt (Heap.lt_size e)
  refine callType_codes (Q₁ := fun obj s1 => obj = .ref s.heap.objs.size ∧ ∃ h1, s1 = { s with heap := h1 } ∧ OnlyNew s.heap.objs.size s.heap h1) PySem.F.called_list (PySem.F.typeCall_list_1 _) PySem.F.entry_list_init
    (code_list_new _ ⟨rfl, _, rfl, ⟨0, Heap.get?_push_size _ rfl⟩, fun b o _ e => Heap.get?_push_of_some _ e⟩) fun obj s1 made => ?_
  obtain ⟨rfl, h1, rfl, on⟩ := made
  refine ⟨let ⟨⟨c1, q⟩, _⟩ := on; ⟨_, q, rfl⟩, PySem.F.args_list_init_2 _ _, list_cleared on fun h2 on2 => ?_⟩
  obtain ⟨⟨c2, lies⟩, keep⟩ := on2
  have inside := Heap.lt_size lies
  have text : ∀ {h : Heap}, ({ s with heap := h } : Shared).TypeIs (.str x t) "str" := rfl
  have other : (Builtin.List.listSameRef (.ref s.heap.objs.size) (.str x t) || Value.type "str" == Value.type "list" || Value.type "str" == Value.type "tuple") = false := rfl
  unfold Builtin.List.listExtendWith
  refine wpAny_bind (wpAny_typeOf (text (h := h2)) ?_)
  simp only [other, Bool.false_eq_true, if_false]
  refine wpAny_bind (wpAny_pyIter_ascii ha (wpAny_bind (wpAny_holding ?_)))
  refine wpAny_bind (m := specialOf (.str x t) "__len__") (wpAny_specialOf text PySem.F.str_len ?_)
  wp_delta
  refine wpAny_bind (wpAny_isInstance (T := "str") (v := .str x t) (b := true) rfl (by rw [isSubtype_type]; kernel_rfl) ?_)
  refine wpAny_bind (m := typeOf (.str x t)) (wpAny_typeOf (T := "str") rfl (wpAny_pure ?_))
  rw [if_neg (by decide)]
  have apart : h2.objs.size ≠ s.heap.objs.size := Nat.ne_of_gt inside
  refine wpAny_pure ⟨plainId_quiet PySem.F.plain_extend_loop _, codeAny_mono (text_fill (A := A.in1) hh apart hn x.cps.size _ #[] c2 (by simp) h1t ⟨_, Heap.get?_push_size _ rfl, rfl, rfl⟩ (Heap.get?_push_of_some _ lies) ⟨ItemsOf.nil _, fun v m => by cases m⟩) fun r s3 got => ?_⟩
  obtain ⟨er, h3, tk, acc, c3, rfl, keep3, lies3, size, g⟩ := got
  subst er
  refine ⟨rfl, hQ h3 tk acc c3 (fun b o e => keep3 b o (fresh e) ?_ (Heap.get?_push_of_some _ (keep b o (fresh e) e))) lies3 (size ▸ g.items) g.toks⟩
  exact Nat.ne_of_lt (Nat.lt_trans (Heap.lt_size e) inside)
end
end DL
namespace DL
open PySem PySem.Spec PyProof.Rows L2
structure PSR (X : Cx) (st : Stmt) (t : L2.St → Hp → (L2.St → Hp → Shared → Prop) → Prop) : Prop where
  run : ∀ (pins : List (Addr × Obj)) (s : Shared) (σ : L2.St) (H : Hp) (Q : L2.St → Hp → Shared → Prop), L2.Inv X pins σ H s → t σ H Q → wpAny (model X.prog X.w) X.A (exec st X.env) (fun fl s' => fl = .next ∧ ∃ σ' H', L2.Inv X pins σ' H' s' ∧ Q σ' H' s') X.xe s
section
variable {X : Cx}
theorem per_listT {z : List Nat} {j : Nat} {q p1 pos : Pos} (hc : X.calm = true) (ha : (⟨z.toArray⟩ : Str).cps.all (· < 128) = true) (hz : z.length ≤ 1000) (hm : X.mg "list" = none) (hg : Gl X "list")
    (he : starEach [(.Constant (.str ⟨z.toArray⟩) j p1 : Expr)] X.env = (false, eval (.Constant (.str ⟨z.toArray⟩) j p1) X.env) :: starEach [] X.env) (hpl : (backTo pos (starEach [] X.env)).any (·.1) = false) :
    PER X (.Call (.Name "list" q) [.Constant (.str ⟨z.toArray⟩) j p1] [] pos) (fun σ H Q => ∀ (p : Addr) (N : Nat) (s' : Shared), H p = none → N ≤ s'.toks → Q (.ref p) (.ref p) (upd H p (RwO N (z.map fun c => .str ⟨#[c]⟩) p)) s') := by
  refine ⟨fun pins s σ H Q I h => ?_⟩
  have hz' : (⟨z.toArray⟩ : Str).cps.size ≤ sizeLine := by
    show z.toArray.size ≤ sizeLine
    rw [sizeLine_eq]
    simp
    omega
  refine wpAny_Call_Name_kw (ld_blt I hg hm (show bootBuiltins "list" = some (.type "list") from rfl) ?_)
  refine PyProof.Rows.callWith_type1 ?_ he hpl
  rw [he]
  show wpAny _ _ (spliced ((false, eval (.Constant (.str ⟨z.toArray⟩) j p1) X.env) :: backTo pos (starEach [] X.env))) _ _ s
  refine Calls.spliced_cons (wpAny_Constant_str (pos := p1) (k := j) (Calls.spliced_nil ?_))
  refine call_list_strT (hn := hz') (I.ok.hd hc) _ _ ha (by show 1 ≤ s.toks + 1; omega) fun h' tk acc' c' hk hS hacc ht => ?_
  have el : acc'.toList.length = z.length := by
    have := hacc.1
    simpa using this
  have hn := I.hok.fresh (Nat.le_refl s.heap.objs.size)
  refine ⟨.ref s.heap.objs.size, upd H s.heap.objs.size (RwO tk (z.map fun c => .str ⟨#[c]⟩) s.heap.objs.size), I.laid hk (Nat.le_refl _) (rwO_ok ⟨acc'.toList, c', ?_, by rw [Array.toArray_toList]; exact hS, ht, ?_⟩), rfl, h _ _ _ hn (Nat.le_refl _)⟩
  · have e : (z.map fun c => V.str ⟨#[c]⟩) = (List.range acc'.toList.length).map fun i => V.str ⟨#[z.getD i 0]⟩ := by
      apply List.ext_getElem?
      intro i
      rw [el]
      by_cases hi : i < z.length
      · simp [hi, List.getElem?_map, List.getElem?_eq_getElem hi]
      · simp [hi, List.getElem?_eq_none (Nat.le_of_not_lt hi)]
    rw [e]
    refine L2.vals_of_get acc'.toList _ fun i u hu => ?_
    obtain ⟨c, t, hx, rfl⟩ := hacc.2 i u (by rw [← Array.getElem?_toList]; exact hu)
    have hx' : z[i]? = some c := by simpa using hx
    refine ⟨t, ?_⟩
    rw [List.getD_eq_getElem?_getD, hx']
    rfl
  · rw [List.length_map, sizeLine_eq]; omega
theorem pe_nilR {pos : Pos} : PE X (.List [] pos) (fun σ H Q => ∃ N, ∀ p, H p = none → Q (.ref p) (upd H p (RwO N [] p))) := by
  refine ⟨fun pins s σ H Q I ⟨N, hq⟩ => ?_⟩
  refine wpAny_List_spliced (Calls.spliced_nil ⟨Nat.zero_le _, ?_⟩)
  have hf : H s.heap.objs.size = none := I.hok.fresh (Nat.le_refl _)
  refine ⟨.ref s.heap.objs.size, upd H s.heap.objs.size (RwO N [] s.heap.objs.size), I.laid (t' := s.toks) (fun b u e => Heap.get?_push_of_some _ e) (Nat.le_refl _) (rwO_ok ⟨[], 0, .nil, Heap.get?_push_size _ rfl, fun u m => (by cases m), Nat.zero_le _⟩), rfl, hq _ hf⟩
theorem ps_parR {i j : Nat} {x y : Str} {a b : Expr} {ta : L2.St → Hp → RK → Prop} {tb : TE} {px py pt : Pos} {kt k2 : Nat} {pt2 pos : Pos} (hc : X.calm = true) (hN : X.N.Nodup) (hi : X.N[i]? = some x) (hj : X.N[j]? = some y) (hij : i ≠ j)
    (hx : X.env.scope.names.lookup x = some .local) (hy : X.env.scope.names.lookup y = some .local) (h1 : PER X a ta) (h2 : PE X b tb)
    (hw : swappedStores [.Tuple [.Name x px, .Name y py] kt pt] (.Tuple [a, b] k2 pt2) X.env = pure (some [x, y]))
    (hs : swapsWithSole [.Tuple [.Name x px, .Name y py] kt pt] (.Tuple [a, b] k2 pt2) pos.line X.env = pure false)
    (e2 : starEach [a, b] X.env = (false, eval a X.env) :: starEach [b] X.env) (e1 : starEach [b] X.env = (false, eval b X.env) :: starEach [] X.env) :
    PSR X (.Assign [.Tuple [.Name x px, .Name y py] kt pt] (.Tuple [a, b] k2 pt2) pos) (fun σ H Q => ta σ H fun v u H1 s1 => tb σ H1 fun w H2 => ∀ s', s1.toks ≤ s'.toks → Q ((σ.set i (some v)).set j (some w)) H2 s') := by
  refine ⟨fun pins s σ H Q I h => ?_⟩
  rw [exec_Assign_arm]
  refine wpAny_bind (wpAny_standAt ?_)
  rw [hs]
  refine wpAny_bind (wpAny_pure ?_)
  rw [if_neg (by decide)]
  refine wpAny_bind (Tuple_ ?_)
  rw [e2]
  show wpAny _ _ (spliced ((false, eval a X.env) :: backTo _ (starEach [b] X.env))) _ _ s
  refine Calls.spliced_cons (thn (h1.run pins s σ H _ I h) fun u1 s1 ⟨v, H1, I1, rv, q1⟩ => ?_)
  rw [e1]
  show wpAny _ _ (spliced ((false, eval b X.env) :: backTo _ (starEach [] X.env))) _ _ s1
  refine Calls.spliced_cons (wpAny_with_toks (Nat.le_refl s1.toks) (wpAny_mono (h2.run pins s1 σ H1 _ I1 q1) (fun u2 s2 hh le2 => Calls.spliced_nil ?_) fun e s' x _ => x))
  obtain ⟨w, H2, I2, rw', q2⟩ := hh
  refine wpAny_newObj_type ?_ (by show 2 ≤ sizeLine; decide)
  have I3 : L2.Inv X pins σ H2 { s2 with heap := s2.heap.push { cls := .type "tuple", data := .seq [u1, u2].toArray } } := I2.kept (t' := s2.toks) fun b o e => Heap.get?_push_of_some _ e
  rw [hw]
  refine wpAny_bind (wpAny_pure ?_)
  refine wpAny_with_toks (n := s1.toks) le2 ?_
  show wpAny (model X.prog X.w) X.A (do rule "assign.swapped-stores"; let items ← unpackItems (.ref s2.heap.objs.size) 2 none; assignInOrder [fun v => bindName X.env y v, fun v => bindName X.env x v] items.reverse; pure Flow.next) _ _ _
  refine wpAny_bind (wpAny_rule (wpAny_bind (unpackItems_tuple (items := #[u1, u2]) (I.ok.hd hc) (IsTup.new s2.heap _) fun h' hx' => ?_)))
  have I4 := I3.kept (h' := h') (t' := s2.toks) fun b o e => hx' b o (Nat.ne_of_lt (Heap.lt_size e)) e
  show wpAny _ _ (assignInOrder [fun v => bindName X.env y v, fun v => bindName X.env x v] [u2, u1] >>= fun _ => pure Flow.next) _ _ _
  refine wpAny_bind (assignInOrder_cons (wpAny_bindName (store_ok I4 hN hj (.inl hy) rw' (fun s3 I5 => ?_) (.inr hy))))
  refine assignInOrder_cons (wpAny_bindName (store_ok I5 hN hi (.inl hx) rv (fun s4 I6 => assignInOrder_nil (wpAny_pure fun le => ?_)) (.inr hx)))
  rw [List.set_comm _ _ (Ne.symm hij)] at I6
  exact ⟨rfl, _, H2, I6, q2 s4 le⟩
end
end DL
namespace DL
open PySem PySem.Spec PyProof.Rows L2
section
variable {X : Cx} {fx : Fx} {m : Type → Type} [Mo m] {α β : Type} {G : List Sl} {kk N : Nat} {n nl : Str} {np nlp p ap apos cpos cpos1 pos : Pos} {c : Expr} {rest : List Stmt} {ex : α → List Sl} {exb : β → List Sl} {x : m D} {ds es : List D} {k : D × List D → List D → m (Fl α β)} [DL.TC]
theorem wp_lenT {ds : List D} {s : S} {Q : D → S → Prop} {E : Exn → S → Prop} (h : Mo.wp (do let w ← Mo.noex (do let r ← (do let x ← (pure (D.lst ds) : m D); let r0 ← (pure [] : m (List D)); pure (x :: r0)); DL.ask (lenD r)); DL.ask (flatD w) : m D) s Q E) : Q (.int ds.length) s := by
  have h1 := Mo.wp_noex (Mo.wp_bind h)
  have h2 := Mo.wp_pure (Mo.wp_bind (Mo.wp_bind h1))
  have h3 := Mo.wp_pure (Mo.wp_pure (Mo.wp_bind h2))
  have h4 := Mo.wp_lift h3
  have h5 := Mo.wp_lift h4
  exact h5
theorem de_rwLen (i : Nat) (hm : X.mg "len" = none) (hG : G[i]? = some (.rw N ds) := by rfl) (hN : X.N[i]? = some n := by rfl) (hv : Vis X.env.scope n := by first | exact Or.inl rfl | exact Or.inr (Or.inl rfl) | exact Or.inr (Or.inr rfl)) (hd : (n == ("__debug__" : Str)) = false := by decide) (hcd : (n == ("__classdict__" : Str)) = false := by decide) (hg : Gl X "len" := by rfl)
    (hs : starEach [(.Name n np : Expr)] X.env = (false, eval (.Name n np) X.env) :: starEach [] X.env := by rfl) (hpl : (backTo pos (starEach [] X.env)).any (·.1) = false := by rfl) :
    PE X (.Call (.Name "len" p) [.Name n np] [] pos) (tE X.K X.mg fx G (do let w ← Mo.noex (do let r ← (do let x ← (pure (D.lst ds) : m D); let r0 ← (pure [] : m (List D)); pure (x :: r0)); DL.ask (lenD r)); DL.ask (flatD w))) :=
  peI (pe_callB cr_lenR hg hm rfl (pa_cons (pe_var (pos := np) hN hv hd hcd) pa_nil hs) (by decide) (by decide) hs hpl) fun σ H Q ⟨Hf, s, st, w⟩ => by
    obtain ⟨q, vs, eq, hq, hf, h0, nb, l⟩ := st.sl i _ hG
    have w' := wp_lenT w
    refine ⟨.ref q, eq, q, N, vs, rfl, hq, ?_⟩
    rw [← l.len]
    exact w' _ Hf H (.refl st.top) st.bag (is_int _)
theorem dss_rwApp (i j : Nat) (hij : i ≠ j := by decide) (hc : PE X c (tE X.K X.mg fx G x)) (hr : ∀ (r : D × List D) es, PSs X rest (tS X.K X.mg fx ((G.set i (.rw N r.2)).set j (.rw N es)) ex exb (k r es)))
    (hGi : G[i]? = some (.rw N ds) := by rfl) (hGj : G[j]? = some (.rw N es) := by rfl)
    (hNi : X.N[i]? = some nl := by rfl) (hvi : Vis X.env.scope nl := by first | exact Or.inl rfl | exact Or.inr (Or.inl rfl) | exact Or.inr (Or.inr rfl)) (hdi : (nl == ("__debug__" : Str)) = false := by decide) (hcdi : (nl == ("__classdict__" : Str)) = false := by decide)
    (hNj : X.N[j]? = some n := by rfl) (hvj : Vis X.env.scope n := by first | exact Or.inl rfl | exact Or.inr (Or.inl rfl) | exact Or.inr (Or.inr rfl)) (hdj : (n == ("__debug__" : Str)) = false := by decide) (hcdj : (n == ("__classdict__" : Str)) = false := by decide)
    (hst : starEach [c] X.env = [(false, eval c X.env)] := by rfl) (hbase : attributeBase (.Name nl nlp) "pop" X.env (eval (.Name nl nlp) X.env) = eval (.Name nl nlp) X.env := by rfl)
    (hfew : ((backTo cpos1 (starEach [c] X.env)).all (fun x => !x.1) && (backToKw cpos1 (keywordEach [] X.env)).all (fun x => x.1.isSome) && decide ([c].length + ([] : List Keyword).length + (if ([] : List Keyword).isEmpty then 0 else 1) < 30)) = true := by rfl)
    (hline : (ap.endLine == cpos1.line) = true := by rfl) (hplain : (backTo cpos1 (starEach [] X.env)).any (·.1) = false := by rfl)
    (hst2 : starEach [(.Call (.Attribute (.Name nl nlp) "pop" ap) [c] [] cpos1 : Expr)] X.env = [(false, eval (.Call (.Attribute (.Name nl nlp) "pop" ap) [c] [] cpos1) X.env)] := by rfl) (hbase2 : attributeBase (.Name n np) "append" X.env (eval (.Name n np) X.env) = eval (.Name n np) X.env := by rfl)
    (hfew2 : ((backTo cpos (starEach [(.Call (.Attribute (.Name nl nlp) "pop" ap) [c] [] cpos1 : Expr)] X.env)).all (fun x => !x.1) && (backToKw cpos (keywordEach [] X.env)).all (fun x => x.1.isSome) && decide ([(.Call (.Attribute (.Name nl nlp) "pop" ap) [c] [] cpos1 : Expr)].length + ([] : List Keyword).length + (if ([] : List Keyword).isEmpty then 0 else 1) < 30)) = true := by rfl)
    (hline2 : (apos.endLine == cpos.line) = true := by rfl) (hplain2 : (backTo cpos (starEach [] X.env)).any (·.1) = false := by rfl)
    (hs : swapsWith (.Call (.Attribute (.Name n np) "append" apos) [.Call (.Attribute (.Name nl nlp) "pop" ap) [c] [] cpos1] [] cpos) none pos.line X.env = pure false := by rfl) (hg : GxOk fx G := by first | exact True.intro | repeat' (first | exact True.intro | exact Or.inl rfl | exact Or.inr rfl | refine And.intro ?_ ?_)) :
    PSs X (.Expr (.Call (.Attribute (.Name n np) "append" apos) [.Call (.Attribute (.Name nl nlp) "pop" ap) [c] [] cpos1] [] cpos) pos :: rest) (tS X.K X.mg fx G ex exb (do let r ← (do let j ← x; DL.ask (popI ds j)); let es ← DL.ask (apd es r.1); k r es)) :=
  pssI (pss_cons (ps_appendR (per_pop hc hNi hvi hdi hcdi hst hbase hfew hline hplain) hNj hvj hdj hcdj hst2 hbase2 hfew2 hline2 hplain2 hs) (pss_ex (ι := (D × List D) × List D) fun r => hr r.1 r.2)) fun De σ H ⟨Hf, s, h⟩ => by
    obtain ⟨li, vi, ei, hi, fi, h0i, nbi, lli⟩ := h.1.sl i _ hGi
    obtain ⟨lj, vj, ej, hj, fj, h0j, nbj, llj⟩ := h.1.sl j _ hGj
    have ne : li ≠ lj := fun z => h.1.dis i j _ _ li hij hGi hGj rfl rfl ei (by rw [z]; exact ej)
    refine ⟨lj, N, vj, ej, hj, li, N, vi, ei, hi, Hf, s, h.1, Mo.wp_mono (Mo.wp_bind (Mo.wp_bind h.2)) (fun t s1 w v Hf1 H1 e1 bg1 r1 => ?_) fun e s' k => exs_ex hg k⟩
    have st1 := h.1.step e1 bg1
    obtain ⟨li1, vi1, ei1, hi1, fi1, h0i1, nbi1, lli1⟩ := st1.sl i _ hGi
    obtain ⟨lj1, vj1, ej1, hj1, fj1, h0j1, nbj1, llj1⟩ := st1.sl j _ hGj
    have q1 : li1 = li := by rw [ei] at ei1; cases ei1; rfl
    have q2 : lj1 = lj := by rw [ej] at ej1; cases ej1; rfl
    subst q1 q2
    have k' := Mo.wp_lift w
    unfold popI at k'
    cases t with
    | int t =>
      cases r1
      cases q : ixN ds.length t with
      | none => exact absurd k' (by simp [q])
      | some z =>
        have hlt := ixN_lt q
        obtain ⟨hsq, _, hb1, hb2⟩ := ixN_seq q
        have ed : ds[z]? = some ds[z] := List.getElem?_eq_getElem hlt
        simp only [q, ed, Option.map_some] at k'
        obtain ⟨w', hw', iw⟩ := lli1.get ed
        have hs2 : (sizeLine : Nat) = 16777216 := sizeLine_eq
        have k2 := Mo.wp_lift (Mo.wp_bind k')
        by_cases cc : es.length < sizeLine
        · have ea : apd es ds[z] = some (es ++ [ds[z]]) := if_pos cc
          rw [ea] at k2
          refine ⟨vi1, t, z, w', rfl, hi1, (fun hz => by have := lli1.len; constructor <;> omega), by rw [← lli1.len]; exact hsq, hw', fun u s' tk => ⟨vj1, by rw [upd_ne (Ne.symm ne)]; exact hj1, tk, by rw [← llj1.len]; exact cc, ?_⟩⟩
          have st2 := st1.updAt (i := i) (u := RwO N (vi1.eraseIdx z) li1) (x' := .rw N (ds.eraseIdx z)) hGi rfl ei rfl ⟨li1, vi1.eraseIdx z, rfl, upd_same, fi1, h0i1, nbi1, lli1.eraseIdx z⟩
          have hG2 : (G.set i (.rw N (ds.eraseIdx z)))[j]? = some (.rw N es) := by rw [List.getElem?_set_ne hij]; exact hGj
          have st3 := st2.updAt (i := j) (u := RwO N (vj1 ++ [w']) lj1) (x' := .rw N (es ++ [ds[z]])) hG2 rfl ej rfl ⟨lj1, vj1 ++ [w'], rfl, upd_same, fj1, h0j1, nbj1, llj1.app (.cons iw .nil)⟩
          exact ⟨((ds[z], ds.eraseIdx z), es ++ [ds[z]]), Hf1, s1, st3, Mo.wp_mono k2 (fun f s2 h2 => h2.up e1.sub) fun e s' k => k⟩
        · have ea : apd es ds[z] = none := if_neg cc
          rw [ea] at k2
          exact k2.elim
    | _ => exact k'.elim
end
end DL
namespace DL
open PySem PySem.Spec PyProof.Rows L2
def CRS (outer : List Env) (P : Program) (w : World) (H : Hp) (s : Shared) (Q : V → Hp → Shared → Prop) (r : Result) (s' : Shared) : Prop :=
  ∃ u v H', r = .ok (.ret u) ∧ s'.os = s.os ∧ AllBare s'.gens ∧ Un (frs outer) [] H H' s.heap s'.heap ∧ HOk P w H' s'.heap ∧ RelV v u ∧ Q v H' s'
section
variable {P : Program} {w : World} {K : PySem.W.Frag} {mg : Str → Option Value} {base : Heap} [DL.TC]
theorem fn_gS {x qual : Str} {st : Stmt} {f : Addr} {fd : FuncData} {N ps : List Str} {k : Nat} (F : Fun K x qual st f fd) (Sc : FnScope N ps (defScope st)) {A : Around} {outer : List Env} {s : Shared} {H : Hp} {args : Args} {us : List Value} {vs : List V} {Q : V → Hp → Shared → Prop}
    (gd : A.guards = some []) (hr : Room (k + 1) A) (e0 : Env0 P w K mg base A outer s H) (hb : BindsTo s fd args (ps.zip us)) (r : Vals vs us) (hlen : vs.length = ps.length)
    (hbody : ∀ (cdv : Value) (s1 : Shared), Room k (A.deeper (envOfC qual (defScope st) s.heap.objs.size f cdv)) → s.toks ≤ s1.toks → L2.Inv (cxOf (CXm P w mg) P w K mg base N qual (defScope st) f cdv A outer s H fun _ _ _ => False) [] (start N vs) H s1 →
      wpAny (model P w) (cxOf (CXm P w mg) P w K mg base N qual (defScope st) f cdv A outer s H fun _ _ _ => False).A (execs (defBody st) (cxOf (CXm P w mg) P w K mg base N qual (defScope st) f cdv A outer s H fun _ _ _ => False).env)
        (fun fl s' => ∃ u v σ' H', fl = .ret u ∧ L2.Inv (cxOf (CXm P w mg) P w K mg base N qual (defScope st) f cdv A outer s H fun _ _ _ => False) [] σ' H' s' ∧ RelV v u ∧ Q v H' s') (cxOf (CXm P w mg) P w K mg base N qual (defScope st) f cdv A outer s H fun _ _ _ => False).xe s1) :
    codeAny (model P w) A (.call (.ref f) args) (CRS outer P w H s Q) s := by
  obtain ⟨oc, od, kV, doc, pm, an, cdv, ct, osl, rfl, lk, hcd⟩ := F.ex
  have kp := fun b o e => (e0.bs b o e).1
  have hk : ∀ y ∈ ps.zip us, (defScope st).names.lookup y.1 = some .local ∨ ((defScope st).names.lookup y.1 = some .cell ∧ ((cellsFrom (s.heap.objs.size + 1) (defScope st).names []).lookup y.1).isSome = true) := fun y hy =>
    (Sc.par y.1 (List.of_mem_zip (a := y.1) (b := y.2) hy).1).imp (fun q => q) fun q => ⟨q, PySem.W.cellsFrom_some _ _ _ (.inl q)⟩
  refine codeAny_call_function hr.depth (e0.mod.kin.keeps kp _ _ lk) rfl Sc.co Sc.gen rfl (PySem.W.codeRec_of (e0.mod.kin.keeps kp) hcd) (hb _ _ _ _ (wpAny_with_toks (n := s.toks) (Nat.le_refl _) (wpAny_newFunctionEnv_cells Sc.kind hk fun env he s1 x le => ?_)))
  subst he
  have I : L2.Inv (cxOf (CXm P w mg) P w K mg base N qual (defScope st) f cdv A outer s H fun _ _ _ => False) [] (start N vs) H s1 := inv_start Sc hr.hd e0 hlen r x
  refine ⟨(e0.mod.nolimit.keeps kp).keeps x.toInCall.keep, codeAny_func (wpAny_mono (hbody cdv s1 (hr.deeper _) le I) (fun fl s' hs => ?_) fun e s' hs => ?_)⟩
  · obtain ⟨u, v, σ', H', rfl, J, rv, q⟩ := hs
    exact ⟨u, v, H', rfl, J.os, J.bare, J.base, J.hok, rv, q⟩
  · exact wpAny_mono hs (fun _ s2 h => (ex_false h).elim) fun e2 s2 h => (ex_false h).elim
end
end DL
namespace DL
open PySem PySem.Spec PyProof.Rows L2
def sgn (x : M (Fl (List D × List D) Empty)) : M D := fun S => match x S with
  | .ok (.nx q) S' => .ok (.lst q.2) S'
  | _ => .stuck
section
variable (P : Program) (w : World) (K : PySem.W.Frag) (mg : Str → Option Value) (base : Heap) [DL.TC]
def FnSg (k : Nat) (f : Addr) (fd : FuncData) (ps : List Str) (g : D → M D) : Prop :=
  ∀ (A : Around) (outer : List Env) (s : Shared) (H Hf : Hp) (args : Args) (us : List Value) (bag : List Addr) (b : Addr) (r : List Addr) (S0 : S) (vm : V) (dm : D) (Q : V → Hp → Shared → Prop), A.guards = some [] → Room k A → Env0 P w K mg base A outer s H → BindsTo s fd args (ps.zip us) → Vals [.ref b, vm] us → bag = b :: r →
    SubT Hf H → (∀ b ∈ bag, Hf b = none ∧ H b ≠ none) → BagAt bag H S0 → Is K mg Hf dm vm → (match g dm S0 with
      | .ok (.lst ds) S' => ∀ (p : Addr) (N : Nat) (vs : List V) (Hf' H' : Hp) (s' : Shared), Ste bag Hf H Hf' H' → BagAt bag H' S' → Hf' p = some (RwO N vs p) → IsL K mg Hf' ds vs → N ≤ s'.toks → Q (.ref p) H' s'
      | _ => False) → codeAny (model P w) A (.call (.ref f) args) (CRS outer P w H s Q) s
end
end DL
namespace DL
open PySem PySem.Spec PyProof.Rows L2
section
variable {P : Program} {w : World} {K : PySem.W.Frag} {mg : Str → Option Value} {base : Heap} [DL.TC]
theorem fnSg {x qual : Str} {st sF : Stmt} {f : Addr} {fd : FuncData} {N ps : List Str} {k : Nat} {nx ny : Str} {z : List Nat} {px py pt q p1 lp np ry rp pt2 pos : Pos} {kt k2 j0 : Nat} {xF : D → M (Fl (List D × List D) Empty)} {exl : Nat → D → List D × List D → List Sl} [hw : WOk w]
    (F : Fun K x qual st f fd) (Sc : FnScope N ps (defScope st)) (hps : ps.length = 2) (hN2 : 2 ≤ N.length) (i j : Nat) (hij : i ≠ j)
    (hb0 : defBody st = [.Assign [.Tuple [.Name nx px, .Name ny py] kt pt] (.Tuple [.Call (.Name "list" q) [.Constant (.str ⟨z.toArray⟩) j0 p1] [] lp, .List [] np] k2 pt2) pos, sF, .Return (some (.Name ny ry)) rp])
    (hml : mg "list" = none) (ha : (⟨z.toArray⟩ : Str).cps.all (· < 128) = true) (hz : z.length ≤ 1000)
    (hNi : N[i]? = some nx) (hNj : N[j]? = some ny) (hxi : (defScope st).names.lookup nx = some .local) (hxj : (defScope st).names.lookup ny = some .local) (hiN : 2 ≤ i) (hjN : 2 ≤ j)
    (hX : ∀ env : Env, env.scope = defScope st → (∀ X : Cx, X.env = env → Gl X "list") ∧ swapsWithSole [.Tuple [.Name nx px, .Name ny py] kt pt] (.Tuple [.Call (.Name "list" q) [.Constant (.str ⟨z.toArray⟩) j0 p1] [] lp, .List [] np] k2 pt2) pos.line env = pure false ∧ swappedStores [.Tuple [.Name nx px, .Name ny py] kt pt] (.Tuple [.Call (.Name "list" q) [.Constant (.str ⟨z.toArray⟩) j0 p1] [] lp, .List [] np] k2 pt2) env = pure (some [nx, ny]))
    (hd : (ny == ("__debug__" : Str)) = false) (hcd : (ny == ("__classdict__" : Str)) = false)
    (hF : ∀ (cdv : Value) (A : Around) (outer : List Env) (s : Shared) (H Hf : Hp) (bag : List Addr) (Nn : Nat) (dm : D), Cok (cxOf (CXm P w mg) P w K mg base N qual (defScope st) f cdv A outer s H fun _ _ _ => False) (fxE bag false H Hf fun _ _ _ => False) k →
      PSs (cxOf (CXm P w mg) P w K mg base N qual (defScope st) f cdv A outer s H fun _ _ _ => False) [sF] (tS K mg (fxE bag false H Hf fun _ _ _ => False) (((G1 N [dm]).set i (.rw Nn (chrs z))).set j (.rw Nn [])) (exl Nn dm) Empty.elim (xF dm)))
    (hex : ∀ Nn dm q, (exl Nn dm q)[j]? = some (.rw Nn q.2)) :
    FnSg P w K mg base (k + 1) f fd ps (fun dm => sgn (xF dm)) := by
  intro A outer s H Hf args us bag b r S0 vm dm Q gd hr e0 hb rr eb sb hbb bg im hq
  refine fn_gS F Sc gd hr e0 hb rr (by rw [hps]; rfl) fun cdv s1 hr1 le I => ?_
  have C : Cok (cxOf (CXm P w mg) P w K mg base N qual (defScope st) f cdv A outer s H fun _ _ _ => False) (fxE bag false H Hf fun _ _ _ => False) k := ⟨rfl, fun _ => passes_of rfl, takes_of rfl rfl rfl rfl, hr1, Sc.nd, gd, hw.e⟩
  have hFF := hF cdv A outer s H Hf bag
  have hXX := hX (cxOf (CXm P w mg) P w K mg base N qual (defScope st) f cdv A outer s H fun _ _ _ => False).env rfl
  have st0 : StS K mg (fxE bag false H Hf fun _ _ _ => False) Hf H (start N [.ref b, vm]) (G1 N [dm]) S0 := .init1 eb sb hbb bg (.cons im .nil) (by simpa using hN2)
  generalize hXe : cxOf (CXm P w mg) P w K mg base N qual (defScope st) f cdv A outer s H (fun _ _ _ => False) = X at I C hFF hXX ⊢
  have eN : X.N = N := by rw [← hXe]; rfl
  have eK : X.K = K := by rw [← hXe]; rfl
  have em : X.mg = mg := by rw [← hXe]; rfl
  have eP : X.prog = P := by rw [← hXe]; rfl
  have ew : X.w = w := by rw [← hXe]; rfl
  have es : X.env.scope = defScope st := by rw [← hXe]; rfl
  rw [hb0]
  have hvj : X.env.scope.names.lookup ny = some .local := by rw [es]; exact hxj
  have gdX := C.gd
  rw [show model P w = model X.prog X.w by rw [eP, ew]]
  have hq' : ∃ qq S', xF dm S0 = .ok (.nx qq) S' ∧ ∀ (p : Addr) (N : Nat) (vs : List V) (Hf' H' : Hp) (s' : Shared), Ste bag Hf H Hf' H' → BagAt bag H' S' → Hf' p = some (RwO N vs p) → IsL K mg Hf' qq.2 vs → N ≤ s'.toks → Q (.ref p) H' s' := by
    have hq : (match (match xF dm S0 with | MO.ok (Fl.nx q) S' => MO.ok (D.lst q.2) S' | _ => MO.stuck) with
      | .ok (.lst ds) S' => ∀ (p : Addr) (N : Nat) (vs : List V) (Hf' H' : Hp) (s' : Shared), Ste bag Hf H Hf' H' → BagAt bag H' S' → Hf' p = some (RwO N vs p) → IsL K mg Hf' ds vs → N ≤ s'.toks → Q (.ref p) H' s'
      | _ => False) := hq
    cases hx : xF dm S0 with
    | ok fl S' =>
      cases fl with
      | nx qq => rw [hx] at hq; exact ⟨qq, S', rfl, hq⟩
      | rt d => rw [hx] at hq; exact hq.elim
      | bk e => exact e.elim
      | ct e => exact e.elim
    | ex e S' => rw [hx] at hq; exact hq.elim
    | stuck => rw [hx] at hq; exact hq.elim
  obtain ⟨qq, S1, hxF, hq'⟩ := hq'
  refine wpAny_execs_cons (thn ((ps_parR (i := i) (j := j) C.calm C.nd (by rw [eN]; exact hNi) (by rw [eN]; exact hNj) hij (by rw [es]; exact hxi) hvj (per_listT C.calm ha hz (by rw [em]; exact hml) (hXX.1 X rfl) rfl rfl) pe_nilR hXX.2.2 hXX.2.1 rfl rfl).run [] s1 _ H
    (fun σ' H' s' => ∃ p p2 Nn, σ' = ((start N [.ref b, vm]).set i (some (.ref p))).set j (some (.ref p2)) ∧ H p = none ∧ (upd H p (RwO Nn (z.map fun c => .str ⟨#[c]⟩) p)) p2 = none ∧ H' = upd (upd H p (RwO Nn (z.map fun c => .str ⟨#[c]⟩) p)) p2 (RwO Nn [] p2) ∧ Nn ≤ s'.toks) I
    fun p Nn s2 hp hn => ⟨Nn, fun p2 hp2 s3 le3 => ⟨p, p2, Nn, rfl, hp, hp2, rfl, Nat.le_trans hn le3⟩⟩) fun fl s2 hh => ?_)
  obtain ⟨rfl, σ2, H2, I2, p, p2, Nn, rfl, hp, hp2, rfl, hn2⟩ := hh
  have n1 := st0.new0 hp
  have t1 : Ste [] Hf H Hf (upd H p (RwO Nn (z.map fun c => .str ⟨#[c]⟩) p)) := .new' st0.top hp
  have st1 := (st0.step t1.wide (t1.bag bg)).setNew (i := i) (x0 := .rw Nn (chrs z)) (p := p) (st0.owNe hp) rfl ⟨p, _, rfl, upd_same, n1.2.2, n1.1, n1.2.1, isL_chrs z⟩
  have n2 := st1.new0 hp2
  have t2 : Ste [] Hf (upd H p (RwO Nn (z.map fun c => .str ⟨#[c]⟩) p)) Hf (upd (upd H p (RwO Nn (z.map fun c => .str ⟨#[c]⟩) p)) p2 (RwO Nn [] p2)) := .new' st1.top hp2
  have st2 := (st1.step t2.wide (t2.bag (t1.bag bg))).setNew (i := j) (x0 := .rw Nn []) (p := p2) (st1.owNe hp2) rfl ⟨p2, _, rfl, upd_same, n2.2.2, n2.1, n2.2.1, .nil⟩
  refine wpAny_execs_cons (wpAny_with_toks (Nat.le_refl s2.toks) (wpAny_mono ((ps_of_one (hFF Nn dm C)).run [] s2 _ _ { nx := fun σ' H' => ∃ Hf', StS K mg (fxE bag false H Hf fun _ _ _ => False) Hf' H' σ' (exl Nn dm qq) S1, rt := fun _ _ => False } I2 ⟨Hf, S0, st2, ?_⟩) (fun fl s3 hh le3 => ?_) fun e s' x _ => x))
  · show (xF dm S0).wp _ _
    rw [hxF]
    exact fun Hf' H' σ' _ st => ⟨Hf', st⟩
  cases fl with
  | next =>
    obtain ⟨σ3, H3, I3, Hf3, st3⟩ := hh
    obtain ⟨p3, vs3, e3, hp3, hf3, h03, nb3, l3⟩ := st3.sl j _ (hex Nn dm qq)
    refine wpAny_execs_cons (wpAny_with_toks (Nat.le_refl s3.toks) (wpAny_mono ((ps_ret (pe_var (i := j) (by rw [eN]; exact hNj) (Or.inl hvj) hd hcd)).run [] s3 _ _ { nx := fun _ _ => False, rt := fun v H' => v = .ref p3 ∧ H' = H3 } I3 ⟨.ref p3, e3, rfl, rfl⟩) (fun fl s4 hh le4 => ?_) fun e s' x _ => x))
    cases fl with
    | ret u =>
      obtain ⟨v, σ4, H4, I4, rv, rfl, rfl⟩ := hh
      refine ⟨u, _, σ4, _, rfl, I4, rv, hq' p3 Nn vs3 (upd Hf3 p3 (RwO Nn vs3 p3)) _ s4 ?_ st3.bag upd_same (l3.mono ?_) (Nat.le_trans hn2 (Nat.le_trans le3 le4))⟩
      · have sb : Sub Hf3 (upd Hf3 p3 (RwO Nn vs3 p3)) := fun a o z => by
          have ne : a ≠ p3 := fun y => by rw [y, hf3] at z; cases z
          rw [upd_ne ne]; exact z
        refine ⟨st3.ste.sub.trans sb, fun a o z => ?_, st3.ste.keep, st3.ste.dom, fun a o z => ?_, st3.ste.tab⟩
        · by_cases c : a = p3
          · subst c; rw [upd_same] at z; cases z; exact hp3
          · rw [upd_ne c] at z; exact st3.top a o z
        · by_cases c : a = p3
          · subst c; exact .inr h03
          · rw [upd_ne c] at z; exact st3.ste.fresh a o z
      · exact fun a o z => by
          have ne : a ≠ p3 := fun y => by rw [y, hf3] at z; cases z
          rw [upd_ne ne]; exact z
    | next => obtain ⟨_, _, _, h⟩ := hh; exact h.elim
    | brk => obtain ⟨_, _, _, h⟩ := hh; exact h.elim
    | cont => obtain ⟨_, _, _, h⟩ := hh; exact h.elim
  | ret u => obtain ⟨_, _, _, _, _, h⟩ := hh; exact h.elim
  | brk => obtain ⟨_, _, _, h⟩ := hh; exact h.elim
  | cont => obtain ⟨_, _, _, h⟩ := hh; exact h.elim
end
end DL
namespace DL
open PySem PySem.Spec PyProof.Rows L2
section
variable {X : Cx} {b : Expr} {tb : TE} {i : Nat} {n : Str} {np pos : Pos}
theorem per_item (hb : PE X b tb) (hN : X.N[i]? = some n) (hv : Vis X.env.scope n) (hd : (n == ("__debug__" : Str)) = false) (hcd : (n == ("__classdict__" : Str)) = false) (hs : PlainIx b) :
    PER X (.Subscript (.Name n np) b pos) (fun σ H Q => ∃ l N vs, σ[i]? = some (some (.ref l)) ∧ tb σ H (fun v1 H1 => ∃ j y, v1 = .int j ∧ H1 l = some (RwO N vs l) ∧ L2.atI vs j = some y ∧ ∀ u s', TokIn N u → Q y u H1 s')) := by
  refine ⟨fun pins s σ H Q I ⟨l, N, vs, el, h⟩ => Subscript_ ?_⟩
  refine thn ((pe_var (pos := np) hN hv hd hcd).run pins s σ H (fun v H1 => v = .ref l ∧ H1 = H) I ⟨.ref l, el, rfl, rfl⟩) fun v s1 ⟨x, H1, I1, r1, ex, eH⟩ => ?_
  subst ex
  subst eH
  have hr : v = .ref l := r1
  subst hr
  refine thn (hb.run pins s1 σ H1 _ I1 h) fun u s2 ⟨y2, H2, I2, r2, q2⟩ => ?_
  obtain ⟨j, y, rfl, hH, he, q⟩ := q2
  obtain ⟨t, rfl⟩ := r2
  obtain ⟨its, n0, r, e, ht, hz⟩ := rwP_of I2 hH
  obtain ⟨k, h1, h2, h3, h4, h5⟩ := atI_get he
  obtain ⟨w, ew, rw'⟩ := r.get h2
  have hl := r.length
  have hn := line63
  have pl : s2.heap.IsList l its.toArray := ⟨_, e, rfl, n0, rfl⟩
  have fin : ER X pins σ Q w s2 := ⟨y, H2, I2, rw', q w s2 (ht w (List.mem_of_getElem? ew))⟩
  by_cases h0 : 0 ≤ j
  · have hj : j.toNat = k := by
      rw [seqIndex_of h0 h5] at h1
      exact Option.some.inj h1
    exact item_listR pl h0 (by omega) (by rw [hj]; simpa using ew) fin (hs _ _)
  · have hj : (j + (its.toArray.size : Int)).toNat = k := by
      rw [seqIndex_neg (by omega) h4] at h1
      rw [List.size_toArray, ← hl]
      exact Option.some.inj h1
    exact subscriptTail_builtinR (x := w) pl.typeIs slot_list_getitem.lookup
      (wpAny_getItem_list_neg (Q := fun r s' => r = w ∧ ER X pins σ Q r s') pl (by omega) (by rw [List.size_toArray] <;> omega) (by omega) (by rw [hj]; simpa using ew) ⟨rfl, fin⟩) (hs _ _)
end
section
variable {X : Cx} {fx : Fx} {m : Type → Type} [Mo m] {G : List Sl} {N i : Nat} {n : Str} {np pos : Pos} {b : Expr} {y : m D} {ds : List D} [DL.TC]
theorem per_itemRa (hb : PE X b (tE X.K X.mg fx G y)) (hG : G[i]? = some (.ra N ds)) (hN : X.N[i]? = some n) (hv : Vis X.env.scope n) (hd : (n == ("__debug__" : Str)) = false) (hcd : (n == ("__classdict__" : Str)) = false) (hs : PlainIx b) :
    PER X (.Subscript (.Name n np) b pos) (fun σ H Q => ∃ Hf s, StS X.K X.mg fx Hf H σ G s ∧ Mo.wp (do let u ← (pure (.lst ds) : m D); let v ← y; ask (ixD u v)) s (fun d s' => ∀ v u Hf' H' sh, Ste fx.bag Hf H Hf' H' → BagAt fx.bag H' s' → Is X.K X.mg Hf' d v → TokIn N u → Q v u H' sh) (EX X.K X.mg fx G σ)) := by
  refine ⟨fun pins s σ H Q I ⟨Hf, s0, st, w⟩ => ?_⟩
  obtain ⟨l, vs, el, hl, il⟩ := st.sl i _ hG
  refine (per_item hb hN hv hd hcd hs).run pins s σ H Q I ⟨l, N, vs, el, Hf, s0, st, ?_⟩
  have w1 := Mo.wp_bind (Mo.wp_pure (Mo.wp_bind w))
  refine Mo.wp_mono w1 (fun d2 s2 w2 v2 Hf2 H2 e2 bg2 i2 => ?_) fun e s' h => h
  have w3 := Mo.wp_lift w2
  cases hx : ixD (.lst ds) d2 with
  | none => rw [hx] at w3; exact w3.elim
  | some d =>
    rw [hx] at w3
    cases d2 with
    | int j =>
      cases i2
      obtain ⟨y2, hy, iy⟩ := il.atI hx
      exact ⟨j, y2, rfl, e2.top _ _ (e2.sub _ _ hl), hy, fun u s' tk => w3 y2 u Hf2 H2 s' e2 bg2 (iy.mono e2.sub) tk⟩
    | _ => cases hx
end
end DL
namespace DL
open PySem PySem.Spec PyProof.Rows L2
def CRR (outer : List Env) (P : Program) (w : World) (H : Hp) (s : Shared) (Q : RK) (r : Result) (s' : Shared) : Prop :=
  ∃ u v H', r = .ok (.ret u) ∧ s'.os = s.os ∧ AllBare s'.gens ∧ Un (frs outer) [] H H' s.heap s'.heap ∧ HOk P w H' s'.heap ∧ RelV v u ∧ Q v u H' s'
section
variable {P : Program} {w : World} {K : PySem.W.Frag} {mg : Str → Option Value} {base : Heap} [DL.TC]
theorem fn_gR {x qual : Str} {st : Stmt} {f : Addr} {fd : FuncData} {N ps : List Str} {k : Nat} (F : Fun K x qual st f fd) (Sc : FnScope N ps (defScope st)) {A : Around} {outer : List Env} {s : Shared} {H : Hp} {args : Args} {us : List Value} {vs : List V} {Q : RK}
    (gd : A.guards = some []) (hr : Room (k + 1) A) (e0 : Env0 P w K mg base A outer s H) (hb : BindsTo s fd args (ps.zip us)) (r : Vals vs us) (hlen : vs.length = ps.length)
    (hbody : ∀ (cdv : Value) (s1 : Shared), Room k (A.deeper (envOfC qual (defScope st) s.heap.objs.size f cdv)) → s.toks ≤ s1.toks → L2.Inv (cxOf (CXm P w mg) P w K mg base N qual (defScope st) f cdv A outer s H fun _ _ _ => False) [] (start N vs) H s1 →
      wpAny (model P w) (cxOf (CXm P w mg) P w K mg base N qual (defScope st) f cdv A outer s H fun _ _ _ => False).A (execs (defBody st) (cxOf (CXm P w mg) P w K mg base N qual (defScope st) f cdv A outer s H fun _ _ _ => False).env)
        (fun fl s' => ∃ u v σ' H', fl = .ret u ∧ L2.Inv (cxOf (CXm P w mg) P w K mg base N qual (defScope st) f cdv A outer s H fun _ _ _ => False) [] σ' H' s' ∧ RelV v u ∧ Q v u H' s') (cxOf (CXm P w mg) P w K mg base N qual (defScope st) f cdv A outer s H fun _ _ _ => False).xe s1) :
    codeAny (model P w) A (.call (.ref f) args) (CRR outer P w H s Q) s := by
  obtain ⟨oc, od, kV, doc, pm, an, cdv, ct, osl, rfl, lk, hcd⟩ := F.ex
  have kp := fun b o e => (e0.bs b o e).1
  have hk : ∀ y ∈ ps.zip us, (defScope st).names.lookup y.1 = some .local ∨ ((defScope st).names.lookup y.1 = some .cell ∧ ((cellsFrom (s.heap.objs.size + 1) (defScope st).names []).lookup y.1).isSome = true) := fun y hy =>
    (Sc.par y.1 (List.of_mem_zip (a := y.1) (b := y.2) hy).1).imp (fun q => q) fun q => ⟨q, PySem.W.cellsFrom_some _ _ _ (.inl q)⟩
  refine codeAny_call_function hr.depth (e0.mod.kin.keeps kp _ _ lk) rfl Sc.co Sc.gen rfl (PySem.W.codeRec_of (e0.mod.kin.keeps kp) hcd) (hb _ _ _ _ (wpAny_with_toks (n := s.toks) (Nat.le_refl _) (wpAny_newFunctionEnv_cells Sc.kind hk fun env he s1 x le => ?_)))
  subst he
  have I : L2.Inv (cxOf (CXm P w mg) P w K mg base N qual (defScope st) f cdv A outer s H fun _ _ _ => False) [] (start N vs) H s1 := inv_start Sc hr.hd e0 hlen r x
  refine ⟨(e0.mod.nolimit.keeps kp).keeps x.toInCall.keep, codeAny_func (wpAny_mono (hbody cdv s1 (hr.deeper _) le I) (fun fl s' hs => ?_) fun e s' hs => ?_)⟩
  · obtain ⟨u, v, σ', H', rfl, J, rv, q⟩ := hs
    exact ⟨u, v, H', rfl, J.os, J.bare, J.base, J.hok, rv, q⟩
  · exact wpAny_mono hs (fun _ s2 h => (ex_false h).elim) fun e2 s2 h => (ex_false h).elim
def GR (N : List Str) (n : Nat) (ds : List D) : List Sl := .bg :: .ra n ds :: List.replicate (N.length - 2) .un
theorem StS.initR {nr : Bool} {Hf H : Hp} {E : XK} {n : Nat} {ds : List D} {vs : List V} {N : List Str} {s : S} {bag : List Addr} {b o : Addr} {r : List Addr} (eb : bag = b :: r) (sb : SubT Hf H) (hb : ∀ b ∈ bag, Hf b = none ∧ H b ≠ none) (bg : BagAt bag H s) (ho : Hf o = some (RwO n vs o)) (l : IsL K mg Hf ds vs) (hn : 2 ≤ N.length) :
    StS K mg (fxE bag nr H Hf E) Hf H (start N [.ref b, .ref o]) (GR N n ds) s := by
  have hun : ∀ (i : Nat) (x : Sl), (GR N n ds)[i]? = some x → x = .bg ∧ i = 0 ∨ x = .ra n ds ∧ i = 1 ∨ x = .un := fun i x e => by
    match i, e with
    | 0, e => cases e; exact .inl ⟨rfl, rfl⟩
    | 1, e => cases e; exact .inr (.inl ⟨rfl, rfl⟩)
    | i + 2, e =>
      have e' : (List.replicate (N.length - 2) Sl.un)[i]? = some x := e
      exact .inr (.inr (List.eq_of_mem_replicate (List.mem_of_getElem? e')))
  refine ⟨.refl sb.s, bg, fun b m => ⟨(hb b m).1, (hb b m).2, fun z => nomatch z⟩, sb.t, ?_, fun i x e => ?_, fun i j x y p _ ex _ ox _ => ?_⟩
  · rw [start_len (by simpa using hn)]
    unfold GR
    simp
    omega
  · rcases hun i x e with ⟨rfl, rfl⟩ | ⟨rfl, rfl⟩ | rfl
    · exact ⟨b, r, eb, start_at rfl⟩
    · exact ⟨o, vs, start_at rfl, ho, l⟩
    · trivial
  · rcases hun i x ex with ⟨rfl, rfl⟩ | ⟨rfl, rfl⟩ | rfl <;> cases ox
variable (P : Program) (w : World) (K : PySem.W.Frag) (mg : Str → Option Value) (base : Heap)
def FnOfR (k : Nat) (f : Addr) (fd : FuncData) (ps : List Str) (g : D → M D) : Prop :=
  ∀ (A : Around) (outer : List Env) (s : Shared) (H Hf : Hp) (args : Args) (us : List Value) (bag : List Addr) (b : Addr) (r : List Addr) (S0 : S) (o : Addr) (N : Nat) (vs : List V) (ds : List D) (Q : RK), A.guards = some [] → Room k A → Env0 P w K mg base A outer s H → BindsTo s fd args (ps.zip us) → Vals [.ref b, .ref o] us → bag = b :: r →
    SubT Hf H → (∀ b ∈ bag, Hf b = none ∧ H b ≠ none) → BagAt bag H S0 → Hf o = some (RwO N vs o) → IsL K mg Hf ds vs → (match g (.lst ds) S0 with
      | .ok d S' => ∀ (v : V) (u : Value) (Hf' H' : Hp) (s' : Shared), Ste bag Hf H Hf' H' → BagAt bag H' S' → Is K mg Hf' d v → TokIn N u → Q v u H' s'
      | _ => False) → codeAny (model P w) A (.call (.ref f) args) (CRR outer P w H s Q) s
variable {P w K mg base}
theorem fnOfR {x qual : Str} {st : Stmt} {f : Addr} {fd : FuncData} {N ps : List Str} {k : Nat} {n : Str} {np pos rp : Pos} {c : Expr} {y : List D → M D} [hw : WOk w]
    (F : Fun K x qual st f fd) (Sc : FnScope N ps (defScope st)) (hps : ps.length = 2) (hN2 : 2 ≤ N.length) (hb0 : defBody st = [.Return (some (.Subscript (.Name n np) c pos)) rp])
    (hN1 : N[1]? = some n) (hx1 : (defScope st).names.lookup n = some .local) (hd : (n == ("__debug__" : Str)) = false) (hcd : (n == ("__classdict__" : Str)) = false) (hs : PlainIx c)
    (hc : ∀ (cdv : Value) (A : Around) (outer : List Env) (s : Shared) (H Hf : Hp) (bag : List Addr) (Nn : Nat) (ds : List D), Cok (cxOf (CXm P w mg) P w K mg base N qual (defScope st) f cdv A outer s H fun _ _ _ => False) (fxE bag false H Hf fun _ _ _ => False) k →
      PE (cxOf (CXm P w mg) P w K mg base N qual (defScope st) f cdv A outer s H fun _ _ _ => False) c (tE K mg (fxE bag false H Hf fun _ _ _ => False) (GR N Nn ds) (y ds))) :
    FnOfR P w K mg base (k + 1) f fd ps (fun d => match d with | .lst ds => (do let u ← (pure (.lst ds) : M D); let v ← y ds; ask (ixD u v)) | _ => fun _ => .stuck) := by
  intro A outer s H Hf args us bag b r S0 o Nn vs ds Q gd hr e0 hb rr eb sb hbb bg ho il hq
  refine fn_gR F Sc gd hr e0 hb rr (by rw [hps]; rfl) fun cdv s1 hr1 le I => ?_
  have C : Cok (cxOf (CXm P w mg) P w K mg base N qual (defScope st) f cdv A outer s H fun _ _ _ => False) (fxE bag false H Hf fun _ _ _ => False) k := ⟨rfl, fun _ => passes_of rfl, takes_of rfl rfl rfl rfl, hr1, Sc.nd, gd, hw.e⟩
  have hcc := hc cdv A outer s H Hf bag Nn ds C
  have st0 : StS K mg (fxE bag false H Hf fun _ _ _ => False) Hf H (start N [.ref b, .ref o]) (GR N Nn ds) S0 := .initR eb sb hbb bg ho il hN2
  rw [hb0]
  refine wpAny_execs_cons (wpAny_Return_some (thn ((per_itemRa (X := cxOf (CXm P w mg) P w K mg base N qual (defScope st) f cdv A outer s H fun _ _ _ => False) (fx := fxE bag false H Hf fun _ _ _ => False) (G := GR N Nn ds) (N := Nn) (i := 1) hcc rfl hN1 (Or.inl hx1) hd hcd hs).run [] s1 _ H Q I ⟨Hf, S0, st0, ?_⟩) fun u s2 ⟨v, H2, I2, rv, q⟩ => ⟨u, v, _, H2, rfl, I2, rv, q⟩))
  show (((do let u ← (pure (.lst ds) : M D); let v ← y ds; ask (ixD u v)) : M D) S0).wp _ _
  dsimp only at hq
  generalize ((do let u ← (pure (.lst ds) : M D); let v ← y ds; ask (ixD u v)) : M D) S0 = z at hq ⊢
  cases z with
  | ok d S' => exact fun v u Hf' H' sh e bgg is tk => hq v u Hf' H' sh e bgg is tk
  | ex e S' => exact hq.elim
  | stuck => exact hq.elim
end
end DL
namespace DL
open PySem PySem.Spec PyProof.Rows L2
section
variable {X : Cx} {fx : Fx} {G : List Sl} {kk j N ib i : Nat} {nm bn sn : Str} {p bp sp pos : Pos} {ds : List D} {f : Addr} {fd : FuncData} {ps : List Str} {g : D → M D} [DL.TC]
theorem run_r {pins : List (Addr × Obj)} {s : Shared} {σ : L2.St} {H Hf : Hp} {S0 : S} {us : List Value} {b o : Addr} {r : List Addr} {vs : List V} {Q : RK} (C : Cok X fx kk) (F : FnOfR X.prog X.w X.K X.mg X.base j f fd ps g) (hps : ps.length = 2) (hb : Binds X.K fd ps []) (hj : j ≤ kk)
    (I : L2.Inv X pins σ H s) (rr : Vals [.ref b, .ref o] us) (eb : fx.bag = b :: r) (st : StS X.K X.mg fx Hf H σ G S0) (ho : Hf o = some (RwO N vs o)) (il : IsL X.K X.mg Hf ds vs)
    (hq : match g (.lst ds) S0 with
      | .ok d S' => ∀ (v : V) (u : Value) (Hf' H' : Hp) (s' : Shared), Ste fx.bag Hf H Hf' H' → BagAt fx.bag H' S' → Is X.K X.mg Hf' d v → TokIn N u → Q v u H' s'
      | _ => False) : wpAny (model X.prog X.w) X.A (call (.ref f) us) (ER X pins σ Q) X.xe s := by
  have hl : (us ++ []).length = ps.length := by rw [List.append_nil, ← rr.length, hps]; rfl
  have hbb := hb s us I.kIn hl
  rw [List.append_nil] at hbb
  refine wpAny_call (codeAny_mono (F X.A X.stack s H Hf ⟨us, []⟩ us fx.bag b r S0 o N vs ds Q C.gd (C.rm.mono hj) I.env0 hbb rr eb st.topT st.bagf st.bag ho il hq) fun r2 s' hh => ?_)
  obtain ⟨u, v, H', rfl, h1, h2, h3, h4, h5, h6⟩ := hh
  exact I.after (Q := fun v H' => Q v u H' s') ⟨v, H', h1, h2, h3, h4, h5, h6⟩
theorem per_callR (C : Cok X fx kk) (F : FnOfR X.prog X.w X.K X.mg X.base j f fd ps g) (hps : ps.length = 2) (hm : X.mg nm = some (.ref f)) (hk : PySem.W.keepIn X.K (.ref f) = true) (hb : Binds X.K fd ps []) (hj : j ≤ kk)
    (hGb : G[ib]? = some .bg) (hG : G[i]? = some (.ra N ds)) (hNb : X.N[ib]? = some bn) (hN : X.N[i]? = some sn) (hvb : Vis X.env.scope bn) (hv : Vis X.env.scope sn) (hg : Gl X nm)
    (hdb : (nm == ("__debug__" : Str)) = false) (hd1 : (bn == ("__debug__" : Str)) = false) (hc1 : (bn == ("__classdict__" : Str)) = false) (hd2 : (sn == ("__debug__" : Str)) = false) (hc2 : (sn == ("__classdict__" : Str)) = false)
    (he1 : starEach [(.Name bn bp : Expr), .Name sn sp] X.env = (false, eval (.Name bn bp) X.env) :: starEach [.Name sn sp] X.env := by rfl) (he2 : starEach [(.Name sn sp : Expr)] X.env = (false, eval (.Name sn sp) X.env) :: starEach [] X.env := by rfl)
    (hpl : (backTo pos (starEach [(.Name sn sp : Expr)] X.env)).any (·.1) = false := by rfl) :
    PER X (.Call (.Name nm p) [.Name bn bp, .Name sn sp] [] pos) (fun σ H Q => ∃ Hf s, StS X.K X.mg fx Hf H σ G s ∧ Mo.wp (g (.lst ds)) s (fun d s' => ∀ v u Hf' H' sh, Ste fx.bag Hf H Hf' H' → BagAt fx.bag H' s' → Is X.K X.mg Hf' d v → TokIn N u → Q v u H' sh) (fun _ _ => False)) := by
  refine ⟨fun pins s σ H Q I ⟨Hf, S0, st, w⟩ => ?_⟩
  obtain ⟨b, r, eb, ev⟩ := st.sl ib _ hGb
  obtain ⟨o, vs, eo, ho, il⟩ := st.sl i _ hG
  have hA := (pa_cons (pe_var (pos := bp) hNb hvb hd1 hc1) (pa_cons (pe_var (pos := sp) hN hv hd2 hc2) pa_nil he2) he1).run pos pins s σ H (fun vs2 H1 => vs2 = [.ref b, .ref o] ∧ H1 = H) I ⟨.ref b, ev, ⟨.ref o, eo, rfl, rfl⟩⟩
  refine wpAny_Call_Name_kw (ld_glob I hg hm (PySem.W.callWith_K (h₀ := X.base) I.ok.mod.kin hk (thn hA fun us s1 ⟨vs2, H1, I1, r1, e1, e2⟩ => ⟨I1.kIn, ?_⟩) he1 hpl) hdb)
  subst e1
  subst e2
  refine run_r C F hps hb hj I1 r1 eb st ho il ?_
  have w' : (g (.lst ds) S0).wp _ _ := w
  cases z : g (.lst ds) S0 with
  | ok d s' => rw [z] at w'; exact w'
  | ex e s' => rw [z] at w'; exact w'.elim
  | stuck => rw [z] at w'; exact w'.elim
end
end DL
namespace DL
open PySem PySem.Spec PyProof.Rows L2
section
variable {prog : Program} {w : World} {A : Around} {E : Value → Shared → Prop} {s : Shared} {x : Str} {t : Tok} {Q : Value → Shared → Prop} {N : Nat}
theorem post_joinT {sep : Str} {l : List (Str × Tok)} (hN : N ≤ s.toks) (h0 : 0 < s.toks) (ht : ∀ q ∈ l, 0 < q.2 ∧ q.2 < N) (hz : (Txt.join sep (l.map (·.1))).length ≤ sizeLine)
    (h : ∀ t' k, 0 < t' → t' < k ∨ t' < s.toks → s.toks ≤ k → Q (.str (Txt.join sep (l.map (·.1))) t') { s with toks := k }) : (joinMade sep l).post Q s := by
  match l, ht, hz, h with
  | [], ht, hz, h => exact ⟨hz, h _ _ h0 (.inl (Nat.lt_succ_self _)) (Nat.le_succ _)⟩
  | [q], ht, hz, h => exact h q.2 s.toks (ht q List.mem_cons_self).1 (.inr (Nat.lt_of_lt_of_le (ht q List.mem_cons_self).2 hN)) (Nat.le_refl _)
  | _ :: _ :: _, ht, hz, h => exact ⟨hz, h _ _ h0 (.inl (Nat.lt_succ_self _)) (Nat.le_succ _)⟩
theorem call_joinT {D : Addr} {items : List Value} {ys : List Str} (hl : s.heap.IsList D items.toArray) (hi : StrsAre items ys) (ht : ∀ u ∈ items, TokIn N u) (hN : N ≤ s.toks) (h0 : 0 < s.toks) (hok : (ys.map (·.length)).sum + ys.length * x.length ≤ 16777216)
    (h : ∀ t' k, 0 < t' → t' < k → s.toks ≤ k → Q (.str (Txt.join x ys) t') { s with toks := k }) : wpAny (model prog w) A (call (.builtin "str.join") [.str x t, .ref D]) Q E s := by
  obtain ⟨l, hv, e⟩ := strsAre_values hi
  subst hv
  subst e
  have ok := joinOk_of hok
  have ok2 := ok
  unfold JoinOk at ok
  rw [Bool.not_eq_true'] at ok
  refine call_meets F.slot_str_join (typeIs_str _ _ _) F.entry_str_join (F.args_str_join_2 _ _) (meets_str_join_list x t D l ok) ⟨hl, post_joinT hN h0 (fun q hq => ?_) (joinFit_length ok) fun t' k h1 h2 h3 => h t' k h1 (h2.elim id fun z => Nat.lt_of_lt_of_le z h3) h3⟩
  obtain ⟨z, tt, ez, a, b⟩ := ht (.str q.1 q.2) (List.mem_map.mpr ⟨q, hq, rfl⟩)
  cases ez
  exact ⟨a, b⟩
end
end DL
namespace DL
open PySem PySem.Spec PyProof.Rows L2
section
variable {X : Cx} {pins : List (Addr × Obj)} {σ : L2.St} {H : Hp} {s : Shared}
theorem inv_stored {i : Nat} {x : Str} {v : V} {u : Value} {m m' : Str → Option Value} {h' : Heap} {tk : Nat} (I : L2.Inv X pins σ H s) (hN : X.N.Nodup) (hi : X.N[i]? = some x) (hk : X.env.scope.names.lookup x = some .local) (rel : RelV v u)
    (was : s.heap.Ns X.env.locals m) (is : h'.Ns X.env.locals m') (new : m' x = some u) (old : ∀ y, y ≠ x → m' y = m y) (same : Heap.SameBut X.env.locals s.heap h') : L2.Inv X pins (σ.set i (some v)) H { s with heap := h', toks := tk } where
  ok := I.ok
  os := I.os
  bare := I.bare
  base :=
    have far : ∀ {b : Addr} {o : Obj}, X.s_0.heap.get? b = some o → h'.get? b = s.heap.get? b := fun e => same.2 _ (Nat.ne_of_lt (Nat.lt_of_lt_of_le (Heap.lt_size e) I.ok.above))
    { I.base with
      keep := fun b o e n hb hx => (far e).trans (I.base.keep b o e n hb hx)
      slot := fun b o e n hb hx => let ⟨sl, q⟩ := I.base.slot b o e n hb hx; ⟨sl, (far e).trans q⟩
      there := fun b o e hx => let ⟨o', q⟩ := I.base.there b o e hx; ⟨o', (far e).trans q⟩ }
  loc := by
    obtain ⟨m0, was0, look⟩ := I.loc
    have one : ∀ y, m0 y = m y := fun y => by
      obtain ⟨o, es, ep, e, d, -, q⟩ := was
      obtain ⟨o', es', ep', e', d', -, q'⟩ := was0
      cases e.symm.trans e'
      cases d.symm.trans d'
      exact (q' y).symm.trans (q y)
    refine ⟨m', is, fun j y w e1 e2 vis => ?_⟩
    by_cases here : j = i
    · subst here
      cases hi.symm.trans e1
      have inside : j < σ.length := I.len ▸ (List.getElem?_eq_some_iff.mp hi).1
      rw [List.getElem?_set_self inside] at e2
      cases e2
      exact ⟨u, rel, .inl ⟨hk, new⟩⟩
    · rw [List.getElem?_set_ne (Ne.symm here)] at e2
      have other : y ≠ x := fun e => here (nodup_ix hN e1 (e ▸ hi))
      obtain ⟨u', r', l | ⟨k, c, e, z⟩⟩ := look j y w e1 e2 vis
      · exact ⟨u', r', .inl ⟨l.1, (old y other).trans ((one y).symm.trans l.2)⟩⟩
      · exact ⟨u', r', .inr ⟨k, c, e, z.sameBut same (I.cne y c e)⟩⟩
  cell y c e := let ⟨w, z⟩ := I.cell y c e; ⟨w, z.sameBut same (I.cne y c e)⟩
  free := I.free
  freeC := I.freeC
  pin p hp := let ⟨e, n, ne, nf, d⟩ := I.pin p hp; ⟨(same.2 p.1 ne).trans e, n, ne, nf, d⟩
  hok b o e := (I.hok b o e).stay (fun c w hc q => (same.2 c fun z => by
    rw [z] at hc
    have none_ := I.free
    rcases hc with rfl | hc
    · rw [none_] at e; cases e
    · rw [none_] at hc; cases hc).trans q) (fun _ q => q) fun _ _ q => q
  len := (List.length_set ..).trans I.len
theorem store_raw {M : Model} {A : Around} {E : Value → Shared → Prop} {i : Nat} {x : Str} {v : V} {u : Value} {Q : Unit → Shared → Prop} (I : L2.Inv X pins σ H s) (hN : X.N.Nodup) (hi : X.N[i]? = some x) (hk : X.env.scope.names.lookup x = some .local) (r : RelV v u)
    (h : ∀ (s' : Shared) (m : Str → Option Value), L2.Inv X pins (σ.set i (some v)) H s' → s'.heap.Ns X.env.locals m → m x = some u → s'.toks = s.toks + 1 → Q () s') : wpAny M A (storeName X.env x u) Q E s := by
  obtain ⟨m, names, -⟩ := id I.loc
  have plain : (X.env.scope.kind == .class || (X.env.scope.kind == .module && X.env.locals != X.env.globals)) = false := by simp [I.ok.kind]
  exact wpAny_storeName_local hk names (fun h' is same => h _ _ (inv_stored I hN hi hk r names is (if_pos rfl) (fun y ne => if_neg ne) same) is (if_pos rfl) rfl) plain
theorem ns_one {h : Heap} {a : Addr} {m m' : Str → Option Value} (x : h.Ns a m) (y : h.Ns a m') (k : Str) : m k = m' k := by
  obtain ⟨o, es, ep, e, d, _, q⟩ := x
  obtain ⟨o', es', ep', e', d', _, q'⟩ := y
  rw [e] at e'
  cases e'
  rw [d] at d'
  cases d'
  rw [← q k, ← q' k]
theorem read_raw {x : Str} {pos : Pos} {m : Str → Option Value} {u : Value} {E : Value → Shared → Prop} {Q : Value → Shared → Prop} (I : L2.Inv X pins σ H s) (hk : X.env.scope.names.lookup x = some .local) (hn : s.heap.Ns X.env.locals m) (hm : m x = some u) (hd : (x == ("__debug__" : Str)) = false)
    (h : Q u s) : wpAny (model X.prog X.w) X.A (eval (.Name x pos) X.env) Q E s := wpAny_Name (wpAny_loadName_local I.ok.kind hk hn hm h) hd
end
end DL
namespace DL
open PySem PySem.Spec PyProof.Rows L2
section
variable {X : Cx} {pins : List (Addr × Obj)} {σ : L2.St} {H : Hp} {s : Shared}
theorem eval_replV {o n : Str} {y x z : Str} {tx v : Tok} {m : Str → Option Value} {j : Nat} {op np c0 apos pos : Pos} {Q : VK} (I : L2.Inv X pins σ H s) (hko : X.env.scope.names.lookup o = some .local) (hkn : X.env.scope.names.lookup n = some .local) (hn : s.heap.Ns X.env.locals m)
    (hmo : m o = some (.str x tx)) (hmn : m n = some (.str z v)) (hv : 0 < v) (hlt : v < s.toks) (hyz : (y == z) = false) (hb : x.length + (x.length + 1) * z.length ≤ 16777216)
    (hdo : (o == ("__debug__" : Str)) = false) (hdn : (n == ("__debug__" : Str)) = false)
    (hst : starEach [.Constant (.str y) j c0, .Name n np] X.env = [(false, eval (.Constant (.str y) j c0) X.env), (false, eval (.Name n np) X.env)]) (hbase : attributeBase (.Name o op) "replace" X.env (eval (.Name o op) X.env) = eval (.Name o op) X.env) (hline : (apos.endLine == pos.line) = true)
    (q : Q (.str (Txt.replace x y z)) H) :
    wpAny (model X.prog X.w) X.A (eval (.Call (.Attribute (.Name o op) "replace" apos) [.Constant (.str y) j c0, .Name n np] [] pos) X.env) (EP X pins σ Q) X.xe s := by
  refine PySem.Call_method2 hbase hst hline (read_raw I hko hn hmo hdo ?_)
  refine ⟨"str", _, PySem.F.plainAttrs_str, PySem.F.slot_str_replace, PySem.F.type_str_replace, typeIs_str _ _ _, (fun _ e => nomatch e), Calls.callWith_builtin rfl (Calls.evalArgs_plain (Calls.spliced_cons ?_))⟩
  refine Calls.Constant_str (Calls.spliced_cons (read_raw (I.tok _) hkn hn hmn hdn (Calls.spliced_nil ?_)))
  exact PySem.SC.replace (Nat.ne_of_gt (Nat.lt_trans hv hlt)) (Nat.ne_of_gt hv) (Nat.ne_of_gt hlt) hyz hb fun t' k => ⟨.str (Txt.replace x y z), H, I.tok k, ⟨t', rfl⟩, q⟩
theorem loc_raw {i : Nat} {x : Str} {v : V} {m : Str → Option Value} (I : L2.Inv X pins σ H s) (hN : X.N[i]? = some x) (hk : X.env.scope.names.lookup x = some .local) (hn : s.heap.Ns X.env.locals m) (e : σ[i]? = some (some v)) : ∃ u, RelV v u ∧ m x = some u := by
  obtain ⟨m2, hn2, hl⟩ := I.loc
  obtain ⟨u, r, l⟩ := hl i x v hN e (Or.inl hk)
  rcases l with ⟨_, hm⟩ | ⟨hk2, _⟩
  · exact ⟨u, r, (ns_one hn hn2 x).trans hm⟩
  · rcases hk2 with z | z <;> (rw [show X.env.kindOf x = some .local from hk] at z; cases z)
end
end DL
namespace DL
open PySem PySem.Spec PyProof.Rows L2
structure PEN (N : Nat) (X : Cx) (e : Expr) (t : L2.St → Hp → RK → Prop) : Prop where
  run : ∀ (pins : List (Addr × Obj)) (s : Shared) (σ : L2.St) (H : Hp) (Q : RK), N ≤ s.toks → L2.Inv X pins σ H s → t σ H Q → wpAny (model X.prog X.w) X.A (eval e X.env) (ER X pins σ Q) X.xe s
structure PSN (N : Nat) (X : Cx) (sts : List Stmt) (t : TS) : Prop where
  run : ∀ (pins : List (Addr × Obj)) (s : Shared) (σ : L2.St) (H : Hp) (D : Ends), N ≤ s.toks → L2.Inv X pins σ H s → t D σ H → wpAny (model X.prog X.w) X.A (execs sts X.env) (SP X pins D) X.xe s
theorem PSN.of {N : Nat} {X : Cx} {sts : List Stmt} {t : TS} (h : PSs X sts t) : PSN N X sts t := ⟨fun pins s σ H D _ I q => h.run pins s σ H D I q⟩
theorem PEN.of {N : Nat} {X : Cx} {e : Expr} {t : L2.St → Hp → RK → Prop} (h : PER X e t) : PEN N X e t := ⟨fun pins s σ H Q _ I q => h.run pins s σ H Q I q⟩
def repD : D → D → Option D
  | .str a, .str z => if z = [42] ∨ 16777216 < a.length + (a.length + 1) * z.length then none else some (.str (Txt.replace ⟨a.toArray⟩ ⟨#[42]⟩ ⟨z.toArray⟩).cps.toList)
  | _, _ => none
theorem repD_some {dt d r : D} (h : repD dt d = some r) : ∃ a z, dt = .str a ∧ d = .str z ∧ z ≠ [42] ∧ a.length + (a.length + 1) * z.length ≤ 16777216 ∧ r = .str (Txt.replace ⟨a.toArray⟩ ⟨#[42]⟩ ⟨z.toArray⟩).cps.toList := by
  unfold repD at h
  split at h
  · next a z =>
    by_cases hc : z = [42] ∨ 16777216 < a.length + (a.length + 1) * z.length
    · rw [if_pos hc] at h; cases h
    · rw [if_neg hc] at h
      have h := Option.some.inj h
      rw [not_or] at hc
      exact ⟨a, z, rfl, rfl, hc.1, Nat.le_of_not_lt hc.2, h.symm⟩
  · cases h
section
variable {X : Cx} {fx : Fx} {G : List Sl} {α β : Type} {ex : α → List Sl} {exb : β → List Sl} {kk N it iy il : Nat} {tn yn ln : Str} {e1 : Expr} {yp lp op np c0 apos pos p1 p2 : Pos} {rest : List Stmt} {x : M D} {dt : D} {k : D → D → M (Fl α β)} {j : Nat} [DL.TC]
theorem psn_two (C : Cok X fx kk)
    (h1 : PEN N X e1 (fun σ H Q => ∃ Hf s, StS X.K X.mg fx Hf H σ G s ∧ Mo.wp x s (fun d s' => ∀ v u Hf' H' (sh : Shared), Ste fx.bag Hf H Hf' H' → BagAt fx.bag H' s' → Is X.K X.mg Hf' d v → TokIn sh.toks u → Q v u H' sh) (EX X.K X.mg fx G σ)))
    (hr : ∀ d r, PSN N X rest (tS X.K X.mg fx ((G.set iy (.im d)).set il (.im r)) ex exb (k d r)))
    (hG : G[it]? = some (.im dt)) (hty : it ≠ iy) (hNt : X.N[it]? = some tn) (hNy : X.N[iy]? = some yn) (hNl : X.N[il]? = some ln)
    (hkt : X.env.scope.names.lookup tn = some .local) (hky : X.env.scope.names.lookup yn = some .local) (hkl : X.env.scope.names.lookup ln = some .local)
    (hdt : (tn == ("__debug__" : Str)) = false) (hdy : (yn == ("__debug__" : Str)) = false)
    (hs1 : swapsWith e1 (some (.Name yn yp)) p1.line X.env = pure false) (hs2 : swapsWith (.Call (.Attribute (.Name tn op) "replace" apos) [.Constant (.str ⟨#[42]⟩) j c0, .Name yn np] [] pos) (some (.Name ln lp)) p2.line X.env = pure false)
    (hst : starEach [.Constant (.str ⟨#[42]⟩) j c0, .Name yn np] X.env = [(false, eval (.Constant (.str ⟨#[42]⟩) j c0) X.env), (false, eval (.Name yn np) X.env)]) (hbase : attributeBase (.Name tn op) "replace" X.env (eval (.Name tn op) X.env) = eval (.Name tn op) X.env) (hline : (apos.endLine == pos.line) = true)
    (hg : GxOk fx G) :
    PSN N X (.Assign [.Name yn yp] e1 p1 :: .Assign [.Name ln lp] (.Call (.Attribute (.Name tn op) "replace" apos) [.Constant (.str ⟨#[42]⟩) j c0, .Name yn np] [] pos) p2 :: rest)
      (tS X.K X.mg fx G ex exb (do let d ← x; let r ← (ask (repD dt d) : M D); k d r)) := by
  refine ⟨fun pins s σ H De hN0 I ⟨Hf, S0, st, w⟩ => ?_⟩
  have w1 := Mo.wp_bind w
  have lt : ∀ {t : Sem Flow} {s0 : Shared} {Q : Flow → Shared → Prop}, N ≤ s0.toks → wpAny (model X.prog X.w) X.A t (fun f s' => N ≤ s'.toks → Q f s') X.xe s0 → wpAny (model X.prog X.w) X.A t Q X.xe s0 := fun hn h => wpAny_with_toks hn (wpAny_mono h (fun _ _ z => z) fun _ _ z _ => z)
  refine wpAny_execs_cons (lt hN0 (wpAny_Assign_Name (thn (h1.run pins s σ H (fun v u H1 s1 => ∃ d Hf1 S1, TokIn s1.toks u ∧ Is X.K X.mg Hf1 d v ∧ StS X.K X.mg fx Hf1 H1 σ G S1 ∧ Sub Hf Hf1 ∧ Mo.wp (do let r ← (ask (repD dt d) : M D); k d r) S1 (FP X.K X.mg fx Hf ex exb De) (EXS X.K X.mg fx)) hN0 I
    ⟨Hf, S0, st, Mo.wp_mono w1 (fun d s' q v u Hf' H' sh e bg is tk => ⟨d, Hf', s', tk, is, st.step e bg, e.sub, q⟩) fun e s' q => exs_ex hg q⟩) fun u s1 ⟨v, H1, I1, rv, d, Hf1, S1, tk, is, st1, sb, w2⟩ => ?_) hs1))
  refine store_raw I1 C.nd hNy hky rv fun s2 m I2 hn hm e2 hN2 => ?_
  have w3 := Mo.wp_lift (Mo.wp_bind w2)
  cases hx : repD dt d with
  | none => rw [hx] at w3; exact w3.elim
  | some r =>
    rw [hx] at w3
    have w4 : Mo.wp (k d r) S1 (FP X.K X.mg fx Hf ex exb De) (EXS X.K X.mg fx) := w3
    obtain ⟨a, z, rfl, rfl, hc1, hc2, rfl⟩ := repD_some hx
    obtain ⟨rfl, hz⟩ := is
    obtain ⟨tz, rfl⟩ := rv
    obtain ⟨z1, t1, ez, ht0, ht1⟩ := tk
    cases ez
    obtain ⟨vt, evt, ist⟩ := st1.sl it _ hG
    obtain ⟨rfl, ha⟩ := ist
    have evt2 : (σ.set iy (some (.str ⟨z.toArray⟩)))[it]? = some (some (.str ⟨a.toArray⟩)) := by rw [List.getElem?_set_ne (Ne.symm hty)]; exact evt
    obtain ⟨ut, rt, hmt⟩ := loc_raw I2 hNt hkt hn evt2
    obtain ⟨tt, rfl⟩ := rt
    have st2 := st1.set (i := iy) (d := .str z) (v := .str ⟨z.toArray⟩) ⟨rfl, hz⟩
    have hlen : (Txt.replace ⟨a.toArray⟩ ⟨#[42]⟩ ⟨z.toArray⟩).length ≤ sizeLine := by
      have h1 := TK.replace_len ⟨a.toArray⟩ ⟨#[42]⟩ ⟨z.toArray⟩
      have e1 : Str.length ⟨a.toArray⟩ = a.length := by show a.toArray.size = _; simp
      have e2 : Str.length ⟨z.toArray⟩ = z.length := by show z.toArray.size = _; simp
      rw [e1, e2] at h1
      rw [sizeLine_eq]
      omega
    refine wpAny_execs_cons (lt hN2 (wpAny_Assign_Name (thn (eval_replV (Q := fun v H' => v = .str (Txt.replace ⟨a.toArray⟩ ⟨#[42]⟩ ⟨z.toArray⟩) ∧ H' = H1) I2 hkt hky hn hmt hm ht0 (by rw [e2]; exact Nat.lt_succ_of_lt ht1) ?_ ?_ hdt hdy hst hbase hline ⟨rfl, rfl⟩) fun u2 s3 ⟨v3, H3, I3, rv3, ev, eH⟩ => ?_) hs2))
    · exact beq_eq_false_iff_ne.mpr fun e => hc1 (by have q := congrArg (fun s : Str => s.cps.toList) e; simpa using q.symm)
    · have e1 : Str.length ⟨a.toArray⟩ = a.length := by show a.toArray.size = _; simp
      have e2 : Str.length ⟨z.toArray⟩ = z.length := by show z.toArray.size = _; simp
      rw [e1, e2]
      exact hc2
    · subst ev
      subst eH
      refine store_ok I3 C.nd hNl (Or.inl hkl) rv3 (fun s4 I4 hN4 => ?_) (.inr hkl)
      refine (hr _ _).run pins s4 _ _ De hN4 I4 ⟨Hf1, S1, st2.set (i := il) (d := .str (Txt.replace ⟨a.toArray⟩ ⟨#[42]⟩ ⟨z.toArray⟩).cps.toList) ⟨by simp, by rw [Array.length_toList]; exact hlen⟩, Mo.wp_mono w4 (fun f s2 h2 => h2.up sb) fun e s' k => k⟩
end
end DL
namespace DL
open PySem PySem.Spec PyProof.Rows L2
abbrev tRE [DL.TC] (N : Nat) (K : PySem.W.Frag) (mg : Str → Option Value) (fx : Fx) (G : List Sl) (x : M D) : L2.St → Hp → RK → Prop := fun σ H Q => ∃ Hf s, StS K mg fx Hf H σ G s ∧
  Mo.wp x s (fun d s' => ∀ v u Hf' H' sh, Ste fx.bag Hf H Hf' H' → BagAt fx.bag H' s' → Is K mg Hf' d v → TokIn N u → Q v u H' sh) (EX K mg fx G σ)
theorem pe_of_per {X : Cx} {e : Expr} {t : L2.St → Hp → RK → Prop} (h : PER X e t) : PE X e (fun σ H Q => t σ H fun v _ H' _ => Q v H') := ⟨fun pins s σ H Q I q => h.run pins s σ H (fun v _ H' _ => Q v H') I q⟩
section
variable {X : Cx} {fx : Fx} {G : List Sl} {kk j N ib i : Nat} {nm bn sn : Str} {p bp sp pos : Pos} {ds : List D} {f : Addr} {fd : FuncData} {ps : List Str} {g : D → M D} {g' : List D → M D} [DL.TC]
theorem per_ofRa (ib i : Nat) (C : Cok X fx kk) (F : FnOfR X.prog X.w X.K X.mg X.base j f fd ps g) (hps : ps.length = 2) (hm : X.mg nm = some (.ref f)) (hk : PySem.W.keepIn X.K (.ref f) = true) (hb : Binds X.K fd ps [])
    (hg' : ∀ d, g' [d] = g d) (hj : j ≤ kk := by decide)
    (hGb : G[ib]? = some .bg := by rfl) (hG : G[i]? = some (.ra N ds) := by rfl) (hNb : X.N[ib]? = some bn := by rfl) (hN : X.N[i]? = some sn := by rfl) (hvb : Vis X.env.scope bn := by first | exact Or.inl rfl | exact Or.inr (Or.inl rfl) | exact Or.inr (Or.inr rfl)) (hv : Vis X.env.scope sn := by first | exact Or.inl rfl | exact Or.inr (Or.inl rfl) | exact Or.inr (Or.inr rfl)) (hg : Gl X nm := by rfl)
    (hdb : (nm == ("__debug__" : Str)) = false := by decide) (hd1 : (bn == ("__debug__" : Str)) = false := by decide) (hc1 : (bn == ("__classdict__" : Str)) = false := by decide) (hd2 : (sn == ("__debug__" : Str)) = false := by decide) (hc2 : (sn == ("__classdict__" : Str)) = false := by decide)
    (he1 : starEach [(.Name bn bp : Expr), .Name sn sp] X.env = (false, eval (.Name bn bp) X.env) :: starEach [.Name sn sp] X.env := by rfl) (he2 : starEach [(.Name sn sp : Expr)] X.env = (false, eval (.Name sn sp) X.env) :: starEach [] X.env := by rfl)
    (hpl : (backTo pos (starEach [(.Name sn sp : Expr)] X.env)).any (·.1) = false := by rfl) :
    PER X (.Call (.Name nm p) [.Name bn bp, .Name sn sp] [] pos) (tRE N X.K X.mg fx G (do let ys ← (do let x ← (pure (.lst ds) : M D); let r ← (pure [] : M (List D)); pure (x :: r)); Mo.noex (g' ys))) :=
  ⟨fun pins s σ H Q I ⟨Hf, S0, st, w⟩ => (per_callR (p := p) (bp := bp) (sp := sp) (pos := pos) C F hps hm hk hb hj hGb hG hNb hN hvb hv hg hdb hd1 hc1 hd2 hc2 he1 he2 hpl).run pins s σ H Q I ⟨Hf, S0, st, by
    have w6 := Mo.wp_pure (Mo.wp_pure (Mo.wp_bind (Mo.wp_pure (Mo.wp_bind (Mo.wp_bind w)))))
    have w7 : Mo.wp (Mo.noex (g (.lst ds))) S0 _ _ := hg' (.lst ds) ▸ w6
    exact Mo.wp_noex w7⟩⟩
theorem de_ofRa (ib i : Nat) (C : Cok X fx kk) (F : FnOfR X.prog X.w X.K X.mg X.base j f fd ps g) (hps : ps.length = 2) (hm : X.mg nm = some (.ref f)) (hk : PySem.W.keepIn X.K (.ref f) = true) (hb : Binds X.K fd ps [])
    (hg' : ∀ d, g' [d] = g d) (hj : j ≤ kk := by decide)
    (hGb : G[ib]? = some .bg := by rfl) (hG : G[i]? = some (.ra N ds) := by rfl) (hNb : X.N[ib]? = some bn := by rfl) (hN : X.N[i]? = some sn := by rfl) (hvb : Vis X.env.scope bn := by first | exact Or.inl rfl | exact Or.inr (Or.inl rfl) | exact Or.inr (Or.inr rfl)) (hv : Vis X.env.scope sn := by first | exact Or.inl rfl | exact Or.inr (Or.inl rfl) | exact Or.inr (Or.inr rfl)) (hg : Gl X nm := by rfl)
    (hdb : (nm == ("__debug__" : Str)) = false := by decide) (hd1 : (bn == ("__debug__" : Str)) = false := by decide) (hc1 : (bn == ("__classdict__" : Str)) = false := by decide) (hd2 : (sn == ("__debug__" : Str)) = false := by decide) (hc2 : (sn == ("__classdict__" : Str)) = false := by decide)
    (he1 : starEach [(.Name bn bp : Expr), .Name sn sp] X.env = (false, eval (.Name bn bp) X.env) :: starEach [.Name sn sp] X.env := by rfl) (he2 : starEach [(.Name sn sp : Expr)] X.env = (false, eval (.Name sn sp) X.env) :: starEach [] X.env := by rfl)
    (hpl : (backTo pos (starEach [(.Name sn sp : Expr)] X.env)).any (·.1) = false := by rfl) :
    PE X (.Call (.Name nm p) [.Name bn bp, .Name sn sp] [] pos) (tE X.K X.mg fx G (do let ys ← (do let x ← (pure (.lst ds) : M D); let r ← (pure [] : M (List D)); pure (x :: r)); Mo.noex (g' ys))) :=
  peI (pe_of_per (per_ofRa (p := p) (bp := bp) (sp := sp) (pos := pos) ib i C F hps hm hk hb hg' hj hGb hG hNb hN hvb hv hg hdb hd1 hc1 hd2 hc2 he1 he2 hpl)) fun σ H Q ⟨Hf, s, st, w⟩ =>
    ⟨Hf, s, st, Mo.wp_mono w (fun d s' q v u Hf' H' sh e bg is _ => q v Hf' H' e bg is) fun e s' k => k⟩
end
end DL
namespace DL
open PySem PySem.Spec PyProof.Rows L2
section
variable {X : Cx} {pins : List (Addr × Obj)} {σ : L2.St} {H : Hp} {s : Shared}
theorem app_okR {E : Value → Shared → Prop} {D : Addr} {N : Nat} {xs : List V} {y : V} {v : Value} {Q : Value → Shared → Prop} (I : L2.Inv X pins σ H s) (hD : H D = some (RwO N xs D)) (hz : xs.length < sizeLine) (r : RelV y v) (tk : TokIn N v)
    (h : ∀ s', L2.Inv X pins σ (upd H D (RwO N (xs ++ [y]) D)) s' → Q .none s') : wpAny (model X.prog X.w) X.A (call (.builtin "list.append") [.ref D, v]) Q E s := by
  obtain ⟨its, n1, ri, e, ht, hz2⟩ := rwP_of I hD
  have hl := ri.length
  rw [sizeLine_eq] at hz
  refine call_meets PySem.F.slot_list_append ⟨_, e, rfl⟩ PySem.F.entry_list_append (PySem.F.args_list_append_2 _ _) (PySem.list_append D its.toArray n1 v (by rw [List.size_toArray, sizeLine_eq]; omega)) ⟨e, ?_⟩
  refine h _ (inv_rset (its' := its ++ [v]) I hD e (by simp) (ri.append (.cons r .nil)) (fun z m => ?_) ?_)
  · rcases List.mem_append.mp m with m | m
    · exact ht z m
    · rw [List.mem_singleton.mp m]; exact tk
  · rw [List.length_append, List.length_singleton, sizeLine_eq]
    omega
theorem join_okR {D : Addr} {N : Nat} {ys : List Str} {x : Str} {t : Tok} {Q : RK} (I : L2.Inv X pins σ H s) (hD : H D = some (RwO N (ys.map V.str) D)) (hN : N ≤ s.toks) (h0 : 0 < s.toks) (hok : (ys.map (·.length)).sum + ys.length * x.length ≤ 16777216)
    (q : ∀ u (s' : Shared), TokIn s'.toks u → Q (.str (Txt.join x ys)) u H s') : wpAny (model X.prog X.w) X.A (call (.builtin "str.join") [.str x t, .ref D]) (ER X pins σ Q) X.xe s := by
  obtain ⟨its, n1, ri, e, ht, _⟩ := rwP_of I hD
  exact call_joinT ⟨_, e, rfl, n1, rfl⟩ (strs_of_vals ri) ht hN h0 hok fun t2 k a b c => ⟨V.str (Txt.join x ys), H, I.tok k, ⟨t2, rfl⟩, q _ _ ⟨_, t2, rfl, a, b⟩⟩
end
end DL
namespace DL
open PySem PySem.Spec PyProof.Rows L2
def tRc (N : Nat) (wi : TI) (g : TG) (te : L2.St → Hp → RK → Prop) (vs : List Nat) : TE := fun σ H Q => wi σ H fun J H1 => ∀ D, H1 D = none → ∃ V : Nat → Nat → Hp → Prop, (∃ k, V 0 k (upd H1 D (RwO N [] D))) ∧ ∀ i k H2, V i k H2 →
  (J.stop i H2 ∧ Q (.ref D) H2) ∨ (J.go i H2 ∧ ∃ Nx : Hp → Prop, (∀ H3, Nx H3 → ∃ k', k' < k ∧ V (i + 1) k' H3) ∧ ∀ x H3, J.yld i H2 x H3 → g x (wipe σ vs) H3 fun σ' H4 => wipe σ' vs = wipe σ vs ∧
    te σ' H4 fun y u H5 _ => TokIn N u ∧ ∃ acc, H5 D = some (RwO N acc D) ∧ acc.length < sizeLine ∧ Nx (upd H5 D (RwO N (acc ++ [y]) D)))
section
variable {X : Cx} {N : Nat} {elt tg iter : Expr} {scope : Scope} {own : List (Str × Nat)} {pos : Pos} {wi : TI} {g : TG} {te : L2.St → Hp → RK → Prop}
theorem pe_rc (hc : X.calm = true) (hN : X.N.Nodup) (hi : PI X tg iter wi) (ok : BlkOk X.N X.env.scope scope own) (hg : InBlk X scope fun Y => PG Y tg g) (he : InBlk X scope fun Y => PER Y elt te) (hs : ∀ x, foldedSetIterable iter X.env x = pure x := by intro _; rfl) :
    PE X (.ListComp elt [⟨tg, iter, [], 0⟩] scope pos) (tRc N wi g te (own.map (·.2))) where
  run pins s σ H Q I h := by
    rw [eval_ListComp]
    refine comprehension_at rfl hs (closes I ok) ok.kind (fun y hy e => (ok.uniq y hy).trans (congrArg some e)) (wpAny_mono (hi.run pins s σ H _ I h) (fun xv s1 hx => wpAny_mono hx (fun itv s2 got => ?_) fun _ _ z => z) fun _ _ z => z)
    obtain ⟨it, fp, tn, J, H2, rfl, I2, T, st2, fps, q⟩ := got
    obtain ⟨V, ⟨k0, w0⟩, turn⟩ := q s2.heap.objs.size (I2.hok.fresh (Nat.le_refl _))
    obtain ⟨En, B0⟩ := enter (own := own) (o := { cls := .type "list", data := .seq #[] }) (u := RwO N [] s2.heap.objs.size) I2 T st2 fps ok hN (rwO_ok ⟨[], 0, .nil, Heap.get?_push_size _ rfl, fun _ m => absurd m List.not_mem_nil, Nat.zero_le _⟩)
    generalize es : ({ s2 with heap := s2.heap.push { cls := .type "list", data := .seq #[] } } : Shared) = s3 at En B0
    generalize eH : upd H2 s2.heap.objs.size (RwO N [] s2.heap.objs.size) = H3 at En B0 w0
    refine wpAny_newObj_type (newEnv_comp ?_) (by show 0 ≤ sizeLine; decide)
    show codeAny _ _ (.compStart (.ListComp elt [⟨tg, iter, [], 0⟩] scope pos) 0 (.ref it) (.ref s2.heap.objs.size) (frameAt X scope { s2 with heap := s2.heap.push { cls := .type "list", data := .seq #[] } }))
      (compEnds (model X.prog X.w) X.A X.xe none (EP X pins σ Q) (.ref s2.heap.objs.size) (frameAt X scope { s2 with heap := s2.heap.push { cls := .type "list", data := .seq #[] } })) (laidFrame scope { s2 with heap := s2.heap.push { cls := .type "list", data := .seq #[] } })
    rw [es]
    generalize s2.heap.objs.size = D at w0 turn ⊢
    have pg := hg s3 H3 s3.heap.objs.size (cellsFrom (s3.heap.objs.size + 1) scope.names (cloFrom X.env.cells scope.names [])) fp
    have pe := he s3 H3 s3.heap.objs.size (cellsFrom (s3.heap.objs.size + 1) scope.names (cloFrom X.env.cells scope.names [])) fp
    have none' : ∀ p ∈ ([] : List (Addr × Obj)), ∀ b ∈ fp, p.1 ≠ b := fun _ hp => absurd hp List.not_mem_nil
    refine codeAny_compStart_list ?loop (T.self X.A 0 _ _ _ B0.at_ ?loop)
    refine compLoop_any (R := compEnds (model X.prog X.w) X.A X.xe none (EP X pins σ Q) (.ref D) (frameAt X scope s3)) (fun n s' => ∃ i H', Between X σ scope own fp fp [] tn s3 H3 i H' s' ∧ V i n H') (fun n s5 ⟨i, H5, B, w5⟩ => ?_) k0 ⟨0, H3, B0, w0⟩
    rcases turn i n H5 w5 with ⟨stop, q⟩ | ⟨go, Nx, less, step⟩
    · refine wpAny_mono (B.stop En none' hc stop) (fun r s6 ⟨er, I6⟩ => ?_) fun _ _ z => z
      subst er
      obtain ⟨I', ⟨m, names⟩, off, nL, _, above, cells, pinned⟩ := Between.back En I6
      exact ⟨m, names, fun h2 same => ⟨.ref D, H5, I'.turned (t' := s6.toks) (fun b o ne e => (same.2 b ne).trans e) off nL above cells pinned, rfl, q⟩⟩
    · refine wpAny_mono (B.next En none' hc go pg step) (fun r s6 ⟨v, er, rest⟩ => ?_) fun _ _ z => z
      subst er
      refine wpAny_mono rest (fun _ s7 rest => wpAny_mono rest (fun _ s8 ⟨pn, σ8, H8, I8, q8, later⟩ => ?_) fun _ _ z => z) fun _ _ z => z
      refine wpAny_tests_nil ?_
      refine wpAny_mono (pe.run _ s8 σ8 H8 _ I8 q8) (fun z s9 ⟨y, H9, I9, rel, tk, acc, own9, short, nx⟩ => ?_) fun _ _ z => False.elim z
      refine app_okR (X := X.blk s3 H3 scope (frameAt X scope s3) fp) I9 own9 short rel tk fun s10 I10 => ?_
      obtain ⟨m, hm, w'⟩ := less _ nx
      exact ⟨m, hm, i + 1, _, later _ s10 I10, w'⟩
end
def tRF [DL.TC] (N : Nat) (K : PySem.W.Frag) (mg : Str → Option Value) (fx : Fx) (G : List Sl) (x : M (List D)) : TE := fun σ H Q => ∃ Hf s, StS K mg fx Hf H σ G s ∧
  Mo.wp x s (fun ds s' => ∀ p vs Hf' H', Ste fx.bag Hf H Hf' H' → BagAt fx.bag H' s' → H' p = some (RwO N vs p) → IsL K mg Hf' ds vs → Q (.ref p) H') (EX K mg fx G σ)
theorem Pl.rw [DL.TC] {H : Hp} {p : Addr} {N : Nat} {vs : List V} (h : H p = some (RwO N vs p)) : Pl H p := .of h (rwO_ne (p := p)).1 rwO_ne.2
theorem per_ex {ι : Type} {X : Cx} {e : Expr} {t : ι → L2.St → Hp → RK → Prop} (h : ∀ c, PER X e (t c)) : PER X e (fun σ H Q => ∃ c, t c σ H Q) := ⟨fun pins s σ H Q I ⟨c, q⟩ => (h c).run pins s σ H Q I q⟩
structure UnderWay [DL.TC] (K : PySem.W.Frag) (mg : Str → Option Value) (fx : Fx) (G : List Sl) (σ : L2.St) (N : Nat) (Da : Addr) (Hf0 H0 Hf1 : Hp) (Hf H : Hp) (s : S) (acc : List D) (vs : List V) : Prop where
  sub : Sub Hf1 Hf
  st : StS K mg fx Hf H σ G s
  far : Ste fx.bag Hf0 H0 Hf H
  at_ : H Da = some (RwO N vs Da)
  are : IsL K mg Hf acc vs
  free : Hf Da = none
section
variable {K : PySem.W.Frag} {mg : Str → Option Value} [DL.TC] {fx : Fx} {G : List Sl} {σ : L2.St} {N : Nat} {Da : Addr} {Hf0 H0 Hf1 Hf H Hf' H' : Hp} {s s' : S} {acc : List D} {vs : List V}
theorem UnderWay.step (w : UnderWay K mg fx G σ N Da Hf0 H0 Hf1 Hf H s acc vs) (nb : Da ∉ fx.bag) (e : Ste fx.bag Hf H Hf' H') (bg : BagAt fx.bag H' s') : UnderWay K mg fx G σ N Da Hf0 H0 Hf1 Hf' H' s' acc vs where
  sub := w.sub.trans e.sub
  st := w.st.step e bg
  far := w.far.trans e
  at_ := e.keep _ _ w.at_ nb (rwO_ne (p := Da)).1
  are := w.are.mono e.sub
  free := e.stayNone w.free (by rw [w.at_]; exact Option.some_ne_none _)
theorem UnderWay.more {y : D} {v : V} (w : UnderWay K mg fx G σ N Da Hf0 H0 Hf1 Hf H s acc vs) (new : H0 Da = none) (n0 : fx.H0 Da = none) (nb : Da ∉ fx.bag) (no : ∀ (j : Nat) (q : Addr), σ[j]? = some (some (.ref q)) → (∀ x, G[j]? = some x → isOw x = true → q ≠ Da)) (i : Is K mg Hf y v) :
    UnderWay K mg fx G σ N Da Hf0 H0 Hf1 Hf (upd H Da (RwO N (vs ++ [v]) Da)) s (acc ++ [y]) (vs ++ [v]) where
  sub := w.sub
  st := w.st.other w.free n0 nb (.rw w.at_) no
  far := w.far.upd new w.free (.rw w.at_)
  at_ := upd_same
  are := w.are.app (.cons i .nil)
  free := w.free
theorem rc_read {γ : Type} {xi : M (List D)} {u : D → Option γ} {xe : γ → M D} {g : TG} {st : List Sl → γ → List Sl} {is ws : List Nat}
    (hg : ∀ {G : List Sl} {Hf : Hp} {d : D} {v : V} {σ : L2.St} {H : Hp} {s : S} {c : γ} {Q : L2.St → Hp → Prop}, StS K mg fx.nox Hf H σ G s → Is K mg Hf d v → u d = some c → (∀ σ', (∀ j, j ∉ is → σ'[j]? = σ[j]?) → σ'.length = σ.length → StS K mg fx.nox Hf H σ' (st G c) s → Q σ' H) → g v σ H Q)
    (hsub : ∀ i ∈ is, i ∈ ws) {Q : VK} (h : tRF N K mg fx G (do let ds ← xi; lcF u (fun _ => pure true) xe ds) σ H Q) :
    tRc N (tI K mg fx G xi) g (fun σ H Q => ∃ c, tRE N K mg fx.nox (st (wipeG G ws) c) (xe c) σ H Q) ws σ H Q := by
  obtain ⟨Hf0, s0, st0, w0⟩ := h
  refine ⟨Hf0, s0, st0, Mo.wp_mono (Mo.wp_bind w0) (fun ds s1 w1 J Hf1 H1 e1 bg1 yl Da hD => ?_) fun e s' k => k⟩
  have st1 := st0.step e1 bg1
  obtain ⟨n0, nb, nf⟩ := st1.new0 hD
  have no := st1.owNe hD
  have new : H Da = none := Classical.byContradiction fun z => e1.dom Da z hD
  refine ⟨fun i k H' => k + i = ds.length ∧ ∃ Hf s acc vs, UnderWay K mg fx G σ N Da Hf0 H Hf1 Hf H' s acc vs ∧ acc.length = i ∧
    Mo.wp (lcF u (fun _ => pure true) xe (ds.drop i)) s (fun r s' => ∀ p vs Hf' H', Ste fx.bag Hf0 H Hf' H' → BagAt fx.bag H' s' → H' p = some (RwO N vs p) → IsL K mg Hf' (acc ++ r) vs → Q (.ref p) H') (EX K mg fx G σ),
    ⟨ds.length, by omega, Hf1, s1, [], [], ⟨.refl _, st1.other nf n0 nb (.none hD) no, e1.upd new nf (.none hD), upd_same, .nil, nf⟩, rfl, w1⟩, fun i k H2 ⟨hk, Hf2, s2, acc, vs2, W2, la, w2⟩ => ?_⟩
  obtain ⟨y1, y2⟩ := yl.2 Hf2 H2 W2.sub W2.st.top i
  cases k with
  | zero =>
    have e : ds.length ≤ i := by omega
    rw [List.drop_of_length_le e] at w2
    have w3 := Mo.wp_pure w2
    rw [List.append_nil] at w3
    exact .inl ⟨y2 e, w3 Da vs2 Hf2 H2 W2.far W2.st.bag W2.at_ W2.are⟩
  | succ k =>
    have hlt : i < ds.length := by omega
    obtain ⟨go, yd⟩ := y1 ds[i] (List.getElem?_eq_getElem hlt)
    rw [List.drop_eq_getElem_cons hlt] at w2
    have w4 := Mo.wp_lift (Mo.wp_bind w2)
    refine .inr ⟨go, fun H' => ∃ Hf s acc vs, UnderWay K mg fx G σ N Da Hf0 H Hf1 Hf H' s acc vs ∧ acc.length = i + 1 ∧
      Mo.wp (lcF u (fun _ => pure true) xe (ds.drop (i + 1))) s (fun r s' => ∀ p vs Hf' H', Ste fx.bag Hf0 H Hf' H' → BagAt fx.bag H' s' → H' p = some (RwO N vs p) → IsL K mg Hf' (acc ++ r) vs → Q (.ref p) H') (EX K mg fx G σ), fun H' q => ⟨k, Nat.lt_succ_self _, by omega, q⟩, fun x H3 y => ?_⟩
    obtain ⟨Hf3, e3, is3⟩ := yd x H3 y
    cases q : u ds[i] with
    | none => rw [q] at w4; exact w4.elim
    | some c =>
      rw [q] at w4
      have W3 := W2.step nb e3.wide (e3.bag W2.st.bag)
      refine hg (W3.st.wiped ws) is3 q fun σ2 hs hl st4 => ⟨wipe_eq hl fun j hj => hs j fun z => hj (hsub j z), c, Hf3, s2, st4, ?_⟩
      have w5 := Mo.wp_pure (Mo.wp_noex (Mo.wp_bind w4))
      have w6 : Mo.wp (Mo.noex (xe c) >>= fun y => lcF u (fun _ => pure true) xe (ds.drop (i + 1)) >>= fun r => pure (y :: r)) s2 _ _ := w5
      refine Mo.wp_mono (Mo.wp_noex (Mo.wp_bind w6)) (fun y s6 w7 yv uv Hf6 H6 sh e6 bg6 is6 tk => ?_) fun _ _ f => f.elim
      have W6 := W3.step nb (s' := s6) e6 bg6
      refine ⟨tk, vs2, W6.at_, ?_, Hf6, s6, acc ++ [y], vs2 ++ [yv], W6.more new n0 nb no is6, by rw [List.length_append, la]; rfl, Mo.wp_mono (Mo.wp_bind w7) (fun r s8 w8 => ?_) fun e s' k => k⟩
      · rw [← W2.are.len, la]
        exact Nat.lt_of_lt_of_le hlt yl.1
      · have w9 := Mo.wp_pure w8
        rw [List.append_assoc]
        exact w9
end
section
variable {X : Cx} {fx : Fx} {G : List Sl} {kk N : Nat} {elt tg iter : Expr} {scope : Scope} {pos : Pos} {γ : Type} {xi : M (List D)} {u : D → Option γ} {xe : γ → M D} {g : TG} {st : List Sl → γ → List Sl} {is : List Nat} [DL.TC]
theorem de_rc (own : List (Str × Nat)) (C : Cok X fx kk) (hi : PI X tg iter (tI X.K X.mg fx G xi)) (ok : BlkOk X.N X.env.scope scope own)
    (hg : InBlk X scope fun Y => PGd Y fx.nox tg g u st is) (he : InBlk X scope fun Y => Cok Y fx.nox kk → ∀ c, PER Y elt (tRE N X.K X.mg fx.nox (st (wipeG G (own.map (·.2))) c) (xe c)))
    (hsub : ∀ i ∈ is, i ∈ own.map (·.2)) (hs : ∀ x, foldedSetIterable iter X.env x = pure x := by intro _; rfl) :
    PE X (.ListComp elt [⟨tg, iter, [], 0⟩] scope pos) (tRF N X.K X.mg fx G (do let ds ← xi; lcF u (fun _ => pure true) xe ds)) :=
  peI (pe_rc C.calm C.nd hi ok (fun s H A cl fp => (hg s H A cl fp).1) (fun s H A cl fp => per_ex (he s H A cl fp (C.blk ..))) hs) fun σ H Q h => rc_read (fun {G Hf d v σ H s c Q} => (hg {} (fun _ => none) 0 [] []).2) hsub h
theorem is_join {K : PySem.W.Frag} {mg : Str → Option Value} {H : Hp} {a : List Nat} {ps : List (List Nat)} (hz : (ps.map (·.length)).sum + ps.length * a.length ≤ 16777216) : Is K mg H (.str (joinN a ps)) (.str (Txt.join ⟨a.toArray⟩ (ps.map fun p => (⟨p.toArray⟩ : Str)))) := by
  refine ⟨?_, Nat.le_trans (joinN_len a ps) (by rw [sizeLine_eq]; exact hz)⟩
  rw [TL.join_eq]
  congr 1
  refine TL.ext_tl (((TL.tl_join ⟨a.toArray⟩ (ps.map fun p => (⟨p.toArray⟩ : Str))).trans ?_).trans (str_tl (joinN a ps)).symm)
  rw [joinN_eq, List.map_map]
  congr 1
  exact (List.map_congr_left fun p _ => str_tl p).trans (List.map_id ps)
theorem pen_joinR {j : Nat} {c0 apos cpos : Pos} (own : List (Str × Nat)) (C : Cok X fx kk) (hi : PI X tg iter (tI X.K X.mg fx G xi)) (ok : BlkOk X.N X.env.scope scope own)
    (hg : InBlk X scope fun Y => PGd Y fx.nox tg g u st is) (he : InBlk X scope fun Y => Cok Y fx.nox kk → ∀ c, PER Y elt (tRE N X.K X.mg fx.nox (st (wipeG G (own.map (·.2))) c) (xe c)))
    (hsub : ∀ i ∈ is, i ∈ own.map (·.2)) (hs : ∀ x, foldedSetIterable iter X.env x = pure x := by intro _; rfl)
    (hst : starEach [(.ListComp elt [⟨tg, iter, [], 0⟩] scope pos : Expr)] X.env = [(false, eval (.ListComp elt [⟨tg, iter, [], 0⟩] scope pos) X.env)] := by rfl) (hbase : attributeBase (.Constant (.str ⟨#[]⟩) j c0) "join" X.env (eval (.Constant (.str ⟨#[]⟩) j c0) X.env) = eval (.Constant (.str ⟨#[]⟩) j c0) X.env := by rfl) (hline : (apos.endLine == cpos.line) = true := by rfl) :
    PEN N X (.Call (.Attribute (.Constant (.str ⟨#[]⟩) j c0) "join" apos) [.ListComp elt [⟨tg, iter, [], 0⟩] scope pos] [] cpos) (fun σ H Q => ∃ Hf s, StS X.K X.mg fx Hf H σ G s ∧
      Mo.wp (do let a ← (pure (.str []) : M D); let _ ← DL.ask (strOf a); let b ← mkL (do let ds ← xi; lcF u (fun _ => pure true) xe ds); DL.ask (joinD a b)) s (fun d s' => ∀ v z Hf' H' sh, Ste fx.bag Hf H Hf' H' → BagAt fx.bag H' s' → Is X.K X.mg Hf' d v → TokIn sh.toks z → Q v z H' sh) (EX X.K X.mg fx G σ)) := by
  refine ⟨fun pins s σ H Q hN I ⟨Hf, S0, st0, w⟩ => ?_⟩
  have w1 := Mo.wp_bind (Mo.wp_bind (Mo.wp_lift (Mo.wp_bind (Mo.wp_pure (Mo.wp_bind w)))))
  refine PySem.Call_method1 hbase hst hline (Calls.Constant_str ?_)
  refine ⟨"str", _, PySem.F.plainAttrs_str, PySem.F.slot_str_join, PySem.F.type_str_join, typeIs_str _ _ _, (fun _ e => nomatch e), Calls.callWith_builtin rfl (Calls.evalArgs_plain (Calls.spliced_cons ?_))⟩
  have lc := de_rc (N := N) (pos := pos) own C hi ok hg he hsub hs
  refine wpAny_with_toks (n := s.toks + 1) (Nat.le_refl _) (wpAny_mono (lc.run pins _ σ H (fun v H1 => ∃ (D : Addr) (ps : List (List Nat)), v = .ref D ∧ H1 D = some (RwO N (ps.map fun p => V.str ⟨p.toArray⟩) D) ∧ (ps.map (·.length)).sum + ps.length * 0 ≤ 16777216 ∧ ∀ z sh, TokIn sh.toks z → Q (.str (Txt.join ⟨#[]⟩ (ps.map fun p => (⟨p.toArray⟩ : Str)))) z H1 sh) (I.tok _) ⟨Hf, S0, st0, Mo.wp_mono w1 (fun ds s1 w2 p vs Hf1 H1 e bg at_ are => ?_) fun e s' k => k⟩) (fun v s2 hh le => ?_) fun e s' k _ => k)
  · have w3 := Mo.wp_lift (Mo.wp_pure w2)
    unfold joinD at w3
    cases e3 : strsOf ds with
    | none => exact absurd w3 (by simp [sqOf, e3])
    | some ps =>
      simp only [sqOf, e3] at w3
      by_cases hz : (ps.map (·.length)).sum + ps.length * ([] : List Nat).length ≤ 16777216
      · rw [if_pos hz] at w3
        have ew := isL_strs are e3
        subst ew
        exact ⟨p, ps, rfl, at_, hz, fun z sh tk => w3 _ z Hf1 H1 sh e bg (is_join hz) tk⟩
      · rw [if_neg hz] at w3
        exact w3.elim
  · obtain ⟨v', H2, I2, r2, D, ps, rfl, at_, hz, q⟩ := hh
    cases r2
    refine Calls.spliced_nil (join_okR (ys := ps.map fun p => (⟨p.toArray⟩ : Str)) I2 (by rw [List.map_map]; exact at_) (by omega) (by omega) ?_ fun z sh tk => q z sh tk)
    rw [List.map_map, List.length_map]
    rw [show (ps.map ((fun x : Str => x.length) ∘ fun p => (⟨p.toArray⟩ : Str))) = ps.map (·.length) from List.map_congr_left fun p _ => str_len p]
    exact hz
end
end DL
namespace DL
open PySem PySem.Spec PyProof.Rows L2
def GS (N : List Str) (n : Nat) (es ds : List D) : List Sl := .bg :: .ra n es :: (ds.map Sl.im ++ List.replicate (N.length - ds.length - 2) .un)
theorem im_un {ds : List D} {k i : Nat} {x : Sl} (h : (ds.map Sl.im ++ List.replicate k .un)[i]? = some x) : (∃ d, x = .im d) ∨ x = .un :=
  (List.mem_append.mp (List.mem_of_getElem? h)).imp (fun m => let ⟨d, _, e⟩ := List.mem_map.mp m; ⟨d, e.symm⟩) List.eq_of_mem_replicate
section
variable {K : PySem.W.Frag} {mg : Str → Option Value} [DL.TC]
theorem StS.initSg {nr : Bool} {Hf H : Hp} {E : XK} {n : Nat} {es ds : List D} {ws vs : List V} {N : List Str} {s : S} {bag : List Addr} {b o : Addr} {r : List Addr} (eb : bag = b :: r) (sb : SubT Hf H) (hb : ∀ b ∈ bag, Hf b = none ∧ H b ≠ none) (bg : BagAt bag H s) (ho : Hf o = some (RwO n ws o)) (lo : IsL K mg Hf es ws) (l : IsL K mg Hf ds vs) (hn : vs.length + 2 ≤ N.length) :
    StS K mg (fxE bag nr H Hf E) Hf H (start N (.ref b :: .ref o :: vs)) (GS N n es ds) s where
  ste := .refl sb.s
  bag := bg
  bagg b m := ⟨(hb b m).1, (hb b m).2, fun z => nomatch z⟩
  tb := sb.t
  len := by
    rw [start_len (by simpa using hn)]
    unfold GS
    have := l.len
    simp
    omega
  sl i x e := by
    match i, e with
    | 0, e => cases e; exact ⟨b, r, eb, start_at rfl⟩
    | 1, e => cases e; exact ⟨o, ws, start_at rfl, ho, lo⟩
    | i + 2, e =>
      have e' : (ds.map Sl.im ++ List.replicate (N.length - ds.length - 2) .un)[i]? = some x := e
      have q := slOk_G0 (fx := fxE bag nr H Hf E) (H := H) (N := N) l e'
      rcases im_un e' with ⟨d, rfl⟩ | rfl
      · obtain ⟨v, hv, hi⟩ := q
        obtain ⟨w, hw, ew⟩ := Option.map_eq_some_iff.mp hv
        cases ew
        exact ⟨v, start_at (by simpa using hw), hi⟩
      · trivial
  dis i j x y p _ ex _ ox _ := by
    match i, ex with
    | 0, ex => cases ex; cases ox
    | 1, ex => cases ex; cases ox
    | i + 2, ex => exact (isOw_im (n := N.length - ds.length - 2) (ds := ds) (i := i) ex ox).elim
end
section
variable (K : PySem.W.Frag) (mg : Str → Option Value) [DL.TC]
def spS (nr : Bool) (n N : Nat) (g : List D → M D) : Sp := fun vs H Q E => vs.length = n ∧ ∃ bag b r o Hf es ws ds vs' s, bag = b :: r ∧ vs = .ref b :: .ref o :: vs' ∧ SubT Hf H ∧ (∀ b ∈ bag, Hf b = none ∧ H b ≠ none) ∧ BagAt bag H s ∧ Hf o = some (RwO N ws o) ∧ IsL K mg Hf es ws ∧ IsL K mg Hf ds vs' ∧ (match g (.lst es :: ds) s with
  | .ok d s' => ∀ v Hf' H', Ste bag Hf H Hf' H' → BagAt bag H' s' → RtOk K mg nr H Hf' H' d v → Q v H'
  | .ex e s' => ∀ cls dd Hf' H', Ste bag Hf H Hf' H' → BagAt bag H' s' → ExIs K mg Hf' H' e cls dd → E cls dd H'
  | .stuck => False)
end
theorem ends_body {K : PySem.W.Frag} {mg : Str → Option Value} [DL.TC] {nr : Bool} {bag : List Addr} {Hf H : Hp} {E : XK} {N : List Str} {Q : VK} {Z : L2.St → Hp → Prop} {body : M (Fl Unit Empty)} {s : S} (hz : nr = false → ∀ σ' H', Q .non H' → Z σ' H') (q : match runM nr body s with
      | .ok d s' => ∀ v Hf' H', Ste bag Hf H Hf' H' → BagAt bag H' s' → RtOk K mg nr H Hf' H' d v → Q v H'
      | .ex e s' => ∀ cls dd Hf' H', Ste bag Hf H Hf' H' → BagAt bag H' s' → ExIs K mg Hf' H' e cls dd → E cls dd H'
      | .stuck => False) :
    Mo.wp body s (FP K mg (fxE bag nr H Hf E) Hf (fun _ => unG N) Empty.elim { nx := Z, rt := Q }) (EXS K mg (fxE bag nr H Hf E)) := by
  show (body s).wp _ _
  unfold runM at q
  generalize body s = z at q ⊢
  match z, q with
  | .ok (.nx _) s1, q =>
    cases nr with
    | true => exact (show False from q).elim
    | false => exact fun Hf' H' σ' _ st => hz rfl σ' H' (q .non Hf' H' st.ste st.bag (rfl : V.non = V.non))
  | .ok (.rt d) s1, q => exact fun v Hf' H' st bg i => q v Hf' H' st bg i
  | .ok (.bk b) _, q => exact b.elim
  | .ok (.ct b) _, q => exact b.elim
  | .ex e s1, q => exact fun cls dd σ' Hf' H' st x => q cls dd Hf' H' st.1 st.2 x
  | .stuck, q => exact q
section
variable {P : Program} {w : World} {K : PySem.W.Frag} {mg : Str → Option Value} {base : Heap} [DL.TC]
theorem fnS {nr : Bool} {x qual : Str} {st : Stmt} {f : Addr} {fd : FuncData} {N ps : List Str} {k n : Nat} {g : List D → M D} [hw : WOk w] (F : Fun K x qual st f fd) (Sc : FnScope N ps (defScope st)) (hn : ps.length = n + 2) (hN : n + 2 ≤ N.length)
    (hb : ∀ (cdv : Value) (A : Around) (outer : List Env) (s : Shared) (H Hf : Hp) (bag : List Addr) (E : XK) (Nn : Nat) (es ds : List D), Cok (cxOf (CXm P w mg) P w K mg base N qual (defScope st) f cdv A outer s H E) (fxE bag nr H Hf E) k → ds.length = n →
      ∃ body : M (Fl Unit Empty), PSs (cxOf (CXm P w mg) P w K mg base N qual (defScope st) f cdv A outer s H E) (defBody st)
        (tS (cxOf (CXm P w mg) P w K mg base N qual (defScope st) f cdv A outer s H E).K (cxOf (CXm P w mg) P w K mg base N qual (defScope st) f cdv A outer s H E).mg (fxE bag nr H Hf E) (GS N Nn es ds) (fun _ => unG N) Empty.elim body) ∧ g (.lst es :: ds) = runM nr body) :
    FnG P w K mg base (k + 1) f fd ps (fun vs H Q E => ∃ Nn, spS K mg nr (n + 2) Nn g vs H Q E) := by
  refine fn_g F Sc (fun vs H Q E ⟨_, h⟩ => h.1.trans hn.symm) (fun cdv A outer s H vs Q E gd hr ⟨Nn, h⟩ => ?_)
  obtain ⟨hl, bag, b, r, o, Hf, es, ws, ds, vs', s0, eb, rfl, sb, hbb, bg, ho, lo, l, q⟩ := h
  have C : Cok (cxOf (CXm P w mg) P w K mg base N qual (defScope st) f cdv A outer s H E) (fxE bag nr H Hf E) k := ⟨rfl, fun _ => passes_of rfl, takes_of rfl rfl rfl rfl, hr, Sc.nd, gd, hw.e⟩
  have hl' : vs'.length = n := by simpa using hl
  obtain ⟨body, hp, hg⟩ := hb cdv A outer s H Hf bag E Nn es ds C (l.len.trans hl')
  rw [hg] at q
  exact ⟨_, hp, Hf, s0, .initSg eb sb hbb bg ho lo l (by omega), ends_body (fun _ _ _ z => z) q⟩
def runT (x : M (Fl Unit Empty)) : M D := fun s => match x s with
  | .ok (.rt d) s => .ok d s
  | _ => .stuck
variable (P : Program) (w : World) (K : PySem.W.Frag) (mg : Str → Option Value) (base : Heap)
structure FnT (k : Nat) (f : Addr) (fd : FuncData) (ps : List Str) (n : Nat) (g : List D → M D) : Prop where
  len : ps.length = n
  run : ∀ (A : Around) (outer : List Env) (s : Shared) (H : Hp) (args : Args) (us : List Value) (vs : List V) (Q : VK) (N : Nat) (bag : List Addr) (b o : Addr) (r : List Addr) (Hf : Hp) (es : List D) (ws : List V) (ds : List D) (S0 : S), A.guards = some [] → Room k A → Env0 P w K mg base A outer s H → BindsTo s fd args (ps.zip us) → Vals (.ref b :: .ref o :: vs) us → N ≤ s.toks →
    vs.length + 2 = n → bag = b :: r → SubT Hf H → (∀ b ∈ bag, Hf b = none ∧ H b ≠ none) → BagAt bag H S0 → Hf o = some (RwO N ws o) → IsL K mg Hf es ws → IsL K mg Hf ds vs → (match g (.lst es :: ds) S0 with
      | .ok d S' => ∀ v Hf' H', Ste bag Hf H Hf' H' → BagAt bag H' S' → Is K mg Hf' d v → Q v H'
      | _ => False) → codeAny (model P w) A (.call (.ref f) args) (CRS outer P w H s fun v H' _ => Q v H') s
variable {P w K mg base}
theorem fnTk {x qual : Str} {st : Stmt} {f : Addr} {fd : FuncData} {N ps : List Str} {k n : Nat} {g : List D → M D} [hw : WOk w] (F : Fun K x qual st f fd) (Sc : FnScope N ps (defScope st)) (hn : ps.length = n + 2) (hN : n + 2 ≤ N.length)
    (hb : ∀ (cdv : Value) (A : Around) (outer : List Env) (s : Shared) (H Hf : Hp) (bag : List Addr) (Nn : Nat) (es ds : List D), Cok (cxOf (CXm P w mg) P w K mg base N qual (defScope st) f cdv A outer s H fun _ _ _ => False) (fxE bag false H Hf fun _ _ _ => False) k → ds.length = n →
      ∃ body : M (Fl Unit Empty), PSN Nn (cxOf (CXm P w mg) P w K mg base N qual (defScope st) f cdv A outer s H fun _ _ _ => False) (defBody st)
        (tS (cxOf (CXm P w mg) P w K mg base N qual (defScope st) f cdv A outer s H fun _ _ _ => False).K (cxOf (CXm P w mg) P w K mg base N qual (defScope st) f cdv A outer s H fun _ _ _ => False).mg (fxE bag false H Hf fun _ _ _ => False) (GS N Nn es ds) (fun _ => unG N) Empty.elim body) ∧ g (.lst es :: ds) = runT body) :
    FnT P w K mg base (k + 1) f fd ps (n + 2) g := by
  refine ⟨hn, fun A outer s H args us vs Q Nn bag b o r Hf es ws ds s0 gd hr e0 hbt rr hNn hl eb sb hbb bg ho lo l q => ?_⟩
  refine fn_gS F Sc gd hr e0 hbt rr (by rw [hn]; exact hl) fun cdv s1 hr1 le I => ?_
  have C : Cok (cxOf (CXm P w mg) P w K mg base N qual (defScope st) f cdv A outer s H fun _ _ _ => False) (fxE bag false H Hf fun _ _ _ => False) k := ⟨rfl, fun _ => passes_of rfl, takes_of rfl rfl rfl rfl, hr1, Sc.nd, gd, hw.e⟩
  obtain ⟨body, hp, hg⟩ := hb cdv A outer s H Hf bag Nn es ds C (by rw [l.len]; omega)
  rw [hg] at q
  refine wpAny_mono (hp.run [] s1 _ H { nx := fun _ _ => False, rt := Q } (Nat.le_trans hNn le) I ⟨Hf, s0, .initSg eb sb hbb bg ho lo l (by omega), ?_⟩) (fun fl s' hs => ?_) fun e s' hs => hs
  · show (body s0).wp _ _
    unfold runT at q
    generalize body s0 = z at q ⊢
    match z, q with
    | .ok (.nx _) _, q => exact q.elim
    | .ok (.rt d) _, q => exact q
    | .ok (.bk b) _, _ => exact b.elim
    | .ok (.ct b) _, _ => exact b.elim
    | .ex _ _, q => exact q.elim
    | .stuck, q => exact q.elim
  · cases fl with
    | ret u =>
      obtain ⟨v, σ', H', J, rv, q⟩ := hs
      exact ⟨u, v, σ', H', rfl, J, rv, q⟩
    | next => exact hs.elim fun _ h => h.elim fun _ h => h.2.elim
    | brk => exact hs.elim fun _ h => h.elim fun _ h => h.2.elim
    | cont => exact hs.elim fun _ h => h.elim fun _ h => h.2.elim
end
end DL
namespace DL
open PySem PySem.Spec PyProof.Rows L2
structure PEp (N : Nat) (X : Cx) (e : Expr) (t : TE) : Prop where
  run : ∀ (pins : List (Addr × Obj)) (s : Shared) (σ : L2.St) (H : Hp) (Q : VK), N ≤ s.toks → L2.Inv X pins σ H s → t σ H Q → wpAny (model X.prog X.w) X.A (eval e X.env) (EP X pins σ Q) X.xe s
structure PSt (N : Nat) (X : Cx) (st : Stmt) (t : TS) : Prop where
  run : ∀ (pins : List (Addr × Obj)) (s : Shared) (σ : L2.St) (H : Hp) (D : Ends), N ≤ s.toks → L2.Inv X pins σ H s → t D σ H → wpAny (model X.prog X.w) X.A (exec st X.env) (SP X pins D) X.xe s
theorem PEp.of {N : Nat} {X : Cx} {e : Expr} {t : TE} (h : PE X e t) : PEp N X e t := ⟨fun pins s σ H Q _ I q => h.run pins s σ H Q I q⟩
theorem pepI {N : Nat} {X : Cx} {e : Expr} {t u : TE} (h : PEp N X e t) (i : ∀ σ H Q, u σ H Q → t σ H Q) : PEp N X e u := ⟨fun pins s σ H Q n I q => h.run pins s σ H Q n I (i σ H Q q)⟩
theorem psnI {N : Nat} {X : Cx} {st : List Stmt} {t u : TS} (h : PSN N X st t) (i : ∀ D σ H, u D σ H → t D σ H) : PSN N X st u := ⟨fun pins s σ H D n I q => h.run pins s σ H D n I (i D σ H q)⟩
theorem psn_ex {ι : Type} {N : Nat} {X : Cx} {sts : List Stmt} {t : ι → TS} (h : ∀ i, PSN N X sts (t i)) : PSN N X sts (fun D σ H => ∃ i, t i D σ H) := ⟨fun pins s σ H D n I ⟨i, q⟩ => (h i).run pins s σ H D n I q⟩
section
variable {P : Program} {w : World} {A : Around} {E : Value → Shared → Prop} {s : Shared} {N : Nat}
theorem keepN {α : Type} {t : Sem α} {Q : α → Shared → Prop} (hn : N ≤ s.toks) (h : wpAny (model P w) A t (fun v s' => N ≤ s'.toks → Q v s') E s) : wpAny (model P w) A t Q E s := wpAny_with_toks hn (wpAny_mono h (fun _ _ z => z) fun _ _ z _ => z)
theorem execs_app {M : PySem.Model} {env : Env} {b : List Stmt} {Q : Flow → Shared → Prop} : ∀ {a : List Stmt} {s : Shared}, wpAny M A (execs a env) (fun f s' => match f with | .next => wpAny M A (execs b env) Q E s' | f => Q f s') E s → wpAny M A (execs (a ++ b) env) Q E s := by
  intro a s h Γ p hΓ
  replace h := h Γ p hΓ
  induction a generalizing p s with
  | nil => exact h Γ p hΓ
  | cons st a ih =>
    rw [List.cons_append, execs_cons, Sem.wp_bind']
    rw [execs_cons, Sem.wp_bind'] at h
    refine Sem.wp_mono M Γ _ (fun f p' s' h' => ?_) (fun _ _ _ h' => h') _ _ h
    cases f with
    | next => exact ih p' h'
    | brk => exact h'
    | cont => exact h'
    | ret u => exact h'
end
section
variable {X : Cx} {N : Nat} {st : Stmt} {a b rest sts : List Stmt} {t u : TS}
theorem sp_then {pins : List (Addr × Obj)} {D : Ends} {f : Flow} {s : Shared} {k : TS} {more : Sem Flow} (h : SP X pins { D with nx := k D } f s) (go : ∀ σ H, L2.Inv X pins σ H s → k D σ H → wpAny (model X.prog X.w) X.A more (SP X pins D) X.xe s) :
    match f with | .next => wpAny (model X.prog X.w) X.A more (SP X pins D) X.xe s | f => SP X pins D f s := by
  cases f with
  | next => obtain ⟨σ, H, I, q⟩ := h; exact go σ H I q
  | brk => exact h
  | cont => exact h
  | ret v => exact h
theorem psn_app (h1 : PSs X a t) (h2 : PSN N X b u) : PSN N X (a ++ b) (tSeq t u) := ⟨fun pins s σ H D hn I h =>
  execs_app (keepN hn (wpAny_mono (h1.run pins s σ H _ I h) (fun f s1 q le => by
    have z := sp_then (k := u) (more := execs b X.env) q fun σ1 H1 I1 q1 => h2.run pins s1 σ1 H1 D le I1 q1
    cases f <;> exact z) fun _ _ z => z))⟩
theorem psn_take (n : Nat) (h1 : PSs X (sts.take n) t) (h2 : PSN N X (sts.drop n) u) : PSN N X sts (tSeq t u) := List.take_append_drop n sts ▸ psn_app h1 h2
theorem psn_cons (h1 : PSt N X st t) (h2 : PSN N X rest u) : PSN N X (st :: rest) (tSeq t u) := ⟨fun pins s σ H D hn I h =>
  wpAny_execs_cons (keepN hn (wpAny_mono (h1.run pins s σ H _ hn I h) (fun f s1 q le => by
    have z := sp_then (k := u) (more := execs rest X.env) q fun σ1 H1 I1 q1 => h2.run pins s1 σ1 H1 D le I1 q1
    cases f <;> exact z) fun _ _ z => z))⟩
theorem pst_set {e : Expr} {x : Str} {i : Nat} {te : TE} {pos p : Pos} (hN : X.N.Nodup) (hi : X.N[i]? = some x) (hx : Loc X.env.scope x) (he : PEp N X e te) (hs : swapsWith e (some (.Name x p)) pos.line X.env = pure false) (hf : X.fn x = true ∨ X.env.scope.names.lookup x = some .local) :
    PSt N X (.Assign [.Name x p] e pos) (fun D σ H => te σ H fun v H' => D.nx (σ.set i (some v)) H') := ⟨fun pins s σ H D hn I h =>
  wpAny_Assign_Name (thn (he.run pins s σ H _ hn I h) fun u s1 ⟨v, H1, I1, r1, q1⟩ => store_ok I1 hN hi hx r1 (fun s2 I2 => ⟨_, H1, I2, q1⟩) hf) hs⟩
theorem pep_ifExp {c l r : Expr} {tc : TT} {tl tr : TE} {pos : Pos} (hc : PT X c tc) (hl : PEp N X l tl) (hr : PEp N X r tr) : PEp N X (.IfExp c l r pos) (tIf tc tl tr) := ⟨fun pins s σ H Q hn I h =>
  wpAny_IfExp (keepN hn (wpAny_mono (hc.run pins s σ H _ I h) (fun b s1 ⟨H1, I1, q1⟩ le => by
    cases b with
    | true => exact hl.run pins s1 σ H1 Q le I1 q1
    | false => exact hr.run pins s1 σ H1 Q le I1 q1) fun _ _ z => z))⟩
structure Turning (X : Cx) (pins : List (Addr × Obj)) (N : Nat) (fp : List Addr) (tn : Nat → Heap → Prop) (i : Nat) (σ : L2.St) (H : Hp) (s : Shared) : Prop where
  high : N ≤ s.toks
  inv : L2.Inv X pins σ H s
  at_ : tn i s.heap
  off : ∀ b ∈ fp, H b = none
theorem pst_for {tg iter : Expr} {body : List Stmt} {wi : TI} {g : TG} {tb : TS} {pos : Pos} (hp : PassesOwn (model X.prog X.w) X.A X.env X.xe) (hc : X.calm = true) (hi : PI X tg iter wi) (hg : PG X tg g) (hb : PSN N X body tb) (hs : ∀ x, foldedSetIterable iter X.env x = pure x := by intro _; rfl) :
    PSt N X (.For tg iter body [] pos) (tFor wi g tb) where
  run pins s σ H D hn I h := by
    refine wpAny_For (keepN hn (wpAny_mono (hi.run pins s σ H _ I h) (fun x s1 h1 n1 => keepN n1 (wpAny_mono h1 (fun v s2 got n2 => ?_) fun _ _ z => z)) fun _ _ z => z)) hs
    obtain ⟨it, fp, tn, J, H2, rfl, I2, T, st2, free, V, ⟨k0, w0⟩, turn⟩ := got
    refine codeAny_forLoop_any (fun k s' => ∃ i σ' H', Turning X pins N fp tn i σ' H' s' ∧ V i k σ' H') (fun k s3 ⟨i, σ3, H3, B, w3⟩ => ?_) k0 ⟨0, σ, H2, ⟨n2, I2, st2, fun b hb => (free b hb).1⟩, w0⟩
    have may : ∀ {H' : Hp}, (∀ b ∈ fp, H' b = none) → ∀ b ∈ fp, FpOk X pins H' b := fun no b hb => ⟨no b hb, (free b hb).2⟩
    rcases turn i k σ3 H3 w3 with ⟨stop, q⟩ | ⟨go, Nx, less, step⟩
    · refine wpAny_passesOwn hp (wpAny_mono (T.done X rfl rfl rfl hc i pins s3 σ3 H3 X.xe B.inv (may B.off) B.at_ stop) (fun r s4 ⟨er, I4⟩ => ?_) fun _ _ z => z)
      subst er
      exact wpAny_execs_nil ⟨σ3, H3, I4, q⟩
    · refine keepN B.high (wpAny_passesOwn hp (wpAny_mono (T.item X rfl rfl rfl hc i pins s3 σ3 H3 X.xe B.inv (may B.off) B.at_ go) (fun r s4 ⟨y, er, drawn⟩ n4 => ?_) fun _ _ z => z))
      subst er
      refine keepN n4 (wpAny_passesOwn hp (wpAny_mono drawn (fun _ s5 ⟨z, H5, I5, r5, y5, st5, off5⟩ n5 => ?_) fun _ _ z => z))
      refine keepN n5 (wpAny_passesOwn hp (wpAny_mono (hg.run _ s5 σ3 H5 z y _ (I5.pinned (may off5) (T.obj _ _ st5)) r5 (step z H5 y5)) (fun _ s6 ⟨σ6, H6, I6, q6⟩ n6 => ?_) fun _ _ z => z))
      refine keepN n6 (wpAny_passesOwn hp (wpAny_mono (hb.run _ s6 σ6 H6 _ n6 I6 q6) (fun f s7 q7 n7 => ?_) fun _ _ z => z))
      have next : (∃ σ' H', L2.Inv X (pins ++ pinsAt fp s5.heap) σ' H' s7 ∧ Nx σ' H') → ∃ m, m < k ∧ ∃ i σ' H', Turning X pins N fp tn i σ' H' s7 ∧ V i m σ' H' := fun ⟨σ7, H7, I7, nx⟩ => by
        obtain ⟨m, hm, w7⟩ := less σ7 H7 nx
        have held : ∀ b ∈ fp, ∀ o, s5.heap.get? b = some o → s7.heap.get? b = some o ∧ H7 b = none := fun b hb o e => let p := I7.pin (b, o) (by simp [mem_pinsAt hb e]); ⟨p.1, p.2.1⟩
        exact ⟨m, hm, i + 1, σ7, H7, ⟨n7, I7.unpinned, T.keep _ _ _ st5 fun b hb o e => (held b hb o e).1, fun b hb => let ⟨o, e, _⟩ := T.obj _ _ st5 b hb; (held b hb o e).2⟩, w7⟩
      cases f with
      | next => exact next q7
      | cont => exact next q7
      | brk => obtain ⟨σ7, H7, I7, q7⟩ := q7; exact ⟨σ7, H7, I7.unpinned, q7⟩
      | ret v => obtain ⟨x7, σ7, H7, I7, r7, q7⟩ := q7; exact ⟨x7, σ7, H7, I7.unpinned, r7, q7⟩
end
end DL
namespace DL
open PySem PySem.Spec PyProof.Rows L2
section
variable {X : Cx} {fx : Fx} {α β γ ε : Type} {G : List Sl} {ex : α → List Sl} {exb : β → List Sl} {exA : ε → List Sl} {sts rest A B body : List Stmt} {pos : Pos} {kk N : Nat} {e : Expr} [DL.TC]
theorem dsn_take {xa : M (Fl ε β)} {k : ε → M (Fl α β)} (n : Nat) (h1 : PSs X (sts.take n) (tS X.K X.mg fx G exA exb xa)) (h2 : ∀ v, PSN N X (sts.drop n) (tS X.K X.mg fx (exA v) ex exb (k v))) : PSN N X sts (tS X.K X.mg fx G ex exb (seqF xa k)) :=
  psnI (psn_take n h1 (psn_ex h2)) fun D σ H ⟨Hf, s, h⟩ => (tSX.seq (exA := exA) h).to
theorem dsn_asg {x : M D} {k : D → M (Fl α β)} (C : Cok X fx kk) {n : Str} {pos' : Pos} (i : Nat) (he : PEp N X e (tE X.K X.mg fx G x)) (hr : ∀ d, PSN N X rest (tS X.K X.mg fx (G.set i (.im d)) ex exb (k d))) (hi : X.N[i]? = some n := by rfl) (hx : Loc X.env.scope n := by first | exact Or.inl rfl | exact Or.inr rfl)
    (hs : swapsWith e (some (.Name n pos')) pos.line X.env = pure false := by rfl) (hf : X.fn n = true ∨ X.env.scope.names.lookup n = some .local := by first | exact .inl rfl | exact .inr rfl) (hg : GxOk fx G := by first | exact True.intro | repeat' (first | exact True.intro | exact Or.inl rfl | exact Or.inr rfl | refine And.intro ?_ ?_)) :
    PSN N X (.Assign [.Name n pos'] e pos :: rest) (tS X.K X.mg fx G ex exb (x >>= k)) := psnI (psn_cons (pst_set C.nd hi hx he hs hf) (psn_ex hr)) fun D σ H ⟨Hf, s, h⟩ =>
  ((h.bind hg).mono fun v H1 ⟨d, Hf1, s1, sb, r, h1⟩ => ⟨d, Hf1, s1, h1.1.set r, h1.2⟩).to
theorem dep_ifExp {c a b : Expr} {t : M Bool} {x y : M D} (hc : PT X c (tT X.K X.mg fx G t)) (ha : PEp N X a (tE X.K X.mg fx G x)) (hb : PEp N X b (tE X.K X.mg fx G y)) : PEp N X (.IfExp c a b pos) (tE X.K X.mg fx G (iteM t x y)) := pepI (pep_ifExp hc ha hb) fun σ H Q ⟨Hf, s, h⟩ =>
  (h.bind.mono fun v H1 ⟨d, Hf1, s1, sb, r, h1⟩ => by
    subst r
    cases v with
    | true => exact h1.to
    | false => exact h1.to).to
theorem dsn_for {exl : ε → List Sl} {tg iter : Expr} {g : TG} {u : D → Option γ} {st : List Sl → γ → List Sl} {xi : M (List D)} {xb : ε → γ → M (Fl ε ε)} {k : ε → M (Fl α β)} {is : List Nat} (a0 : ε) (C : Cok X fx kk) (hi : PI X tg iter (tI X.K X.mg fx G xi)) (hg : PGd X fx tg g u st is)
    (w : Wk G (exl a0)) (hb : ∀ a c, PSN N X body (tS X.K X.mg fx (st (exl a) c) exl exl (xb a c))) (hr : ∀ a, PSN N X rest (tS X.K X.mg fx (exl a) ex exb (k a))) (hs : ∀ x, foldedSetIterable iter X.env x = pure x := by intro _; rfl) (hst : X.stack = X.env :: X.outer := by rfl) (hx : GxOk fx G := by first | exact True.intro | repeat' (first | exact True.intro | exact Or.inl rfl | exact Or.inr rfl | refine And.intro ?_ ?_)) :
    PSN N X (.For tg iter body [] pos :: rest) (tS X.K X.mg fx G ex exb (do let ds ← xi; seqF (forF u xb ds a0) k)) := by
  refine psnI (psn_cons (pst_for (C.hp hst) C.calm hi hg.1 (psn_ex (ι := ε × γ) (t := fun p => tS X.K X.mg fx (st (exl p.1) p.2) exl exl (xb p.1 p.2)) fun p => hb p.1 p.2) hs) (psn_ex hr)) fun D σ H ⟨Hf, s, h⟩ => ?_
  refine ((h.bind hx).mono fun J H1 ⟨ds, Hf1, s1, sb, yl, h1⟩ => ?_).to
  have h2 := h1.seq (exA := exl)
  obtain ⟨st1, w1⟩ := h2
  refine ⟨fun i m σ H => m = ds.length - i ∧ i ≤ ds.length ∧ ∃ a Hf s, Sub Hf1 Hf ∧ StS X.K X.mg fx Hf H σ (exl a) s ∧
    Mo.wp (forF (β := β) u xb (ds.drop i) a) s (FP X.K X.mg fx Hf exl exb { D with nx := fun σ' H' => ∃ a, tS X.K X.mg fx (exl a) ex exb (k a) D σ' H' }) (EXS X.K X.mg fx), ⟨ds.length, by simp, Nat.zero_le _, a0, Hf1, s1, .refl _, st1.weak w, w1⟩, ?_⟩
  rintro i m σ H ⟨rfl, hi, a, Hf2, s2, sb2, st2, w2⟩
  obtain ⟨y1, y2⟩ := yl.2 Hf2 H sb2 st2.top i
  by_cases hlt : i < ds.length
  · obtain ⟨go, yd⟩ := y1 ds[i] (List.getElem?_eq_getElem hlt)
    rw [List.drop_eq_getElem_cons hlt] at w2
    have w3 := Mo.wp_bind w2
    have w4 := Mo.wp_lift w3
    refine .inr ⟨go, fun σ' H' => i + 1 ≤ ds.length ∧ ∃ a Hf s, Sub Hf1 Hf ∧ StS X.K X.mg fx Hf H' σ' (exl a) s ∧
      Mo.wp (forF (β := β) u xb (ds.drop (i + 1)) a) s (FP X.K X.mg fx Hf exl exb { D with nx := fun σ' H' => ∃ a, tS X.K X.mg fx (exl a) ex exb (k a) D σ' H' }) (EXS X.K X.mg fx), fun σ' H' q => ⟨ds.length - (i + 1), by omega, rfl, q⟩, fun x H' y => ?_⟩
    obtain ⟨Hf3, e3, is3⟩ := yd x H' y
    cases q : u ds[i] with
    | none => rw [q] at w4; exact w4.elim
    | some c =>
      rw [q] at w4
      have st3 := st2.step e3.wide (e3.bag st2.bag)
      refine hg.2 st3 is3 q fun σ' _ _ st4 => ?_
      refine ⟨(a, c), Hf3, s2, st4, ?_⟩
      refine Mo.wp_mono (Mo.wp_bind w4) (fun f s5 h5 => ?_) fun e s' k => k
      cases f with
      | nx a' => exact fun Hf' H' σ' sb' st' => ⟨hlt, a', Hf', s5, (sb2.trans e3.sub).trans sb', st', Mo.wp_mono h5 (fun f s2 h2 => h2.up (e3.sub.trans sb')) fun e s' k => k⟩
      | ct a' => exact fun Hf' H' σ' sb' st' => ⟨hlt, a', Hf', s5, (sb2.trans e3.sub).trans sb', st', Mo.wp_mono h5 (fun f s2 h2 => h2.up (e3.sub.trans sb')) fun e s' k => k⟩
      | bk a' => have z := Mo.wp_pure h5; exact fun Hf' H' σ' sb' => z Hf' H' σ' (e3.sub.trans sb')
      | rt d => have z := Mo.wp_pure h5; exact z
  · have e : i = ds.length := by omega
    subst e
    refine .inl ⟨y2 (Nat.le_refl _), ?_⟩
    rw [List.drop_length] at w2
    exact (Mo.wp_pure w2) Hf2 H σ (.refl _) st2
end
section
variable {X : Cx} {fx : Fx} {G : List Sl} {es : List Expr} {pos : Pos} {ys : M (List D)} {kk j n N : Nat} {g : List D → M D} {f : Addr} {fd : FuncData} {ps : List Str} {nm bn sn : Str} {p bp sp : Pos} {l : List D} [DL.TC]
theorem first_arg {d : D} : ((do let xs ← (do let x ← (pure d : M D); let r ← ys; pure (x :: r)); g xs) : M D) = (do let r ← ys; g (d :: r)) := by
  simp only [bind_assoc, pure_bind]
theorem dep_callT (ib i : Nat) (C : Cok X fx kk) (F : FnT X.prog X.w X.K X.mg X.base j f fd ps (n + 2) g) (hm : X.mg nm = some (.ref f)) (hk : PySem.W.keepIn X.K (.ref f) = true) (hb : Binds X.K fd ps []) (ha : PA X es (tA X.K X.mg fx G ys)) (hn : ∀ ds s, g ds s ≠ .stuck → ds.length = n + 1) (hne : ∀ ds s e s', g ds s ≠ .ex e s')
    (hj : j ≤ kk := by decide) (hGb : G[ib]? = some .bg := by rfl) (hG : G[i]? = some (.ra N l) := by rfl) (hNb : X.N[ib]? = some bn := by rfl) (hN : X.N[i]? = some sn := by rfl) (hvb : Vis X.env.scope bn := by first | exact Or.inl rfl | exact Or.inr (Or.inl rfl) | exact Or.inr (Or.inr rfl)) (hv : Vis X.env.scope sn := by first | exact Or.inl rfl | exact Or.inr (Or.inl rfl) | exact Or.inr (Or.inr rfl)) (hg : Gl X nm := by rfl)
    (hdb : (nm == ("__debug__" : Str)) = false := by decide) (hd1 : (bn == ("__debug__" : Str)) = false := by decide) (hc1 : (bn == ("__classdict__" : Str)) = false := by decide) (hd2 : (sn == ("__debug__" : Str)) = false := by decide) (hc2 : (sn == ("__classdict__" : Str)) = false := by decide)
    (he1 : starEach ((.Name bn bp : Expr) :: .Name sn sp :: es) X.env = (false, eval (.Name bn bp) X.env) :: starEach (.Name sn sp :: es) X.env := by rfl) (he2 : starEach ((.Name sn sp : Expr) :: es) X.env = (false, eval (.Name sn sp) X.env) :: starEach es X.env := by rfl)
    (hpl : (backTo pos (starEach ((.Name sn sp : Expr) :: es) X.env)).any (·.1) = false := by rfl) :
    PEp N X (.Call (.Name nm p) (.Name bn bp :: .Name sn sp :: es) [] pos) (tE X.K X.mg fx G (do let xs ← (do let x ← (pure (.lst l) : M D); let r ← ys; pure (x :: r)); g xs)) := by
  refine ⟨fun pins s σ H Q hn0 I ⟨Hf, S0, h⟩ => ?_⟩
  rw [first_arg] at h
  obtain ⟨b, r, eb, ev⟩ := h.1.sl ib _ hGb
  obtain ⟨o, ws, eo, ho, lo⟩ := h.1.sl i _ hG
  have hA := (pa_cons (pe_var (pos := bp) hNb hvb hd1 hc1) (pa_cons (pe_var (pos := sp) hN hv hd2 hc2) ha he2) he1).run pos pins s σ H (fun vs H1 => ∃ ds us' Hf1 s1, vs = .ref b :: .ref o :: us' ∧ Sub Hf Hf1 ∧ IsL X.K X.mg Hf1 ds us' ∧ tX X.K X.mg fx G (fun H d v => Is X.K X.mg H d v) (g (.lst l :: ds)) Hf1 s1 σ H1 Q) I
    ⟨.ref b, ev, .ref o, eo, (h.bind.mono fun us' H1 ⟨ds, Hf1, s1, sb, rl, h1⟩ => ⟨ds, us', Hf1, s1, rfl, sb, rl, h1⟩).to⟩
  refine wpAny_Call_Name_kw (ld_glob I hg hm (PySem.W.callWith_K (h₀ := X.base) I.ok.mod.kin hk (keepN hn0 (wpAny_mono hA (fun us s1 ⟨vs, H1, I1, rr, ds, us', Hf1, S1, ev', sb, rl, h1⟩ le => ⟨I1.kIn, ?_⟩) fun _ _ z => z)) he1 hpl) hdb)
  subst ev'
  have w : (g (.lst l :: ds) S1).wp _ _ := h1.2
  have hlen : ds.length + 1 = n + 1 := hn (.lst l :: ds) S1 fun z => by rw [z] at w; exact w
  have hl : us.length = ps.length := by
    rw [← rr.length, F.len]
    simp [← rl.len]
    omega
  have hbb := hb s1 us I1.kIn (by simpa using hl)
  rw [List.append_nil] at hbb
  refine wpAny_call (codeAny_mono (F.run X.A X.stack s1 H1 ⟨us, []⟩ us us' Q N fx.bag b o r Hf1 l ws ds S1 C.gd (C.rm.mono hj) I1.env0 hbb rr le (by rw [← rl.len]; omega) eb h1.1.topT h1.1.bagf h1.1.bag (sb _ _ ho) (lo.mono sb) rl ?_) fun r2 s' hh => ?_)
  · cases z : g (.lst l :: ds) S1 with
    | ok d S' => rw [z] at w; exact fun v Hf' H' st bg i => w v Hf' H' st bg i
    | ex e S' => exact (hne _ _ _ _ z).elim
    | stuck => rw [z] at w; exact w
  · obtain ⟨u, v, H', rfl, h1, h2, h3, h4, h5, h6⟩ := hh
    exact I1.after (Q := Q) ⟨v, H', h1, h2, h3, h4, h5, h6⟩
theorem de_callS (ib i : Nat) (C : Cok X fx kk) (F : FnG X.prog X.w X.K X.mg X.base j f fd ps (fun vs H Q E => ∃ Nn, spS X.K X.mg false (n + 2) Nn g vs H Q E)) (hm : X.mg nm = some (.ref f)) (hk : PySem.W.keepIn X.K (.ref f) = true) (hb : Binds X.K fd ps []) (ha : PA X es (tA X.K X.mg fx G ys)) (hn : ∀ ds s, g ds s ≠ .stuck → ds.length = n + 1)
    (hj : j ≤ kk := by decide) (hGb : G[ib]? = some .bg := by rfl) (hG : G[i]? = some (.ra N l) := by rfl) (hNb : X.N[ib]? = some bn := by rfl) (hN : X.N[i]? = some sn := by rfl) (hvb : Vis X.env.scope bn := by first | exact Or.inl rfl | exact Or.inr (Or.inl rfl) | exact Or.inr (Or.inr rfl)) (hv : Vis X.env.scope sn := by first | exact Or.inl rfl | exact Or.inr (Or.inl rfl) | exact Or.inr (Or.inr rfl)) (hg : Gl X nm := by rfl)
    (hdb : (nm == ("__debug__" : Str)) = false := by decide) (hd1 : (bn == ("__debug__" : Str)) = false := by decide) (hc1 : (bn == ("__classdict__" : Str)) = false := by decide) (hd2 : (sn == ("__debug__" : Str)) = false := by decide) (hc2 : (sn == ("__classdict__" : Str)) = false := by decide)
    (he1 : starEach ((.Name bn bp : Expr) :: .Name sn sp :: es) X.env = (false, eval (.Name bn bp) X.env) :: starEach (.Name sn sp :: es) X.env := by rfl) (he2 : starEach ((.Name sn sp : Expr) :: es) X.env = (false, eval (.Name sn sp) X.env) :: starEach es X.env := by rfl)
    (hpl : (backTo pos (starEach ((.Name sn sp : Expr) :: es) X.env)).any (·.1) = false := by rfl) :
    PE X (.Call (.Name nm p) (.Name bn bp :: .Name sn sp :: es) [] pos) (tE X.K X.mg fx G (do let xs ← (do let x ← (pure (.lst l) : M D); let r ← ys; pure (x :: r)); g xs)) :=
  peI (pe_callG (E := WE fx.W) F C.gd (C.rm.mono hj) hg hm hk hb .nil (fun σ => passAt C.tk σ) (pa_cons (pe_var hNb hvb hd1 hc1) (pa_cons (pe_var hN hv hd2 hc2) ha he2) he1) hdb he1 hpl) fun σ H Q ⟨Hf, S0, h⟩ => by
    rw [first_arg] at h
    obtain ⟨b, r, eb, ev⟩ := h.1.sl ib _ hGb
    obtain ⟨o, ws, eo, ho, lo⟩ := h.1.sl i _ hG
    refine ⟨.ref b, ev, .ref o, eo, (h.bind.mono fun us H1 ⟨ds, Hf1, s1, sb, rl, h1⟩ => ?_).to⟩
    show ∃ Nn, spS X.K X.mg false (n + 2) Nn g ((.ref b :: .ref o :: us) ++ []) H1 Q (WE fx.W σ)
    rw [List.append_nil]
    have w : (g (.lst l :: ds) s1).wp _ _ := h1.2
    have hlen : ds.length + 1 = n + 1 := hn (.lst l :: ds) s1 fun z => by rw [z] at w; exact w
    refine ⟨N, by simp [← rl.len]; omega, fx.bag, b, r, o, Hf1, l, ws, ds, us, s1, eb, rfl, h1.1.topT, h1.1.bagf, h1.1.bag, sb _ _ ho, lo.mono sb, rl, ?_⟩
    cases z : g (.lst l :: ds) s1 with
    | ok d s' => rw [z] at w; exact fun v Hf' H' st bg i => w v Hf' H' st bg i
    | ex e s' => rw [z] at w; exact fun cls dd Hf' H' st bg x => w cls dd Hf' H' (h1.1.step st bg) x
    | stuck => rw [z] at w; exact w
end
end DL
namespace DL
open PySem PySem.Spec PyProof.Rows L2
theorem StS.setRa [DL.TC] {K : PySem.W.Frag} {mg : Str → Option Value} {fx : Fx} {Hf H : Hp} {σ : L2.St} {G : List Sl} {s : S} {i N : Nat} {q : Addr} {vs : List V} {ds : List D} (st : StS K mg fx Hf H σ G s) (at_ : Hf q = some (RwO N vs q)) (are : IsL K mg Hf ds vs) : StS K mg fx Hf H (σ.set i (some (.ref q))) (G.set i (.ra N ds)) s := by
  refine ⟨st.ste, st.bag, st.bagg, st.tb, by simpa using st.len, fun j x e => ?_, fun j k x y p hjk ex ey ox oy e1 e2 => ?_⟩
  · by_cases c : i = j
    · subst c
      have hi : i < G.length := by simpa using (List.getElem?_eq_some_iff.mp e).1
      rw [List.getElem?_set_self hi] at e
      cases e
      exact ⟨q, vs, List.getElem?_set_self (by rw [st.len]; exact hi), at_, are⟩
    · rw [List.getElem?_set_ne c] at e
      rw [List.getElem?_set_ne c]
      exact st.sl j x e
  · have no : ∀ {j : Nat} {x : Sl}, (G.set i (.ra N ds))[j]? = some x → isOw x = true → j ≠ i := fun {j x} e o z => by
      subst z
      rw [List.getElem?_set_self (by simpa using (List.getElem?_eq_some_iff.mp e).1)] at e
      cases e; cases o
    have nj := no ex ox
    have nk := no ey oy
    rw [List.getElem?_set_ne (Ne.symm nj)] at ex e1
    rw [List.getElem?_set_ne (Ne.symm nk)] at ey e2
    exact st.dis j k x y p hjk ex ey ox oy e1 e2
section
variable {X : Cx} {fx : Fx} {m : Type → Type} [Mo m] {G : List Sl} {N : Nat} {n : Str} {np p pos : Pos} {ds : List D} [DL.TC]
theorem wp_lenU {s : S} {Q : D → S → Prop} {E : Exn → S → Prop} (h : Mo.wp (do let r ← (do let x ← (pure (D.lst ds) : m D); let r0 ← (pure [] : m (List D)); pure (x :: r0)); DL.ask (lenD r) : m D) s Q E) : Q (.int ds.length) s := by
  have h1 := Mo.wp_bind h
  have h2 := Mo.wp_pure (Mo.wp_bind h1)
  have h3 := Mo.wp_pure (Mo.wp_pure (Mo.wp_bind h2))
  exact Mo.wp_lift h3
theorem de_raLn (i : Nat) (hm : X.mg "len" = none) (hG : G[i]? = some (.ra N ds) := by rfl) (hN : X.N[i]? = some n := by rfl) (hv : Vis X.env.scope n := by first | exact Or.inl rfl | exact Or.inr (Or.inl rfl) | exact Or.inr (Or.inr rfl)) (hd : (n == ("__debug__" : Str)) = false := by decide) (hcd : (n == ("__classdict__" : Str)) = false := by decide) (hg : Gl X "len" := by rfl)
    (hs : starEach [(.Name n np : Expr)] X.env = (false, eval (.Name n np) X.env) :: starEach [] X.env := by rfl) (hpl : (backTo pos (starEach [] X.env)).any (·.1) = false := by rfl) :
    PE X (.Call (.Name "len" p) [.Name n np] [] pos) (tE X.K X.mg fx G (do let r ← (do let x ← (pure (D.lst ds) : m D); let r0 ← (pure [] : m (List D)); pure (x :: r0)); DL.ask (lenD r))) :=
  peI (pe_callB cr_lenR hg hm rfl (pa_cons (pe_var (pos := np) hN hv hd hcd) pa_nil hs) (by decide) (by decide) hs hpl) fun σ H Q ⟨Hf, s, st, w⟩ => by
    obtain ⟨q, vs, eq, hq, l⟩ := st.sl i _ hG
    have w' := wp_lenU w
    refine ⟨.ref q, eq, q, N, vs, rfl, st.top _ _ hq, ?_⟩
    rw [← l.len]
    exact w' _ Hf H (.refl st.top) st.bag (is_int _)
end
theorem runM_ret {x : M D} : runM false (do let d ← x; pure (.rt d)) = x := by
  funext s
  unfold runM
  rw [M.bind_ap]
  cases x s <;> rfl
theorem runT_calm {x : M (Fl Unit Empty)} {s : S} {e : Exn} {s' : S} : runT x s ≠ .ex e s' := by
  unfold runT
  split <;> exact fun z => nomatch z
def withS (f : List D → List D → M D) : List D → M D
  | .lst l :: ds => f l ds
  | _ => fun _ => .stuck
theorem withS_len {f : List D → List D → M D} {k : Nat} (h : ∀ l ds s, f l ds s ≠ .stuck → ds.length = k) : ∀ ds s, withS f ds s ≠ .stuck → ds.length = k + 1 := fun ds s q => by
  rcases ds with _ | ⟨d, ds⟩
  · exact absurd rfl q
  · cases d with
    | lst l => exact congrArg (· + 1) (h l ds s q)
    | _ => exact absurd rfl q
theorem withS_calm {f : List D → List D → M D} (h : ∀ l ds s e s', f l ds s ≠ .ex e s') : ∀ ds s e s', withS f ds s ≠ .ex e s' := fun ds s e s' => by
  rcases ds with _ | ⟨d, ds⟩
  · exact fun z => nomatch z
  · cases d with
    | lst l => exact h l ds s e s'
    | _ => exact fun z => nomatch z
theorem apM1_calm {f : D → M D} (h : ∀ a s e s', f a s ≠ .ex e s') : ∀ (ds : List D) s e s', apM1 f ds s ≠ .ex e s' := fun ds s e s' => by
  rcases ds with _ | ⟨a, _ | ⟨b, ds⟩⟩
  · exact fun z => nomatch z
  · exact h a s e s'
  · exact fun z => nomatch z
theorem FnOfR.congr [DL.TC] {P : Program} {w : World} {K : PySem.W.Frag} {mg : Str → Option Value} {base : Heap} {k : Nat} {f : Addr} {fd : FuncData} {ps : List Str} {g g2 : D → M D} (F : FnOfR P w K mg base k f fd ps g) (e : ∀ ds, g (.lst ds) = g2 (.lst ds)) : FnOfR P w K mg base k f fd ps g2 := by
  intro A outer s H Hf args us bag b r S0 o N vs ds Q
  rw [← e ds]
  exact F A outer s H Hf args us bag b r S0 o N vs ds Q
section
variable {X : Cx} {fx : Fx} {α β : Type} {ex : α → List Sl} {exb : β → List Sl} {G : List Sl} {kk j ib i : Nat} {nm bn n : Str} {p bp pos p' pos' : Pos} {e : Expr} {f : Addr} {fd : FuncData} {ps : List Str} {g : D → M D} {x : M D} {rest : List Stmt} {k : List D → M (Fl α β)} [DL.TC]
theorem per_sgn (C : Cok X fx kk) (F : FnSg X.prog X.w X.K X.mg X.base j f fd ps g) (hps : ps.length = 2) (hm : X.mg nm = some (.ref f)) (hk : PySem.W.keepIn X.K (.ref f) = true) (hb : Binds X.K fd ps []) (hj : j ≤ kk) (he : PE X e (tE X.K X.mg fx G x)) (hGb : G[ib]? = some .bg) (hNb : X.N[ib]? = some bn) (hvb : Vis X.env.scope bn) (hg : Gl X nm)
    (hdb : (nm == ("__debug__" : Str)) = false) (hd1 : (bn == ("__debug__" : Str)) = false) (hc1 : (bn == ("__classdict__" : Str)) = false)
    (he1 : starEach [(.Name bn bp : Expr), e] X.env = (false, eval (.Name bn bp) X.env) :: starEach [e] X.env) (he2 : starEach [e] X.env = (false, eval e X.env) :: starEach [] X.env) (hpl : (backTo pos (starEach [e] X.env)).any (·.1) = false) :
    PER X (.Call (.Name nm p) [.Name bn bp, e] [] pos) (fun σ H Q => ∃ Hf s, StS X.K X.mg fx Hf H σ G s ∧ Mo.wp (do let d ← x; Mo.noex (g d)) s (fun r s' => ∃ ds, r = .lst ds ∧ ∀ (q : Addr) (N : Nat) (vs : List V) (Hf' H' : Hp) (sh : Shared), Ste fx.bag Hf H Hf' H' → BagAt fx.bag H' s' → Hf' q = some (RwO N vs q) → IsL X.K X.mg Hf' ds vs → N ≤ sh.toks → Q (.ref q) (.ref q) H' sh) (EX X.K X.mg fx G σ)) := by
  refine ⟨fun pins s σ H Q I ⟨Hf, S0, st, w⟩ => ?_⟩
  obtain ⟨b, r, eb, ev⟩ := st.sl ib _ hGb
  have w1 := Mo.wp_bind w
  have hA := (pa_cons (pe_var (pos := bp) hNb hvb hd1 hc1) (pa_cons he pa_nil he2) he1).run pos pins s σ H (fun vs H1 => ∃ v d Hf1 S1, vs = [.ref b, v] ∧ StS X.K X.mg fx Hf1 H1 σ G S1 ∧ Ste fx.bag Hf H Hf1 H1 ∧ Is X.K X.mg Hf1 d v ∧ Mo.wp (Mo.noex (g d)) S1 (fun r s' => ∃ ds, r = .lst ds ∧ ∀ (q : Addr) (N : Nat) (vs : List V) (Hf' H' : Hp) (sh : Shared), Ste fx.bag Hf H Hf' H' → BagAt fx.bag H' s' → Hf' q = some (RwO N vs q) → IsL X.K X.mg Hf' ds vs → N ≤ sh.toks → Q (.ref q) (.ref q) H' sh) (EX X.K X.mg fx G σ)) I
    ⟨.ref b, ev, Hf, S0, st, Mo.wp_mono w1 (fun d S1 w2 v Hf1 H1 e1 bg1 is => ⟨v, d, Hf1, S1, rfl, st.step e1 bg1, e1, is, w2⟩) fun _ _ k => k⟩
  refine wpAny_Call_Name_kw (ld_glob I hg hm (PySem.W.callWith_K (h₀ := X.base) I.ok.mod.kin hk (thn hA fun us s1 ⟨vs, H1, I1, rr, v, d, Hf1, S1, ev', st1, e1, is, w2⟩ => ⟨I1.kIn, ?_⟩) he1 hpl) hdb)
  subst ev'
  have w3 : (g d S1).wp _ _ := Mo.wp_noex w2
  have hl : us.length = ps.length := by rw [← rr.length, hps]; rfl
  have hbb := hb s1 us I1.kIn (by simpa using hl)
  rw [List.append_nil] at hbb
  refine wpAny_call (codeAny_mono (F X.A X.stack s1 H1 Hf1 ⟨us, []⟩ us fx.bag b r S1 v d (fun v H' s' => ∃ q, v = .ref q ∧ Q (.ref q) (.ref q) H' s') C.gd (C.rm.mono hj) I1.env0 hbb rr eb st1.topT st1.bagf st1.bag is ?_) fun r2 s' hh => ?_)
  · generalize g d S1 = z at w3 ⊢
    cases z with
    | ok r S' =>
      obtain ⟨ds, rfl, w4⟩ := w3
      exact fun q N vs Hf' H' s' e2 bg2 at_ are le => ⟨q, rfl, w4 q N vs Hf' H' s' (e1.trans e2) bg2 at_ are le⟩
    | ex e S' => exact w3.elim
    | stuck => exact w3.elim
  · obtain ⟨u, v, H', rfl, h1, h2, h3, h4, h5, q, rfl, h6⟩ := hh
    cases h5
    exact I1.after (Q := fun v H' => Q v (.ref q) H' s') ⟨.ref q, H', h1, h2, h3, h4, rfl, h6⟩
theorem dss_sgn (ib i : Nat) (C : Cok X fx kk) (F : FnSg X.prog X.w X.K X.mg X.base j f fd ps g) (hps : ps.length = 2) (hm : X.mg nm = some (.ref f)) (hk : PySem.W.keepIn X.K (.ref f) = true) (hb : Binds X.K fd ps []) (he : PE X e (tE X.K X.mg fx G x)) (hr : ∀ (N : Nat) ds, PSN N X rest (tS X.K X.mg fx (G.set i (.ra N ds)) ex exb (k ds))) (hj : j ≤ kk := by decide)
    (hGb : G[ib]? = some .bg := by rfl) (hNb : X.N[ib]? = some bn := by rfl) (hvb : Vis X.env.scope bn := by first | exact Or.inl rfl | exact Or.inr (Or.inl rfl) | exact Or.inr (Or.inr rfl)) (hi : X.N[i]? = some n := by rfl) (hx : Loc X.env.scope n := by first | exact Or.inl rfl | exact Or.inr rfl) (hf : X.fn n = true ∨ X.env.scope.names.lookup n = some .local := by first | exact .inl rfl | exact .inr rfl) (hg : Gl X nm := by rfl)
    (hdb : (nm == ("__debug__" : Str)) = false := by decide) (hd1 : (bn == ("__debug__" : Str)) = false := by decide) (hc1 : (bn == ("__classdict__" : Str)) = false := by decide)
    (he1 : starEach [(.Name bn bp : Expr), e] X.env = (false, eval (.Name bn bp) X.env) :: starEach [e] X.env := by rfl) (he2 : starEach [e] X.env = (false, eval e X.env) :: starEach [] X.env := by rfl) (hpl : (backTo pos (starEach [e] X.env)).any (·.1) = false := by rfl)
    (hs : swapsWith (.Call (.Name nm p) [.Name bn bp, e] [] pos) (some (.Name n p')) pos'.line X.env = pure false := by rfl) (hx2 : GxOk fx G := by first | exact True.intro | repeat' (first | exact True.intro | exact Or.inl rfl | exact Or.inr rfl | refine And.intro ?_ ?_)) :
    PSs X (.Assign [.Name n p'] (.Call (.Name nm p) [.Name bn bp, e] [] pos) pos' :: rest) (tS X.K X.mg fx G ex exb (do let d ← x; let r ← Mo.noex (g d); let ds ← DL.ask (lstOf r); k ds)) := by
  refine ⟨fun pins s σ H De I ⟨Hf, S0, st, w⟩ => wpAny_execs_cons (wpAny_Assign_Name (thn ((per_sgn (p := p) (bp := bp) (pos := pos) C F hps hm hk hb hj he hGb hNb hvb hg hdb hd1 hc1 he1 he2 hpl).run pins s σ H (fun v u H1 s1 => ∃ q N ds vs Hf1 S1, v = .ref q ∧ u = .ref q ∧ N ≤ s1.toks ∧ StS X.K X.mg fx Hf1 H1 σ G S1 ∧ Sub Hf Hf1 ∧ Hf1 q = some (RwO N vs q) ∧ IsL X.K X.mg Hf1 ds vs ∧ Mo.wp (k ds) S1 (FP X.K X.mg fx Hf ex exb De) (EXS X.K X.mg fx)) I ⟨Hf, S0, st, ?_⟩) fun u s1 ⟨v, H1, I1, rv, q, N, ds, vs, Hf1, S1, ev, eu, le, st1, sb, at_, are, w1⟩ => ?_) hs)⟩
  · have w1 : Mo.wp ((do let d ← x; Mo.noex (g d)) >>= fun r => (do let ds ← DL.ask (lstOf r); k ds)) S0 (FP X.K X.mg fx Hf ex exb De) (EXS X.K X.mg fx) := by rw [bind_assoc]; exact w
    refine Mo.wp_mono (Mo.wp_bind w1) (fun r s' w2 => ?_) fun e s' k => exs_ex hx2 k
    have w3 := Mo.wp_lift (Mo.wp_bind w2)
    cases r with
    | lst ds => exact ⟨ds, rfl, fun q N vs Hf' H' sh e1 bg at_ are le => ⟨q, N, ds, vs, Hf', s', rfl, rfl, le, st.step e1 bg, e1.sub, at_, are, Mo.wp_mono w3 (fun f s2 h2 => h2) fun e s' k => k⟩⟩
    | _ => exact w3.elim
  · subst ev
    subst eu
    refine keepN le (store_ok I1 C.nd hi hx rv (fun s2 I2 le2 => ?_) hf)
    refine (hr N ds).run pins s2 _ H1 De le2 I2 ⟨Hf1, S1, ?_, Mo.wp_mono w1 (fun f s2 h2 => h2.up sb) fun e s' k => k⟩
    exact st1.setRa at_ are
end
end DL
namespace DL
open PySem PySem.Spec PyProof.Rows L2
theorem unpack_two {prog : Program} {w : World} {A : Around} {E : Value → Shared → Prop} {s : Shared} {a : Addr} {u v : Value} {Q : List Value → Shared → Prop} (hh : A.handled = none) (is : s.heap.IsList a #[u, v])
    (go : ∀ h', Heap.ExtBut s.heap.objs.size s.heap h' → Q [u, v] { s with heap := h' }) : wpAny (model prog w) A (unpackItems (.ref a) 2 none) Q E s := by
  have apart : a ≠ s.heap.objs.size := let ⟨_, e, _⟩ := is; Nat.ne_of_lt (Heap.lt_size e)
  have stays : ∀ {h : Heap}, (∀ o, s.heap.get? a = some o → h.get? a = some o) → h.IsList a #[u, v] := fun k => let ⟨o, e, r⟩ := is; ⟨o, k o e, r⟩
  have notNot : wpAny (model prog w) A (notIterableAtAll (.ref a)) (fun b s' => b = false ∧ s' = s) E s := by
    unfold notIterableAtAll
    exact wpAny_bind (wpAny_specialOf is.typeIs slot_list_iter.lookup (wpAny_pure ⟨rfl, rfl⟩))
  unfold unpackItems
  refine wpAny_bind (wpAny_mono notNot (fun b s' ⟨eb, es⟩ => ?_) fun _ _ z => z)
  subst eb
  subst es
  rw [if_neg Bool.false_ne_true]
  have p0 : ∀ o, s'.heap.get? a = some o → (s'.heap.push { cls := .type "list_iterator", data := .fields #[.ref a, .int 0 0] }).get? a = some o := fun o e => Heap.get?_push_of_some _ e
  refine wpAny_bind (wpAny_holding (wpAny_pyIter_list is ?_))
  -- the first and the second
  have two : wpAny (model prog w) A (draw (.ref s'.heap.objs.size) 2) (fun xs s2 => xs = [u, v] ∧ ∃ h, s2 = { s' with heap := h } ∧ h.IsListIter s'.heap.objs.size a 2 ∧ Heap.ExtBut s'.heap.objs.size s'.heap h) E
      { s' with heap := s'.heap.push { cls := .type "list_iterator", data := .fields #[.ref a, .int 0 0] } } := by
    show wpAny _ _ (pyNext (.ref s'.heap.objs.size) >>= _) _ _ _
    refine wpAny_bind (wpAny_pyNext_list_item (i := 0) (x := u) ⟨_, Heap.get?_push_size _ rfl, rfl, rfl⟩ (stays p0) rfl fun h1 it1 k1 => ?_)
    have e1 : ∀ b o, b ≠ s'.heap.objs.size → s'.heap.get? b = some o → h1.get? b = some o := fun b o ne e => (k1.2 b ne).trans (Heap.get?_push_of_some _ e)
    refine wpAny_bind (wpAny_holding ?_)
    show wpAny _ _ (pyNext (.ref s'.heap.objs.size) >>= _) _ _ _
    refine wpAny_bind (wpAny_pyNext_list_item (i := 1) (x := v) it1 (stays fun o e => e1 a o apart e) rfl fun h2 it2 k2 => ?_)
    exact wpAny_bind (wpAny_holding (wpAny_pure (wpAny_pure (wpAny_pure ⟨rfl, h2, rfl, it2, fun b o ne e => (k2.2 b ne).trans (e1 b o ne e)⟩))))
  refine wpAny_bind (wpAny_holding (wpAny_mono two (fun xs s2 ⟨exs, h, es, it2, k2⟩ => ?_) fun _ _ z => z))
  subst exs
  subst es
  rw [if_neg (show ¬ [u, v].length < 2 from Nat.lt_irrefl 2)]
  refine wpAny_bind (wpAny_holding (wpAny_pyNext_list_end (i := 2) hh it2 (stays fun o e => k2 a o apart e) rfl fun h3 k3 => ?_))
  simp only [Option.isSome_none, Bool.false_eq_true, if_false]
  exact wpAny_pure (go h3 fun b o ne e => k3 b o ne (k2 b o ne e))
def gTwo (K : PySem.W.Frag) (t : TGs) : TG := fun v σ H Q => ∃ a x y, v = .ref a ∧ SqL K H a [x, y] ∧ t [x, y] σ H Q
theorem pg_two {X : Cx} {es : List Expr} {k : Nat} {pos : Pos} {t : TGs} (hc : X.calm = true) (h : PGs X es t) (hn : (assignEach es X.env).length = 2 := by rfl) (hst : (assignEach es X.env).findIdx? (·.1) = none := by rfl) : PG X (.Tuple es k pos) (gTwo X.K t) where
  run pins s σ H v u Q I r hw := by
    obtain ⟨a, x, y, rfl, hq, hw⟩ := hw
    cases r
    obtain ⟨its, rv, lies, _⟩ := I.list hq
    have two : ∃ u1 u2, its = [u1, u2] := by
      cases rv with
      | cons r1 rv =>
        cases rv with
        | cons r2 rv => cases rv; exact ⟨_, _, rfl⟩
    obtain ⟨u1, u2, rfl⟩ := two
    rw [assign_Tuple]
    refine wpAny_bind (wpAny_standAt ?_)
    unfold unpack
    rw [hn, hst]
    refine wpAny_bind (wpAny_holding (unpack_two (I.ok.hd hc) lies.isList fun h' k => ?_))
    exact h.run pins _ σ H [x, y] _ Q (I.kept (t' := s.toks) fun b o e => k b o (Nat.ne_of_lt (Heap.lt_size e)) e) rv hw
def un2L : D → Option (D × D)
  | .lst [a, b] => some (a, b)
  | _ => none
theorem pgd_tup2L [DL.TC] {X : Cx} {fx : Fx} {kk : Nat} {pos : Pos} (C : Cok X fx kk) (i j : Nat) {n1 n2 : Str} {p1 p2 : Pos} {k : Nat} (hi : X.N[i]? = some n1 := by rfl) (hx : Loc X.env.scope n1 := by first | exact Or.inl rfl | exact Or.inr rfl) (hf : X.fn n1 = true ∨ X.env.scope.names.lookup n1 = some .local := by first | exact .inl rfl | exact .inr rfl)
    (hi2 : X.N[j]? = some n2 := by rfl) (hx2 : Loc X.env.scope n2 := by first | exact Or.inl rfl | exact Or.inr rfl) (hf2 : X.fn n2 = true ∨ X.env.scope.names.lookup n2 = some .local := by first | exact .inl rfl | exact .inr rfl) :
    PGd X fx (.Tuple [.Name n1 p1, .Name n2 p2] k pos) (gTwo X.K (gCons (gName i) (gCons (gName j) gNil))) un2L (fun G d => (G.set i (.im d.1)).set j (.im d.2)) [i, j] :=
  ⟨pg_two C.calm (pgs_cons (pg_name C.nd hi hx hf) (pgs_cons (pg_name C.nd hi2 hx2 hf2) pgs_nil)), fun {G Hf d v σ H s c Q} st r e q => by
    cases d with
    | lst ds =>
      obtain ⟨hz, a, vs, rfl, t, l⟩ := r
      unfold un2L at e
      split at e
      · rename_i d1 d2 eq
        cases eq
        cases e
        obtain ⟨v1, r1, rfl, i1, v2, r2, rfl, i2, rfl⟩ := l
        refine ⟨a, v1, v2, rfl, ?_, v1, _, rfl, v2, _, rfl, rfl, q _ (fun k hk => ?_) (by simp) ((st.set i1).set i2)⟩
        · exact .inl (.inl (st.top _ _ t))
        · rw [List.getElem?_set_ne (fun z => hk (by simp [z])), List.getElem?_set_ne (fun z => hk (by simp [z]))]
      · cases e
    | _ => cases e⟩
end DL
namespace FN
open DL
def c_LABEL : D := (.str [108, 97, 98, 101, 108])
def k_label_shape_c600_0 (c2 : D × D × D) : R (Fl (Unit) (Empty)) := (do let v21 ← (do let r19 ← (do let x17 ← (do let r7 ← (do let x5 ← (pure c2.1); let r6 ← pure []; pure (x5 :: r6)); DL.ask (tupleXD r7)); let r18 ← (do let x15 ← (do let r10 ← (do let x8 ← (pure c2.2.2); let r9 ← pure []; pure (x8 :: r9)); DL.ask (tupleXD r10)); let r16 ← (do let x13 ← (do let x11 ← (pure c2.2.1); let y12 ← (pure (.str [42])); DL.ask (eqD x11 y12)); let r14 ← pure []; pure (x13 :: r14)); pure (x15 :: r16)); pure (x17 :: r18)); let r20 ← DL.ask (szL r19); pure (.tup r20)); pure (.rt v21))
theorem l_label_shape_c600_0 (c2 : D × D × D) : k_label_shape_c600_0 c2 = (do let v21 ← (do let r19 ← (do let x17 ← (do let r7 ← (do let x5 ← (pure c2.1); let r6 ← pure []; pure (x5 :: r6)); DL.ask (tupleXD r7)); let r18 ← (do let x15 ← (do let r10 ← (do let x8 ← (pure c2.2.2); let r9 ← pure []; pure (x8 :: r9)); DL.ask (tupleXD r10)); let r16 ← (do let x13 ← (do let x11 ← (pure c2.2.1); let y12 ← (pure (.str [42])); DL.ask (eqD x11 y12)); let r14 ← pure []; pure (x13 :: r14)); pure (x15 :: r16)); pure (x17 :: r18)); let r20 ← DL.ask (szL r19); pure (.tup r20)); pure (.rt v21)) := id rfl
def b_label_shape_c600 (a0 : D) : R (Fl Unit Empty) := (do let v1 ← (do let x3 ← (pure a0); let _ ← DL.ask (strOf x3); let y4 ← (pure (.str [42])); DL.ask (partD x3 y4)); let c2 ← DL.ask (un3 v1); (k_label_shape_c600_0 c2))
theorem e_label_shape_c600 (a0 : D) : b_label_shape_c600 a0 = (do let _ ← DL.ask (strOf a0); let v1 ← (DL.ask (partD a0 (.str [42]))); let c2 ← DL.ask (un3 v1); let x17 ← (DL.ask (tupleXD [c2.1])); let x15 ← (DL.ask (tupleXD [c2.2.2])); let x13 ← (DL.ask (eqD c2.2.1 (.str [42]))); let r20 ← DL.ask (szL [x17, x15, x13]); pure (.rt (.tup r20))) := by
  unfold b_label_shape_c600; simp only [l_label_shape_c600_0, pure_bind, bind_assoc, mkL]
def m_label_shape_c600 : List D → R D := apR1 fun a0 => (runR false (b_label_shape_c600 a0))
theorem n_label_shape_c600 : ∀ ds : List D, m_label_shape_c600 ds ≠ .stuck → ds.length = 1 := apR1_len _
def k__law_fits_4276_0 (a1 : D) (c8 : D × D) : R (Fl (Unit) (Empty)) := (do let v51 ← (andV (do let x34 ← (do let x31 ← (pure a1); let l32 ← (pure none); let u33 ← (do let x29 ← (do let r28 ← (do let x26 ← (pure c8.1); let r27 ← pure []; pure (x26 :: r27)); DL.ask (lenD r28)); let i30 ← DL.ask (intOf x29); pure (some i30)); DL.ask (sliceD x31 l32 u33)); let y35 ← (pure c8.1); DL.ask (eqD x34 y35)) (do let x49 ← (do let x46 ← (pure a1); let l47 ← (do let x44 ← (do let x42 ← (do let r38 ← (do let x36 ← (pure a1); let r37 ← pure []; pure (x36 :: r37)); DL.ask (lenD r38)); let y43 ← (do let r41 ← (do let x39 ← (pure c8.2); let r40 ← pure []; pure (x39 :: r40)); DL.ask (lenD r41)); DL.ask (subD x42 y43)); let i45 ← DL.ask (intOf x44); pure (some i45)); let u48 ← (pure none); DL.ask (sliceD x46 l47 u48)); let y50 ← (pure c8.2); DL.ask (eqD x49 y50))); pure (.rt v51))
theorem l__law_fits_4276_0 (a1 : D) (c8 : D × D) : k__law_fits_4276_0 a1 c8 = (do let v51 ← (andV (do let x34 ← (do let x31 ← (pure a1); let l32 ← (pure none); let u33 ← (do let x29 ← (do let r28 ← (do let x26 ← (pure c8.1); let r27 ← pure []; pure (x26 :: r27)); DL.ask (lenD r28)); let i30 ← DL.ask (intOf x29); pure (some i30)); DL.ask (sliceD x31 l32 u33)); let y35 ← (pure c8.1); DL.ask (eqD x34 y35)) (do let x49 ← (do let x46 ← (pure a1); let l47 ← (do let x44 ← (do let x42 ← (do let r38 ← (do let x36 ← (pure a1); let r37 ← pure []; pure (x36 :: r37)); DL.ask (lenD r38)); let y43 ← (do let r41 ← (do let x39 ← (pure c8.2); let r40 ← pure []; pure (x39 :: r40)); DL.ask (lenD r41)); DL.ask (subD x42 y43)); let i45 ← DL.ask (intOf x44); pure (some i45)); let u48 ← (pure none); DL.ask (sliceD x46 l47 u48)); let y50 ← (pure c8.2); DL.ask (eqD x49 y50))); pure (.rt v51)) := id rfl
def k__law_fits_4276_1 (a1 : D) (c8 : D × D) : R (Fl (Unit) (Empty)) := (do let t52 ← (do let x22 ← (do let r13 ← (do let x11 ← (pure a1); let r12 ← pure []; pure (x11 :: r12)); DL.ask (lenD r13)); let y23 ← (do let x20 ← (do let r16 ← (do let x14 ← (pure c8.1); let r15 ← pure []; pure (x14 :: r15)); DL.ask (lenD r16)); let y21 ← (do let r19 ← (do let x17 ← (pure c8.2); let r18 ← pure []; pure (x17 :: r18)); DL.ask (lenD r19)); DL.ask (addD x20 y21)); DL.ask ((ltD x22 y23).bind bOf)); seqF (if t52 = true then (do let v25 ← (pure (.bl false)); pure (.rt v25)) else (pure (.nx ()))) fun (q24 : Unit) => (k__law_fits_4276_0 a1 c8))
theorem l__law_fits_4276_1 (a1 : D) (c8 : D × D) : k__law_fits_4276_1 a1 c8 = (do let t52 ← (do let x22 ← (do let r13 ← (do let x11 ← (pure a1); let r12 ← pure []; pure (x11 :: r12)); DL.ask (lenD r13)); let y23 ← (do let x20 ← (do let r16 ← (do let x14 ← (pure c8.1); let r15 ← pure []; pure (x14 :: r15)); DL.ask (lenD r16)); let y21 ← (do let r19 ← (do let x17 ← (pure c8.2); let r18 ← pure []; pure (x17 :: r18)); DL.ask (lenD r19)); DL.ask (addD x20 y21)); DL.ask ((ltD x22 y23).bind bOf)); seqF (if t52 = true then (do let v25 ← (pure (.bl false)); pure (.rt v25)) else (pure (.nx ()))) fun (q24 : Unit) => (k__law_fits_4276_0 a1 c8)) := id rfl
def k__law_fits_4276_2 (a0 : D) (a1 : D) : R (Fl (Unit) (Empty)) := (do let t53 ← (do let x1 ← (pure (.str [42])); let y2 ← (pure a0); DL.ask ((notInD x1 y2).bind bOf)); seqF (if t53 = true then (do let v6 ← (do let x4 ← (pure a0); let y5 ← (pure a1); DL.ask (eqD x4 y5)); pure (.rt v6)) else (pure (.nx ()))) fun (q3 : Unit) => (do let v7 ← (mkL (do let x9 ← (pure a0); let _ ← DL.ask (strOf x9); let y10 ← (pure (.str [42])); DL.ask (splitD x9 y10))); let c8 ← DL.ask (un2L v7); (k__law_fits_4276_1 a1 c8)))
theorem l__law_fits_4276_2 (a0 : D) (a1 : D) : k__law_fits_4276_2 a0 a1 = (do let t53 ← (do let x1 ← (pure (.str [42])); let y2 ← (pure a0); DL.ask ((notInD x1 y2).bind bOf)); seqF (if t53 = true then (do let v6 ← (do let x4 ← (pure a0); let y5 ← (pure a1); DL.ask (eqD x4 y5)); pure (.rt v6)) else (pure (.nx ()))) fun (q3 : Unit) => (do let v7 ← (mkL (do let x9 ← (pure a0); let _ ← DL.ask (strOf x9); let y10 ← (pure (.str [42])); DL.ask (splitD x9 y10))); let c8 ← DL.ask (un2L v7); (k__law_fits_4276_1 a1 c8))) := id rfl
def b__law_fits_4276 (a0 a1 : D) : R (Fl Unit Empty) := (k__law_fits_4276_2 a0 a1)
theorem e__law_fits_4276 (a0 a1 : D) : b__law_fits_4276 a0 a1 = (do let t53 ← (DL.ask ((notInD (.str [42]) a0).bind bOf)); seqF (if t53 = true then (do let v6 ← (DL.ask (eqD a0 a1)); pure (.rt v6)) else (pure (.nx ()))) fun (q3 : Unit) => (do let _ ← DL.ask (strOf a0); let v7 ← (DL.ask (splitD a0 (.str [42]))); let c8 ← DL.ask (un2L (.lst v7)); let x22 ← (DL.ask (lenD [a1])); let x20 ← (DL.ask (lenD [c8.1])); let y21 ← (DL.ask (lenD [c8.2])); let y23 ← (DL.ask (addD x20 y21)); let t52 ← (DL.ask ((ltD x22 y23).bind bOf)); seqF (if t52 = true then (pure (.rt (.bl false))) else (pure (.nx ()))) fun (q24 : Unit) => (do let v51 ← (andV (do let x29 ← (DL.ask (lenD [c8.1])); let i30 ← DL.ask (intOf x29); let x34 ← (DL.ask (sliceD a1 none (some i30))); DL.ask (eqD x34 c8.1)) (do let x42 ← (DL.ask (lenD [a1])); let y43 ← (DL.ask (lenD [c8.2])); let x44 ← (DL.ask (subD x42 y43)); let i45 ← DL.ask (intOf x44); let x49 ← (DL.ask (sliceD a1 (some i45) none)); DL.ask (eqD x49 c8.2))); pure (.rt v51)))) := by
  unfold b__law_fits_4276; simp only [l__law_fits_4276_0, l__law_fits_4276_1, l__law_fits_4276_2, pure_bind, bind_assoc, mkL]
def m__law_fits_4276 : List D → R D := apR2 fun a0 a1 => (runR false (b__law_fits_4276 a0 a1))
theorem n__law_fits_4276 : ∀ ds : List D, m__law_fits_4276 ds ≠ .stuck → ds.length = 2 := apR2_len _
def b_LabelPattern_str_7df6 (a0 : D) : R (Fl Unit Empty) := (do let v5 ← (do let r4 ← (do let x2 ← (do let x1 ← (pure a0); DL.ask (fldD ["LabelPattern"] "text" x1)); let r3 ← pure []; pure (x2 :: r3)); DL.ask (strD r4)); pure (.rt v5))
theorem e_LabelPattern_str_7df6 (a0 : D) : b_LabelPattern_str_7df6 a0 = (do let x2 ← (DL.ask (fldD ["LabelPattern"] "text" a0)); let v5 ← (DL.ask (strD [x2])); pure (.rt v5)) := by
  unfold b_LabelPattern_str_7df6; simp only [pure_bind, bind_assoc, mkL]
def m_LabelPattern_str_7df6 : List D → R D := apR1 fun a0 => (runR false (b_LabelPattern_str_7df6 a0))
def b_LabelPattern_has_gap_ca45 (a0 : D) : R (Fl Unit Empty) := (do let v2 ← (do let x1 ← (pure a0); DL.ask (fldD ["LabelPattern"] "gap" x1)); pure (.rt v2))
def m_LabelPattern_has_gap_ca45 : List D → R D := apR1 fun a0 => (runR false (b_LabelPattern_has_gap_ca45 a0))
def k_LabelPattern_fixed_a36e_0 (a0 : D) : R (Fl (Unit) (Empty)) := (do let v11 ← (do let x9 ← (do let r4 ← (do let x2 ← (do let x1 ← (pure a0); DL.ask (fldD ["LabelPattern"] "head" x1)); let r3 ← pure []; pure (x2 :: r3)); DL.ask (lenD r4)); let y10 ← (do let r8 ← (do let x6 ← (do let x5 ← (pure a0); DL.ask (fldD ["LabelPattern"] "tail" x5)); let r7 ← pure []; pure (x6 :: r7)); DL.ask (lenD r8)); DL.ask (addD x9 y10)); pure (.rt v11))
theorem l_LabelPattern_fixed_a36e_0 (a0 : D) : k_LabelPattern_fixed_a36e_0 a0 = (do let v11 ← (do let x9 ← (do let r4 ← (do let x2 ← (do let x1 ← (pure a0); DL.ask (fldD ["LabelPattern"] "head" x1)); let r3 ← pure []; pure (x2 :: r3)); DL.ask (lenD r4)); let y10 ← (do let r8 ← (do let x6 ← (do let x5 ← (pure a0); DL.ask (fldD ["LabelPattern"] "tail" x5)); let r7 ← pure []; pure (x6 :: r7)); DL.ask (lenD r8)); DL.ask (addD x9 y10)); pure (.rt v11)) := id rfl
def b_LabelPattern_fixed_a36e (a0 : D) : R (Fl Unit Empty) := (k_LabelPattern_fixed_a36e_0 a0)
theorem e_LabelPattern_fixed_a36e (a0 : D) : b_LabelPattern_fixed_a36e a0 = (do let x2 ← (DL.ask (fldD ["LabelPattern"] "head" a0)); let x9 ← (DL.ask (lenD [x2])); let x6 ← (DL.ask (fldD ["LabelPattern"] "tail" a0)); let y10 ← (DL.ask (lenD [x6])); let v11 ← (DL.ask (addD x9 y10)); pure (.rt v11)) := by
  unfold b_LabelPattern_fixed_a36e; simp only [l_LabelPattern_fixed_a36e_0, pure_bind, bind_assoc, mkL]
def m_LabelPattern_fixed_a36e : List D → R D := apR1 fun a0 => (runR false (b_LabelPattern_fixed_a36e a0))
def k__law_signs_72cc_0 (a1 : D) : M (Fl (List D × List D) (Empty)) := (do let r17 ← (do let r3 ← (do let x1 ← (pure a1); let r2 ← pure []; pure (x1 :: r2)); DL.ask (rng1 r3)); seqF (forF (fun d => some d) (fun (q4 : List D × List D) (c5 : D) => (do let r14 ← (do let j13 ← (do let r12 ← (do let x10 ← (do let w9 ← Mo.noex (do let r7 ← (do let x6 ← (pure (D.lst q4.1)); let r8 ← (pure []); pure (x6 :: r8)); DL.ask (lenD r7)); DL.ask (flatD w9)); let r11 ← pure []; pure (x10 :: r11)); m__law_take_6859 r12); DL.ask (popI q4.1 j13)); let w15 ← DL.ask (apd q4.2 r14.1); (pure (.nx (r14.2, w15))))) r17 ((chrs [48, 49, 50, 51, 52, 53, 54, 55, 56, 57, 97, 98, 99, 100, 101, 102, 103, 104, 105, 106, 107, 108, 109, 110, 111, 112, 113, 114, 115, 116, 117, 118, 119, 120, 121, 122]), [])) fun (q16 : List D × List D) => (pure (.nx (q16.1, q16.2))))
theorem l__law_signs_72cc_0 (a1 : D) : k__law_signs_72cc_0 a1 = (do let r17 ← (do let r3 ← (do let x1 ← (pure a1); let r2 ← pure []; pure (x1 :: r2)); DL.ask (rng1 r3)); seqF (forF (fun d => some d) (fun (q4 : List D × List D) (c5 : D) => (do let r14 ← (do let j13 ← (do let r12 ← (do let x10 ← (do let w9 ← Mo.noex (do let r7 ← (do let x6 ← (pure (D.lst q4.1)); let r8 ← (pure []); pure (x6 :: r8)); DL.ask (lenD r7)); DL.ask (flatD w9)); let r11 ← pure []; pure (x10 :: r11)); m__law_take_6859 r12); DL.ask (popI q4.1 j13)); let w15 ← DL.ask (apd q4.2 r14.1); (pure (.nx (r14.2, w15))))) r17 ((chrs [48, 49, 50, 51, 52, 53, 54, 55, 56, 57, 97, 98, 99, 100, 101, 102, 103, 104, 105, 106, 107, 108, 109, 110, 111, 112, 113, 114, 115, 116, 117, 118, 119, 120, 121, 122]), [])) fun (q16 : List D × List D) => (pure (.nx (q16.1, q16.2)))) := id rfl
def b__law_signs_72cc (a1 : D) : M (Fl (List D × List D) Empty) := (k__law_signs_72cc_0 a1)
theorem e__law_signs_72cc (a1 : D) : b__law_signs_72cc a1 = (do let r17 ← (DL.ask (rng1 [a1])); seqF (forF (fun d => some d) (fun (q4 : List D × List D) (c5 : D) => (do let w9 ← Mo.noex (DL.ask (lenD [(D.lst q4.1)])); let x10 ← (DL.ask (flatD w9)); let j13 ← (m__law_take_6859 [x10]); let r14 ← (DL.ask (popI q4.1 j13)); let w15 ← DL.ask (apd q4.2 r14.1); (pure (.nx (r14.2, w15))))) r17 ((chrs [48, 49, 50, 51, 52, 53, 54, 55, 56, 57, 97, 98, 99, 100, 101, 102, 103, 104, 105, 106, 107, 108, 109, 110, 111, 112, 113, 114, 115, 116, 117, 118, 119, 120, 121, 122]), [])) fun (q16 : List D × List D) => (pure (.nx (q16.1, q16.2)))) := by
  unfold b__law_signs_72cc; simp only [l__law_signs_72cc_0, pure_bind, bind_assoc, mkL]
def m_LabelPattern_init_02ae : List D → R (List D) := apI1 fun a1 => (do let z14 ← (do let x12 ← (pure a1); let r13 ← (do let x10 ← (pure c_LABEL); let r11 ← (do let x8 ← (iteM (do let x4 ← (do let r3 ← (do let x1 ← (pure a1); let r2 ← pure []; pure (x1 :: r2)); Mo.lift (m_is_label_text_206f r3)); DL.ask (truD x4)) (do let r7 ← (do let x5 ← (pure a1); let r6 ← pure []; pure (x5 :: r6)); Mo.lift (m_label_shape_c600 r7)) (pure .non)); let r9 ← pure []; pure (x8 :: r9)); pure (x10 :: r11)); pure (x12 :: r13)); m_Pattern_init_4a0d z14)
theorem n_LabelPattern_init_02ae : ∀ ds : List D, m_LabelPattern_init_02ae ds ≠ .stuck → ds.length = 1 := apI1_len _
def k_LabelPattern_contains_1ab6_0 (a1 : D) (a0 : D) : R (Fl (Unit) (Empty)) := (do let v10 ← (andV (do let r3 ← (do let x1 ← (pure a1); let r2 ← pure []; pure (x1 :: r2)); Mo.lift (m_is_label_344b r3)) (do let r9 ← (do let x7 ← (do let x4 ← (pure a0); DL.ask (fldD ["LabelPattern"] "text" x4)); let r8 ← (do let x5 ← (pure a1); let r6 ← pure []; pure (x5 :: r6)); pure (x7 :: r8)); Mo.lift (m_label_fits_6e5b r9))); pure (.rt v10))
theorem l_LabelPattern_contains_1ab6_0 (a1 : D) (a0 : D) : k_LabelPattern_contains_1ab6_0 a1 a0 = (do let v10 ← (andV (do let r3 ← (do let x1 ← (pure a1); let r2 ← pure []; pure (x1 :: r2)); Mo.lift (m_is_label_344b r3)) (do let r9 ← (do let x7 ← (do let x4 ← (pure a0); DL.ask (fldD ["LabelPattern"] "text" x4)); let r8 ← (do let x5 ← (pure a1); let r6 ← pure []; pure (x5 :: r6)); pure (x7 :: r8)); Mo.lift (m_label_fits_6e5b r9))); pure (.rt v10)) := id rfl
def b_LabelPattern_contains_1ab6 (a0 a1 : D) : R (Fl Unit Empty) := (k_LabelPattern_contains_1ab6_0 a1 a0)
theorem e_LabelPattern_contains_1ab6 (a0 a1 : D) : b_LabelPattern_contains_1ab6 a0 a1 = (do let v10 ← (andV (Mo.lift (m_is_label_344b [a1])) (do let x7 ← (DL.ask (fldD ["LabelPattern"] "text" a0)); Mo.lift (m_label_fits_6e5b [x7, a1]))); pure (.rt v10)) := by
  unfold b_LabelPattern_contains_1ab6; simp only [l_LabelPattern_contains_1ab6_0, pure_bind, bind_assoc, mkL]
def m_LabelPattern_contains_1ab6 : List D → R D := apR2 fun a0 a1 => (runR false (b_LabelPattern_contains_1ab6 a0 a1))
def k__law_label_4f2f_0 (v1 : D) (v25 : D) : M (Fl (D) (Empty)) := (do let v32 ← (do let x54 ← (do let x45 ← (do let x35 ← (pure v1); let l36 ← (pure none); let u37 ← (do let x33 ← (pure v25); let i34 ← DL.ask (intOf x33); pure (some i34)); DL.ask (sliceD x35 l36 u37)); let y46 ← (do let r44 ← (do let x42 ← (mkL (do let r40 ← (do let x38 ← (pure (.str [48, 49, 50, 51, 52, 53, 54, 55, 56, 57, 97, 98, 99, 100, 101, 102, 103, 104, 105, 106, 107, 108, 109, 110, 111, 112, 113, 114, 115, 116, 117, 118, 119, 120, 121, 122])); let r39 ← pure []; pure (x38 :: r39)); let r41 ← DL.ask (listD r40); DL.ask (szL r41))); let r43 ← pure []; pure (x42 :: r43)); m__law_of_bf28 r44); DL.ask (addD x45 y46)); let y55 ← (do let x51 ← (pure v1); let l52 ← (do let x49 ← (do let x47 ← (pure v25); let y48 ← (pure (.int 1)); DL.ask (addD x47 y48)); let i50 ← DL.ask (intOf x49); pure (some i50)); let u53 ← (pure none); DL.ask (sliceD x51 l52 u53)); DL.ask (addD x54 y55)); (pure (.nx v32)))
theorem l__law_label_4f2f_0 (v1 : D) (v25 : D) : k__law_label_4f2f_0 v1 v25 = (do let v32 ← (do let x54 ← (do let x45 ← (do let x35 ← (pure v1); let l36 ← (pure none); let u37 ← (do let x33 ← (pure v25); let i34 ← DL.ask (intOf x33); pure (some i34)); DL.ask (sliceD x35 l36 u37)); let y46 ← (do let r44 ← (do let x42 ← (mkL (do let r40 ← (do let x38 ← (pure (.str [48, 49, 50, 51, 52, 53, 54, 55, 56, 57, 97, 98, 99, 100, 101, 102, 103, 104, 105, 106, 107, 108, 109, 110, 111, 112, 113, 114, 115, 116, 117, 118, 119, 120, 121, 122])); let r39 ← pure []; pure (x38 :: r39)); let r41 ← DL.ask (listD r40); DL.ask (szL r41))); let r43 ← pure []; pure (x42 :: r43)); m__law_of_bf28 r44); DL.ask (addD x45 y46)); let y55 ← (do let x51 ← (pure v1); let l52 ← (do let x49 ← (do let x47 ← (pure v25); let y48 ← (pure (.int 1)); DL.ask (addD x47 y48)); let i50 ← DL.ask (intOf x49); pure (some i50)); let u53 ← (pure none); DL.ask (sliceD x51 l52 u53)); DL.ask (addD x54 y55)); (pure (.nx v32))) := id rfl
def k__law_label_4f2f_1 (q24 : D) : M (Fl (D) (Empty)) := (do let v59 ← (do let x69 ← (do let x60 ← (pure q24); let y61 ← (pure (.int 20)); DL.ask (mulD x60 y61)); let l70 ← (pure none); let u71 ← (do let x67 ← (do let x65 ← (pure (.int 9)); let y66 ← (do let r64 ← (do let x62 ← (pure (.int 12)); let r63 ← pure []; pure (x62 :: r63)); m__law_take_6859 r64); DL.ask (addD x65 y66)); let i68 ← DL.ask (intOf x67); pure (some i68)); DL.ask (sliceD x69 l70 u71)); (pure (.nx v59)))
theorem l__law_label_4f2f_1 (q24 : D) : k__law_label_4f2f_1 q24 = (do let v59 ← (do let x69 ← (do let x60 ← (pure q24); let y61 ← (pure (.int 20)); DL.ask (mulD x60 y61)); let l70 ← (pure none); let u71 ← (do let x67 ← (do let x65 ← (pure (.int 9)); let y66 ← (do let r64 ← (do let x62 ← (pure (.int 12)); let r63 ← pure []; pure (x62 :: r63)); m__law_take_6859 r64); DL.ask (addD x65 y66)); let i68 ← DL.ask (intOf x67); pure (some i68)); DL.ask (sliceD x69 l70 u71)); (pure (.nx v59))) := id rfl
def k__law_label_4f2f_2 (v18 : D) (v1 : D) : M (Fl (Unit) (Empty)) := (do let t74 ← (do let x22 ← (pure v18); let y23 ← (pure (.int 0)); DL.ask ((eqD x22 y23).bind bOf)); seqF (if t74 = true then (do let v25 ← (do let r31 ← (do let x29 ← (do let r28 ← (do let x26 ← (pure v1); let r27 ← pure []; pure (x26 :: r27)); DL.ask (lenD r28)); let r30 ← pure []; pure (x29 :: r30)); m__law_take_6859 r31); (k__law_label_4f2f_0 v1 v25)) else (pure (.nx v1))) fun (q24 : D) => (do let t73 ← (do let x56 ← (pure v18); let y57 ← (pure (.int 1)); DL.ask ((eqD x56 y57).bind bOf)); seqF (if t73 = true then (k__law_label_4f2f_1 q24) else (pure (.nx q24))) fun (q58 : D) => (do let v72 ← (pure q58); pure (.rt v72))))
theorem l__law_label_4f2f_2 (v18 : D) (v1 : D) : k__law_label_4f2f_2 v18 v1 = (do let t74 ← (do let x22 ← (pure v18); let y23 ← (pure (.int 0)); DL.ask ((eqD x22 y23).bind bOf)); seqF (if t74 = true then (do let v25 ← (do let r31 ← (do let x29 ← (do let r28 ← (do let x26 ← (pure v1); let r27 ← pure []; pure (x26 :: r27)); DL.ask (lenD r28)); let r30 ← pure []; pure (x29 :: r30)); m__law_take_6859 r31); (k__law_label_4f2f_0 v1 v25)) else (pure (.nx v1))) fun (q24 : D) => (do let t73 ← (do let x56 ← (pure v18); let y57 ← (pure (.int 1)); DL.ask ((eqD x56 y57).bind bOf)); seqF (if t73 = true then (k__law_label_4f2f_1 q24) else (pure (.nx q24))) fun (q58 : D) => (do let v72 ← (pure q58); pure (.rt v72)))) := id rfl
def k__law_label_4f2f_3 (a2 : D) (l1 : List D) : M (Fl (Unit) (Empty)) := (do let v1 ← (do let x16 ← (pure (.str [])); let _ ← DL.ask (strOf x16); let y17 ← (mkL (do let r15 ← (do let r9 ← (do let x7 ← (do let x5 ← (pure (.int 1)); let y6 ← (do let r4 ← (do let x2 ← (pure a2); let r3 ← pure []; pure (x2 :: r3)); m__law_take_6859 r4); DL.ask (addD x5 y6)); let r8 ← pure []; pure (x7 :: r8)); DL.ask (rng1 r9)); lcF (fun d => some d) (fun (c11 : D) => pure true) (fun (c11 : D) => (do let r14 ← (do let x12 ← (pure (D.lst l1)); let r13 ← pure []; pure (x12 :: r13)); Mo.noex (m__law_of_bf28 r14))) r15)); DL.ask (joinD x16 y17)); (do let v18 ← (do let r21 ← (do let x19 ← (pure (.int 8)); let r20 ← pure []; pure (x19 :: r20)); m__law_take_6859 r21); (k__law_label_4f2f_2 v18 v1)))
theorem l__law_label_4f2f_3 (a2 : D) (l1 : List D) : k__law_label_4f2f_3 a2 l1 = (do let v1 ← (do let x16 ← (pure (.str [])); let _ ← DL.ask (strOf x16); let y17 ← (mkL (do let r15 ← (do let r9 ← (do let x7 ← (do let x5 ← (pure (.int 1)); let y6 ← (do let r4 ← (do let x2 ← (pure a2); let r3 ← pure []; pure (x2 :: r3)); m__law_take_6859 r4); DL.ask (addD x5 y6)); let r8 ← pure []; pure (x7 :: r8)); DL.ask (rng1 r9)); lcF (fun d => some d) (fun (c11 : D) => pure true) (fun (c11 : D) => (do let r14 ← (do let x12 ← (pure (D.lst l1)); let r13 ← pure []; pure (x12 :: r13)); Mo.noex (m__law_of_bf28 r14))) r15)); DL.ask (joinD x16 y17)); (do let v18 ← (do let r21 ← (do let x19 ← (pure (.int 8)); let r20 ← pure []; pure (x19 :: r20)); m__law_take_6859 r21); (k__law_label_4f2f_2 v18 v1))) := id rfl
def b__law_label_4f2f (l1 : List D) (a2 : D) : M (Fl Unit Empty) := (k__law_label_4f2f_3 a2 l1)
theorem e__law_label_4f2f (l1 : List D) (a2 : D) : b__law_label_4f2f l1 a2 = (do let _ ← DL.ask (strOf (.str [])); let y6 ← (m__law_take_6859 [a2]); let x7 ← (DL.ask (addD (.int 1) y6)); let r15 ← (DL.ask (rng1 [x7])); let y17 ← (lcF (fun d => some d) (fun (c11 : D) => pure true) (fun (c11 : D) => (Mo.noex (m__law_of_bf28 [(D.lst l1)]))) r15); let v1 ← (DL.ask (joinD (.str []) (.lst y17))); let v18 ← (m__law_take_6859 [(.int 8)]); let t74 ← (DL.ask ((eqD v18 (.int 0)).bind bOf)); seqF (if t74 = true then (do let x29 ← (DL.ask (lenD [v1])); let v25 ← (m__law_take_6859 [x29]); let i34 ← DL.ask (intOf v25); let x45 ← (DL.ask (sliceD v1 none (some i34))); let r41 ← DL.ask (listD [(.str [48, 49, 50, 51, 52, 53, 54, 55, 56, 57, 97, 98, 99, 100, 101, 102, 103, 104, 105, 106, 107, 108, 109, 110, 111, 112, 113, 114, 115, 116, 117, 118, 119, 120, 121, 122])]); let x42 ← (DL.ask (szL r41)); let y46 ← (m__law_of_bf28 [(.lst x42)]); let x54 ← (DL.ask (addD x45 y46)); let x49 ← (DL.ask (addD v25 (.int 1))); let i50 ← DL.ask (intOf x49); let y55 ← (DL.ask (sliceD v1 (some i50) none)); let v32 ← (DL.ask (addD x54 y55)); (pure (.nx v32))) else (pure (.nx v1))) fun (q24 : D) => (do let t73 ← (DL.ask ((eqD v18 (.int 1)).bind bOf)); seqF (if t73 = true then (do let x69 ← (DL.ask (mulD q24 (.int 20))); let y66 ← (m__law_take_6859 [(.int 12)]); let x67 ← (DL.ask (addD (.int 9) y66)); let i68 ← DL.ask (intOf x67); let v59 ← (DL.ask (sliceD x69 none (some i68))); (pure (.nx v59))) else (pure (.nx q24))) fun (q58 : D) => (pure (.rt q58)))) := by
  unfold b__law_label_4f2f; simp only [l__law_label_4f2f_0, l__law_label_4f2f_1, l__law_label_4f2f_2, l__law_label_4f2f_3, pure_bind, bind_assoc, mkL]
def m__law_label_4f2f : List D → M D := withS fun l1 => apM1 fun a2 => (runM false (b__law_label_4f2f l1 a2))
theorem n__law_label_4f2f : ∀ ds s, m__law_label_4f2f ds s ≠ .stuck → ds.length = 2 := withS_len fun _ => apM1_len _
def k__law_glob_1f81_0 (v9 : D) (v26 : D) (l1 : List D) : M (Fl (Unit) (Empty)) := (do let v58 ← (do let x55 ← (do let x51 ← (do let x46 ← (pure v9); let y47 ← (pure v26); DL.ask (addD x46 y47)); let y52 ← (do let r50 ← (do let x48 ← (pure (D.lst l1)); let r49 ← pure []; pure (x48 :: r49)); Mo.noex (m__law_of_bf28 r50)); DL.ask (addD x51 y52)); let l56 ← (pure none); let u57 ← (do let x53 ← (pure (.int 8)); let i54 ← DL.ask (intOf x53); pure (some i54)); DL.ask (sliceD x55 l56 u57)); pure (.rt v58))
theorem l__law_glob_1f81_0 (v9 : D) (v26 : D) (l1 : List D) : k__law_glob_1f81_0 v9 v26 l1 = (do let v58 ← (do let x55 ← (do let x51 ← (do let x46 ← (pure v9); let y47 ← (pure v26); DL.ask (addD x46 y47)); let y52 ← (do let r50 ← (do let x48 ← (pure (D.lst l1)); let r49 ← pure []; pure (x48 :: r49)); Mo.noex (m__law_of_bf28 r50)); DL.ask (addD x51 y52)); let l56 ← (pure none); let u57 ← (do let x53 ← (pure (.int 8)); let i54 ← DL.ask (intOf x53); pure (some i54)); DL.ask (sliceD x55 l56 u57)); pure (.rt v58)) := id rfl
def k__law_glob_1f81_1 (v1 : D) (v9 : D) (v26 : D) (l1 : List D) : M (Fl (Unit) (Empty)) := (do let t64 ← (do let x43 ← (pure v1); let y44 ← (pure (.int 3)); DL.ask ((ltD x43 y44).bind bOf)); seqF (if t64 = true then (k__law_glob_1f81_0 v9 v26 l1) else (pure (.nx ()))) fun (q45 : Unit) => (do let v63 ← (do let x61 ← (do let x59 ← (pure v9); let y60 ← (pure (.str [42])); DL.ask (addD x59 y60)); let y62 ← (pure v26); DL.ask (addD x61 y62)); pure (.rt v63)))
theorem l__law_glob_1f81_1 (v1 : D) (v9 : D) (v26 : D) (l1 : List D) : k__law_glob_1f81_1 v1 v9 v26 l1 = (do let t64 ← (do let x43 ← (pure v1); let y44 ← (pure (.int 3)); DL.ask ((ltD x43 y44).bind bOf)); seqF (if t64 = true then (k__law_glob_1f81_0 v9 v26 l1) else (pure (.nx ()))) fun (q45 : Unit) => (do let v63 ← (do let x61 ← (do let x59 ← (pure v9); let y60 ← (pure (.str [42])); DL.ask (addD x59 y60)); let y62 ← (pure v26); DL.ask (addD x61 y62)); pure (.rt v63))) := id rfl
def k__law_glob_1f81_2 (a2 : D) (l1 : List D) (v1 : D) (v9 : D) : M (Fl (Unit) (Empty)) := (do let v26 ← (do let x41 ← (pure (.str [])); let _ ← DL.ask (strOf x41); let y42 ← (mkL (do let r40 ← (do let r34 ← (do let x32 ← (do let r31 ← (do let x29 ← (do let x27 ← (pure a2); let y28 ← (pure (.int 1)); DL.ask (addD x27 y28)); let r30 ← pure []; pure (x29 :: r30)); m__law_take_6859 r31); let r33 ← pure []; pure (x32 :: r33)); DL.ask (rng1 r34)); lcF (fun d => some d) (fun (c36 : D) => pure true) (fun (c36 : D) => (do let r39 ← (do let x37 ← (pure (D.lst l1)); let r38 ← pure []; pure (x37 :: r38)); Mo.noex (m__law_of_bf28 r39))) r40)); DL.ask (joinD x41 y42)); (k__law_glob_1f81_1 v1 v9 v26 l1))
theorem l__law_glob_1f81_2 (a2 : D) (l1 : List D) (v1 : D) (v9 : D) : k__law_glob_1f81_2 a2 l1 v1 v9 = (do let v26 ← (do let x41 ← (pure (.str [])); let _ ← DL.ask (strOf x41); let y42 ← (mkL (do let r40 ← (do let r34 ← (do let x32 ← (do let r31 ← (do let x29 ← (do let x27 ← (pure a2); let y28 ← (pure (.int 1)); DL.ask (addD x27 y28)); let r30 ← pure []; pure (x29 :: r30)); m__law_take_6859 r31); let r33 ← pure []; pure (x32 :: r33)); DL.ask (rng1 r34)); lcF (fun d => some d) (fun (c36 : D) => pure true) (fun (c36 : D) => (do let r39 ← (do let x37 ← (pure (D.lst l1)); let r38 ← pure []; pure (x37 :: r38)); Mo.noex (m__law_of_bf28 r39))) r40)); DL.ask (joinD x41 y42)); (k__law_glob_1f81_1 v1 v9 v26 l1)) := id rfl
def k__law_glob_1f81_3 (a2 : D) (l1 : List D) (v1 : D) : M (Fl (Unit) (Empty)) := (do let v9 ← (do let x24 ← (pure (.str [])); let _ ← DL.ask (strOf x24); let y25 ← (mkL (do let r23 ← (do let r17 ← (do let x15 ← (do let r14 ← (do let x12 ← (do let x10 ← (pure a2); let y11 ← (pure (.int 1)); DL.ask (addD x10 y11)); let r13 ← pure []; pure (x12 :: r13)); m__law_take_6859 r14); let r16 ← pure []; pure (x15 :: r16)); DL.ask (rng1 r17)); lcF (fun d => some d) (fun (c19 : D) => pure true) (fun (c19 : D) => (do let r22 ← (do let x20 ← (pure (D.lst l1)); let r21 ← pure []; pure (x20 :: r21)); Mo.noex (m__law_of_bf28 r22))) r23)); DL.ask (joinD x24 y25)); (k__law_glob_1f81_2 a2 l1 v1 v9))
theorem l__law_glob_1f81_3 (a2 : D) (l1 : List D) (v1 : D) : k__law_glob_1f81_3 a2 l1 v1 = (do let v9 ← (do let x24 ← (pure (.str [])); let _ ← DL.ask (strOf x24); let y25 ← (mkL (do let r23 ← (do let r17 ← (do let x15 ← (do let r14 ← (do let x12 ← (do let x10 ← (pure a2); let y11 ← (pure (.int 1)); DL.ask (addD x10 y11)); let r13 ← pure []; pure (x12 :: r13)); m__law_take_6859 r14); let r16 ← pure []; pure (x15 :: r16)); DL.ask (rng1 r17)); lcF (fun d => some d) (fun (c19 : D) => pure true) (fun (c19 : D) => (do let r22 ← (do let x20 ← (pure (D.lst l1)); let r21 ← pure []; pure (x20 :: r21)); Mo.noex (m__law_of_bf28 r22))) r23)); DL.ask (joinD x24 y25)); (k__law_glob_1f81_2 a2 l1 v1 v9)) := id rfl
def k__law_glob_1f81_4 (a2 : D) (l1 : List D) : M (Fl (Unit) (Empty)) := (do let v1 ← (do let r4 ← (do let x2 ← (pure (.int 6)); let r3 ← pure []; pure (x2 :: r3)); m__law_take_6859 r4); (do let t65 ← (do let x5 ← (pure v1); let y6 ← (pure (.int 0)); DL.ask ((eqD x5 y6).bind bOf)); seqF (if t65 = true then (do let v8 ← (pure (.str [42])); pure (.rt v8)) else (pure (.nx ()))) fun (q7 : Unit) => (k__law_glob_1f81_3 a2 l1 v1)))
theorem l__law_glob_1f81_4 (a2 : D) (l1 : List D) : k__law_glob_1f81_4 a2 l1 = (do let v1 ← (do let r4 ← (do let x2 ← (pure (.int 6)); let r3 ← pure []; pure (x2 :: r3)); m__law_take_6859 r4); (do let t65 ← (do let x5 ← (pure v1); let y6 ← (pure (.int 0)); DL.ask ((eqD x5 y6).bind bOf)); seqF (if t65 = true then (do let v8 ← (pure (.str [42])); pure (.rt v8)) else (pure (.nx ()))) fun (q7 : Unit) => (k__law_glob_1f81_3 a2 l1 v1))) := id rfl
def b__law_glob_1f81 (l1 : List D) (a2 : D) : M (Fl Unit Empty) := (k__law_glob_1f81_4 a2 l1)
theorem e__law_glob_1f81 (l1 : List D) (a2 : D) : b__law_glob_1f81 l1 a2 = (do let v1 ← (m__law_take_6859 [(.int 6)]); let t65 ← (DL.ask ((eqD v1 (.int 0)).bind bOf)); seqF (if t65 = true then (pure (.rt (.str [42]))) else (pure (.nx ()))) fun (q7 : Unit) => (do let _ ← DL.ask (strOf (.str [])); let x12 ← (DL.ask (addD a2 (.int 1))); let x15 ← (m__law_take_6859 [x12]); let r23 ← (DL.ask (rng1 [x15])); let y25 ← (lcF (fun d => some d) (fun (c19 : D) => pure true) (fun (c19 : D) => (Mo.noex (m__law_of_bf28 [(D.lst l1)]))) r23); let v9 ← (DL.ask (joinD (.str []) (.lst y25))); let _ ← DL.ask (strOf (.str [])); let x29 ← (DL.ask (addD a2 (.int 1))); let x32 ← (m__law_take_6859 [x29]); let r40 ← (DL.ask (rng1 [x32])); let y42 ← (lcF (fun d => some d) (fun (c36 : D) => pure true) (fun (c36 : D) => (Mo.noex (m__law_of_bf28 [(D.lst l1)]))) r40); let v26 ← (DL.ask (joinD (.str []) (.lst y42))); let t64 ← (DL.ask ((ltD v1 (.int 3)).bind bOf)); seqF (if t64 = true then (do let x51 ← (DL.ask (addD v9 v26)); let y52 ← (Mo.noex (m__law_of_bf28 [(D.lst l1)])); let x55 ← (DL.ask (addD x51 y52)); let i54 ← DL.ask (intOf (.int 8)); let v58 ← (DL.ask (sliceD x55 none (some i54))); pure (.rt v58)) else (pure (.nx ()))) fun (q45 : Unit) => (do let x61 ← (DL.ask (addD v9 (.str [42]))); let v63 ← (DL.ask (addD x61 v26)); pure (.rt v63)))) := by
  unfold b__law_glob_1f81; simp only [l__law_glob_1f81_0, l__law_glob_1f81_1, l__law_glob_1f81_2, l__law_glob_1f81_3, l__law_glob_1f81_4, pure_bind, bind_assoc, mkL]
def m__law_glob_1f81 : List D → M D := withS fun l1 => apM1 fun a2 => (runM false (b__law_glob_1f81 l1 a2))
theorem n__law_glob_1f81 : ∀ ds s, m__law_glob_1f81 ds s ≠ .stuck → ds.length = 2 := withS_len fun _ => apM1_len _
def k__law_grown_1ce8_0 (q51 : D) (l1 : List D) : M (Fl (Unit) (Empty)) := (do let v68 ← (iteM (do let x58 ← (pure q51); let y59 ← (pure (.str [])); DL.ask ((neD x58 y59).bind bOf)) (do let x62 ← (pure q51); let l63 ← (pure none); let u64 ← (do let x60 ← (pure (.int 20)); let i61 ← DL.ask (intOf x60); pure (some i61)); DL.ask (sliceD x62 l63 u64)) (do let r67 ← (do let x65 ← (pure (D.lst l1)); let r66 ← pure []; pure (x65 :: r66)); Mo.noex (m__law_of_bf28 r67))); pure (.rt v68))
theorem l__law_grown_1ce8_0 (q51 : D) (l1 : List D) : k__law_grown_1ce8_0 q51 l1 = (do let v68 ← (iteM (do let x58 ← (pure q51); let y59 ← (pure (.str [])); DL.ask ((neD x58 y59).bind bOf)) (do let x62 ← (pure q51); let l63 ← (pure none); let u64 ← (do let x60 ← (pure (.int 20)); let i61 ← DL.ask (intOf x60); pure (some i61)); DL.ask (sliceD x62 l63 u64)) (do let r67 ← (do let x65 ← (pure (D.lst l1)); let r66 ← pure []; pure (x65 :: r66)); Mo.noex (m__law_of_bf28 r67))); pure (.rt v68)) := id rfl
def k__law_grown_1ce8_1 (v17 : D) (l1 : List D) (q42 : D) : M (Fl (Unit) (Empty)) := (do let t69 ← (do let x49 ← (pure v17); let y50 ← (pure (.int 3)); DL.ask ((eqD x49 y50).bind bOf)); seqF (if t69 = true then (do let v52 ← (do let x56 ← (do let r55 ← (do let x53 ← (pure (D.lst l1)); let r54 ← pure []; pure (x53 :: r54)); Mo.noex (m__law_of_bf28 r55)); let y57 ← (pure q42); DL.ask (addD x56 y57)); (pure (.nx v52))) else (pure (.nx q42))) fun (q51 : D) => (k__law_grown_1ce8_0 q51 l1))
theorem l__law_grown_1ce8_1 (v17 : D) (l1 : List D) (q42 : D) : k__law_grown_1ce8_1 v17 l1 q42 = (do let t69 ← (do let x49 ← (pure v17); let y50 ← (pure (.int 3)); DL.ask ((eqD x49 y50).bind bOf)); seqF (if t69 = true then (do let v52 ← (do let x56 ← (do let r55 ← (do let x53 ← (pure (D.lst l1)); let r54 ← pure []; pure (x53 :: r54)); Mo.noex (m__law_of_bf28 r55)); let y57 ← (pure q42); DL.ask (addD x56 y57)); (pure (.nx v52))) else (pure (.nx q42))) fun (q51 : D) => (k__law_grown_1ce8_0 q51 l1)) := id rfl
def k__law_grown_1ce8_2 (v17 : D) (q32 : D) (l1 : List D) : M (Fl (Unit) (Empty)) := (do let t70 ← (do let x40 ← (pure v17); let y41 ← (pure (.int 2)); DL.ask ((eqD x40 y41).bind bOf)); seqF (if t70 = true then (do let v43 ← (do let x47 ← (pure q32); let y48 ← (do let r46 ← (do let x44 ← (pure (D.lst l1)); let r45 ← pure []; pure (x44 :: r45)); Mo.noex (m__law_of_bf28 r46)); DL.ask (addD x47 y48)); (pure (.nx v43))) else (pure (.nx q32))) fun (q42 : D) => (k__law_grown_1ce8_1 v17 l1 q42))
theorem l__law_grown_1ce8_2 (v17 : D) (q32 : D) (l1 : List D) : k__law_grown_1ce8_2 v17 q32 l1 = (do let t70 ← (do let x40 ← (pure v17); let y41 ← (pure (.int 2)); DL.ask ((eqD x40 y41).bind bOf)); seqF (if t70 = true then (do let v43 ← (do let x47 ← (pure q32); let y48 ← (do let r46 ← (do let x44 ← (pure (D.lst l1)); let r45 ← pure []; pure (x44 :: r45)); Mo.noex (m__law_of_bf28 r46)); DL.ask (addD x47 y48)); (pure (.nx v43))) else (pure (.nx q32))) fun (q42 : D) => (k__law_grown_1ce8_1 v17 l1 q42)) := id rfl
def k__law_grown_1ce8_3 (v17 : D) (q23 : D) (l1 : List D) : M (Fl (Unit) (Empty)) := (do let t71 ← (do let x30 ← (pure v17); let y31 ← (pure (.int 1)); DL.ask ((eqD x30 y31).bind bOf)); seqF (if t71 = true then (do let v33 ← (do let x37 ← (pure q23); let l38 ← (pure none); let u39 ← (do let x35 ← (do let x34 ← (pure (.int 1)); DL.ask (negD x34)); let i36 ← DL.ask (intOf x35); pure (some i36)); DL.ask (sliceD x37 l38 u39)); (pure (.nx v33))) else (pure (.nx q23))) fun (q32 : D) => (k__law_grown_1ce8_2 v17 q32 l1))
theorem l__law_grown_1ce8_3 (v17 : D) (q23 : D) (l1 : List D) : k__law_grown_1ce8_3 v17 q23 l1 = (do let t71 ← (do let x30 ← (pure v17); let y31 ← (pure (.int 1)); DL.ask ((eqD x30 y31).bind bOf)); seqF (if t71 = true then (do let v33 ← (do let x37 ← (pure q23); let l38 ← (pure none); let u39 ← (do let x35 ← (do let x34 ← (pure (.int 1)); DL.ask (negD x34)); let i36 ← DL.ask (intOf x35); pure (some i36)); DL.ask (sliceD x37 l38 u39)); (pure (.nx v33))) else (pure (.nx q23))) fun (q32 : D) => (k__law_grown_1ce8_2 v17 q32 l1)) := id rfl
def k__law_grown_1ce8_4 (v17 : D) (v14 : D) (l1 : List D) : M (Fl (Unit) (Empty)) := (do let t72 ← (do let x21 ← (pure v17); let y22 ← (pure (.int 0)); DL.ask ((eqD x21 y22).bind bOf)); seqF (if t72 = true then (do let v24 ← (do let x27 ← (pure v14); let l28 ← (do let x25 ← (pure (.int 1)); let i26 ← DL.ask (intOf x25); pure (some i26)); let u29 ← (pure none); DL.ask (sliceD x27 l28 u29)); (pure (.nx v24))) else (pure (.nx v14))) fun (q23 : D) => (k__law_grown_1ce8_3 v17 q23 l1))
theorem l__law_grown_1ce8_4 (v17 : D) (v14 : D) (l1 : List D) : k__law_grown_1ce8_4 v17 v14 l1 = (do let t72 ← (do let x21 ← (pure v17); let y22 ← (pure (.int 0)); DL.ask ((eqD x21 y22).bind bOf)); seqF (if t72 = true then (do let v24 ← (do let x27 ← (pure v14); let l28 ← (do let x25 ← (pure (.int 1)); let i26 ← DL.ask (intOf x25); pure (some i26)); let u29 ← (pure none); DL.ask (sliceD x27 l28 u29)); (pure (.nx v24))) else (pure (.nx v14))) fun (q23 : D) => (k__law_grown_1ce8_3 v17 q23 l1)) := id rfl
def b__law_grown_1ce8 (l1 : List D) (a2 : D) : M (Fl Unit Empty) := (do let v13 ← (do let x15 ← (pure (.str [])); let _ ← DL.ask (strOf x15); let y16 ← mkL (do let r12 ← (do let r6 ← (do let x4 ← (do let r3 ← (do let x1 ← (pure (.int 4)); let r2 ← pure []; pure (x1 :: r2)); m__law_take_6859 r3); let r5 ← pure []; pure (x4 :: r5)); DL.ask (rng1 r6)); lcF (fun d => some d) (fun (c8 : D) => pure true) (fun (c8 : D) => (do let r11 ← (do let x9 ← (pure (D.lst l1)); let r10 ← pure []; pure (x9 :: r10)); Mo.noex (m__law_of_bf28 r11))) r12); DL.ask (joinD x15 y16)); let v14 ← (DL.ask (repD a2 v13)); (do let v17 ← (do let r20 ← (do let x18 ← (pure (.int 8)); let r19 ← pure []; pure (x18 :: r19)); m__law_take_6859 r20); (k__law_grown_1ce8_4 v17 v14 l1)))
theorem e__law_grown_1ce8 (l1 : List D) (a2 : D) : b__law_grown_1ce8 l1 a2 = (do let _ ← DL.ask (strOf (.str [])); let x4 ← (m__law_take_6859 [(.int 4)]); let r12 ← (DL.ask (rng1 [x4])); let y16 ← (lcF (fun d => some d) (fun (c8 : D) => pure true) (fun (c8 : D) => (Mo.noex (m__law_of_bf28 [(D.lst l1)]))) r12); let v13 ← (DL.ask (joinD (.str []) (.lst y16))); let v14 ← (DL.ask (repD a2 v13)); let v17 ← (m__law_take_6859 [(.int 8)]); let t72 ← (DL.ask ((eqD v17 (.int 0)).bind bOf)); seqF (if t72 = true then (do let i26 ← DL.ask (intOf (.int 1)); let v24 ← (DL.ask (sliceD v14 (some i26) none)); (pure (.nx v24))) else (pure (.nx v14))) fun (q23 : D) => (do let t71 ← (DL.ask ((eqD v17 (.int 1)).bind bOf)); seqF (if t71 = true then (do let x35 ← (DL.ask (negD (.int 1))); let i36 ← DL.ask (intOf x35); let v33 ← (DL.ask (sliceD q23 none (some i36))); (pure (.nx v33))) else (pure (.nx q23))) fun (q32 : D) => (do let t70 ← (DL.ask ((eqD v17 (.int 2)).bind bOf)); seqF (if t70 = true then (do let y48 ← (Mo.noex (m__law_of_bf28 [(D.lst l1)])); let v43 ← (DL.ask (addD q32 y48)); (pure (.nx v43))) else (pure (.nx q32))) fun (q42 : D) => (do let t69 ← (DL.ask ((eqD v17 (.int 3)).bind bOf)); seqF (if t69 = true then (do let x56 ← (Mo.noex (m__law_of_bf28 [(D.lst l1)])); let v52 ← (DL.ask (addD x56 q42)); (pure (.nx v52))) else (pure (.nx q42))) fun (q51 : D) => (do let v68 ← (iteM (DL.ask ((neD q51 (.str [])).bind bOf)) (do let i61 ← DL.ask (intOf (.int 20)); DL.ask (sliceD q51 none (some i61))) (Mo.noex (m__law_of_bf28 [(D.lst l1)]))); pure (.rt v68)))))) := by
  unfold b__law_grown_1ce8; simp only [l__law_grown_1ce8_0, l__law_grown_1ce8_1, l__law_grown_1ce8_2, l__law_grown_1ce8_3, l__law_grown_1ce8_4, pure_bind, bind_assoc, mkL]
def m__law_grown_1ce8 : List D → M D := withS fun l1 => apM1 fun a2 => (runT (b__law_grown_1ce8 l1 a2))
theorem n__law_grown_1ce8 : ∀ ds s, m__law_grown_1ce8 ds s ≠ .stuck → ds.length = 2 := withS_len fun _ => apM1_len _
theorem ne__law_grown_1ce8 : ∀ ds s e s', m__law_grown_1ce8 ds s ≠ .ex e s' := withS_calm fun _ => apM1_calm fun _ _ _ _ => runT_calm
def k__law_is_right_5bac_0 (a1 : D) (v26 : D) (v31 : D) (v1 : D) : R (Fl (Unit) (Empty)) := (do let v42 ← (mkL (do let r81 ← (do let x79 ← (pure a1); let r80 ← (do let x77 ← (pure (.str [108, 97, 98, 101, 108])); let r78 ← (do let x75 ← (do let r49 ← (do let x47 ← (mkL (do let r45 ← (do let x43 ← (pure v26); let r44 ← pure []; pure (x43 :: r44)); let r46 ← DL.ask (listD r45); DL.ask (szL r46))); let r48 ← pure []; pure (x47 :: r48)); DL.ask (tupleD r49)); let r76 ← (do let x73 ← (do let r56 ← (do let x54 ← (mkL (do let r52 ← (do let x50 ← (pure v31); let r51 ← pure []; pure (x50 :: r51)); let r53 ← DL.ask (listD r52); DL.ask (szL r53))); let r55 ← pure []; pure (x54 :: r55)); DL.ask (tupleD r56)); let r74 ← (do let x71 ← (do let x57 ← (pure (.str [42])); let y58 ← (pure a1); DL.ask (inD x57 y58)); let r72 ← (do let x69 ← (do let x65 ← (do let r61 ← (do let x59 ← (pure v26); let r60 ← pure []; pure (x59 :: r60)); DL.ask (lenD r61)); let y66 ← (do let r64 ← (do let x62 ← (pure v31); let r63 ← pure []; pure (x62 :: r63)); DL.ask (lenD r64)); DL.ask (addD x65 y66)); let r70 ← (do let x67 ← (pure a1); let r68 ← pure []; pure (x67 :: r68)); pure (x69 :: r70)); pure (x71 :: r72)); pure (x73 :: r74)); pure (x75 :: r76)); pure (x77 :: r78)); pure (x79 :: r80)); DL.ask (szL r81))); (do let v90 ← (do let x88 ← (do let r84 ← (do let x82 ← (pure v1); let r83 ← pure []; pure (x82 :: r83)); DL.ask (reprD r84)); let y89 ← (do let r87 ← (do let x85 ← (pure v42); let r86 ← pure []; pure (x85 :: r86)); DL.ask (reprD r87)); DL.ask (eqD x88 y89)); pure (.rt v90)))
theorem l__law_is_right_5bac_0 (a1 : D) (v26 : D) (v31 : D) (v1 : D) : k__law_is_right_5bac_0 a1 v26 v31 v1 = (do let v42 ← (mkL (do let r81 ← (do let x79 ← (pure a1); let r80 ← (do let x77 ← (pure (.str [108, 97, 98, 101, 108])); let r78 ← (do let x75 ← (do let r49 ← (do let x47 ← (mkL (do let r45 ← (do let x43 ← (pure v26); let r44 ← pure []; pure (x43 :: r44)); let r46 ← DL.ask (listD r45); DL.ask (szL r46))); let r48 ← pure []; pure (x47 :: r48)); DL.ask (tupleD r49)); let r76 ← (do let x73 ← (do let r56 ← (do let x54 ← (mkL (do let r52 ← (do let x50 ← (pure v31); let r51 ← pure []; pure (x50 :: r51)); let r53 ← DL.ask (listD r52); DL.ask (szL r53))); let r55 ← pure []; pure (x54 :: r55)); DL.ask (tupleD r56)); let r74 ← (do let x71 ← (do let x57 ← (pure (.str [42])); let y58 ← (pure a1); DL.ask (inD x57 y58)); let r72 ← (do let x69 ← (do let x65 ← (do let r61 ← (do let x59 ← (pure v26); let r60 ← pure []; pure (x59 :: r60)); DL.ask (lenD r61)); let y66 ← (do let r64 ← (do let x62 ← (pure v31); let r63 ← pure []; pure (x62 :: r63)); DL.ask (lenD r64)); DL.ask (addD x65 y66)); let r70 ← (do let x67 ← (pure a1); let r68 ← pure []; pure (x67 :: r68)); pure (x69 :: r70)); pure (x71 :: r72)); pure (x73 :: r74)); pure (x75 :: r76)); pure (x77 :: r78)); pure (x79 :: r80)); DL.ask (szL r81))); (do let v90 ← (do let x88 ← (do let r84 ← (do let x82 ← (pure v1); let r83 ← pure []; pure (x82 :: r83)); DL.ask (reprD r84)); let y89 ← (do let r87 ← (do let x85 ← (pure v42); let r86 ← pure []; pure (x85 :: r86)); DL.ask (reprD r87)); DL.ask (eqD x88 y89)); pure (.rt v90))) := id rfl
def k__law_is_right_5bac_1 (a1 : D) (v26 : D) (v1 : D) : R (Fl (Unit) (Empty)) := (do let v31 ← (do let x39 ← (pure a1); let l40 ← (do let x37 ← (do let x35 ← (do let r34 ← (do let x32 ← (pure v26); let r33 ← pure []; pure (x32 :: r33)); DL.ask (lenD r34)); let y36 ← (pure (.int 1)); DL.ask (addD x35 y36)); let i38 ← DL.ask (intOf x37); pure (some i38)); let u41 ← (pure none); DL.ask (sliceD x39 l40 u41)); (k__law_is_right_5bac_0 a1 v26 v31 v1))
theorem l__law_is_right_5bac_1 (a1 : D) (v26 : D) (v1 : D) : k__law_is_right_5bac_1 a1 v26 v1 = (do let v31 ← (do let x39 ← (pure a1); let l40 ← (do let x37 ← (do let x35 ← (do let r34 ← (do let x32 ← (pure v26); let r33 ← pure []; pure (x32 :: r33)); DL.ask (lenD r34)); let y36 ← (pure (.int 1)); DL.ask (addD x35 y36)); let i38 ← DL.ask (intOf x37); pure (some i38)); let u41 ← (pure none); DL.ask (sliceD x39 l40 u41)); (k__law_is_right_5bac_0 a1 v26 v31 v1)) := id rfl
def k__law_is_right_5bac_2 (a0 : D) (a1 : D) : R (Fl (Unit) (Empty)) := (do let v1 ← (mkL (do let r25 ← (do let x23 ← (do let x2 ← (pure a0); DL.ask (fldD ["LabelPattern"] "text" x2)); let r24 ← (do let x21 ← (do let x3 ← (pure a0); DL.ask (fldD ["LabelPattern"] "level" x3)); let r22 ← (do let x19 ← (do let x4 ← (pure a0); DL.ask (fldD ["LabelPattern"] "head" x4)); let r20 ← (do let x17 ← (do let x5 ← (pure a0); DL.ask (fldD ["LabelPattern"] "tail" x5)); let r18 ← (do let x15 ← (do let x6 ← (pure a0); Mo.lift (attrD [] [("LabelPattern", m_LabelPattern_has_gap_ca45)] "has_gap" x6)); let r16 ← (do let x13 ← (do let x7 ← (pure a0); Mo.lift (attrD [] [("LabelPattern", m_LabelPattern_fixed_a36e)] "fixed" x7)); let r14 ← (do let x11 ← (do let r10 ← (do let x8 ← (pure a0); let r9 ← pure []; pure (x8 :: r9)); DL.ask (strO [("LabelPattern", m_LabelPattern_str_7df6)] r10)); let r12 ← pure []; pure (x11 :: r12)); pure (x13 :: r14)); pure (x15 :: r16)); pure (x17 :: r18)); pure (x19 :: r20)); pure (x21 :: r22)); pure (x23 :: r24)); DL.ask (szL r25))); (do let v26 ← (do let x29 ← (mkL (do let x27 ← (pure a1); let _ ← DL.ask (strOf x27); let y28 ← (pure (.str [42])); DL.ask (splitD x27 y28))); let y30 ← (pure (.int 0)); DL.ask (ixD x29 y30)); (k__law_is_right_5bac_1 a1 v26 v1)))
theorem l__law_is_right_5bac_2 (a0 : D) (a1 : D) : k__law_is_right_5bac_2 a0 a1 = (do let v1 ← (mkL (do let r25 ← (do let x23 ← (do let x2 ← (pure a0); DL.ask (fldD ["LabelPattern"] "text" x2)); let r24 ← (do let x21 ← (do let x3 ← (pure a0); DL.ask (fldD ["LabelPattern"] "level" x3)); let r22 ← (do let x19 ← (do let x4 ← (pure a0); DL.ask (fldD ["LabelPattern"] "head" x4)); let r20 ← (do let x17 ← (do let x5 ← (pure a0); DL.ask (fldD ["LabelPattern"] "tail" x5)); let r18 ← (do let x15 ← (do let x6 ← (pure a0); Mo.lift (attrD [] [("LabelPattern", m_LabelPattern_has_gap_ca45)] "has_gap" x6)); let r16 ← (do let x13 ← (do let x7 ← (pure a0); Mo.lift (attrD [] [("LabelPattern", m_LabelPattern_fixed_a36e)] "fixed" x7)); let r14 ← (do let x11 ← (do let r10 ← (do let x8 ← (pure a0); let r9 ← pure []; pure (x8 :: r9)); DL.ask (strO [("LabelPattern", m_LabelPattern_str_7df6)] r10)); let r12 ← pure []; pure (x11 :: r12)); pure (x13 :: r14)); pure (x15 :: r16)); pure (x17 :: r18)); pure (x19 :: r20)); pure (x21 :: r22)); pure (x23 :: r24)); DL.ask (szL r25))); (do let v26 ← (do let x29 ← (mkL (do let x27 ← (pure a1); let _ ← DL.ask (strOf x27); let y28 ← (pure (.str [42])); DL.ask (splitD x27 y28))); let y30 ← (pure (.int 0)); DL.ask (ixD x29 y30)); (k__law_is_right_5bac_1 a1 v26 v1))) := id rfl
def b__law_is_right_5bac (a0 a1 : D) : R (Fl Unit Empty) := (k__law_is_right_5bac_2 a0 a1)
theorem e__law_is_right_5bac (a0 a1 : D) : b__law_is_right_5bac a0 a1 = (do let x23 ← (DL.ask (fldD ["LabelPattern"] "text" a0)); let x21 ← (DL.ask (fldD ["LabelPattern"] "level" a0)); let x19 ← (DL.ask (fldD ["LabelPattern"] "head" a0)); let x17 ← (DL.ask (fldD ["LabelPattern"] "tail" a0)); let x15 ← (Mo.lift (attrD [] [("LabelPattern", m_LabelPattern_has_gap_ca45)] "has_gap" a0)); let x13 ← (Mo.lift (attrD [] [("LabelPattern", m_LabelPattern_fixed_a36e)] "fixed" a0)); let x11 ← (DL.ask (strO [("LabelPattern", m_LabelPattern_str_7df6)] [a0])); let v1 ← (DL.ask (szL [x23, x21, x19, x17, x15, x13, x11])); let _ ← DL.ask (strOf a1); let x29 ← (DL.ask (splitD a1 (.str [42]))); let v26 ← (DL.ask (ixD (.lst x29) (.int 0))); let x35 ← (DL.ask (lenD [v26])); let x37 ← (DL.ask (addD x35 (.int 1))); let i38 ← DL.ask (intOf x37); let v31 ← (DL.ask (sliceD a1 (some i38) none)); let r46 ← DL.ask (listD [v26]); let x47 ← (DL.ask (szL r46)); let x75 ← (DL.ask (tupleD [(.lst x47)])); let r53 ← DL.ask (listD [v31]); let x54 ← (DL.ask (szL r53)); let x73 ← (DL.ask (tupleD [(.lst x54)])); let x71 ← (DL.ask (inD (.str [42]) a1)); let x65 ← (DL.ask (lenD [v26])); let y66 ← (DL.ask (lenD [v31])); let x69 ← (DL.ask (addD x65 y66)); let v42 ← (DL.ask (szL [a1, (.str [108, 97, 98, 101, 108]), x75, x73, x71, x69, a1])); let x88 ← (DL.ask (reprD [(.lst v1)])); let y89 ← (DL.ask (reprD [(.lst v42)])); let v90 ← (DL.ask (eqD x88 y89)); pure (.rt v90)) := by
  unfold b__law_is_right_5bac; simp only [l__law_is_right_5bac_0, l__law_is_right_5bac_1, l__law_is_right_5bac_2, pure_bind, bind_assoc, mkL]
def m__law_is_right_5bac : List D → R D := apR2 fun a0 a1 => (runR false (b__law_is_right_5bac a0 a1))
theorem n__law_is_right_5bac : ∀ ds : List D, m__law_is_right_5bac ds ≠ .stuck → ds.length = 2 := apR2_len _
def k_law_5d70_0 (v63 : D) (v47 : D) : M (Fl (D × D) (Unit)) := (do let t76 ← (DL.notM (do let x73 ← (do let r72 ← (do let x70 ← (pure v63); let r71 ← (do let x68 ← (pure v47); let r69 ← pure []; pure (x68 :: r69)); pure (x70 :: r71)); Mo.lift (m__law_is_right_5bac r72)); DL.ask (truD x73))); seqF (if t76 = true then (do let v75 ← (pure (.bl false)); pure (.rt v75)) else (pure (.nx ()))) fun (q74 : Unit) => (pure (.nx (v47, v63))))
theorem l_law_5d70_0 (v63 : D) (v47 : D) : k_law_5d70_0 v63 v47 = (do let t76 ← (DL.notM (do let x73 ← (do let r72 ← (do let x70 ← (pure v63); let r71 ← (do let x68 ← (pure v47); let r69 ← pure []; pure (x68 :: r69)); pure (x70 :: r71)); Mo.lift (m__law_is_right_5bac r72)); DL.ask (truD x73))); seqF (if t76 = true then (do let v75 ← (pure (.bl false)); pure (.rt v75)) else (pure (.nx ()))) fun (q74 : Unit) => (pure (.nx (v47, v63)))) := id rfl
def k_law_5d70_1 (v36 : D) : M (Fl (D × D) (Unit)) := (do let v47 ← (iteM (do let x51 ← (do let r50 ← (do let x48 ← (pure v36); let r49 ← pure []; pure (x48 :: r49)); DL.ask (lenD r50)); let y52 ← (pure (.int 8)); DL.ask ((leD x51 y52).bind bOf)) (pure v36) (do let x60 ← (pure v36); let l61 ← (do let x58 ← (do let x56 ← (do let r55 ← (do let x53 ← (pure v36); let r54 ← pure []; pure (x53 :: r54)); DL.ask (lenD r55)); let y57 ← (pure (.int 8)); DL.ask (subD x56 y57)); let i59 ← DL.ask (intOf x58); pure (some i59)); let u62 ← (pure none); DL.ask (sliceD x60 l61 u62))); (do let v63 ← (do let r66 ← (do let x64 ← (pure v47); let r65 ← pure []; pure (x64 :: r65)); let o67 ← Mo.lift (m_LabelPattern_init_02ae r66); pure (D.ins "LabelPattern" ["text", "level", "head", "tail", "gap"] o67)); (k_law_5d70_0 v63 v47)))
theorem l_law_5d70_1 (v36 : D) : k_law_5d70_1 v36 = (do let v47 ← (iteM (do let x51 ← (do let r50 ← (do let x48 ← (pure v36); let r49 ← pure []; pure (x48 :: r49)); DL.ask (lenD r50)); let y52 ← (pure (.int 8)); DL.ask ((leD x51 y52).bind bOf)) (pure v36) (do let x60 ← (pure v36); let l61 ← (do let x58 ← (do let x56 ← (do let r55 ← (do let x53 ← (pure v36); let r54 ← pure []; pure (x53 :: r54)); DL.ask (lenD r55)); let y57 ← (pure (.int 8)); DL.ask (subD x56 y57)); let i59 ← DL.ask (intOf x58); pure (some i59)); let u62 ← (pure none); DL.ask (sliceD x60 l61 u62))); (do let v63 ← (do let r66 ← (do let x64 ← (pure v47); let r65 ← pure []; pure (x64 :: r65)); let o67 ← Mo.lift (m_LabelPattern_init_02ae r66); pure (D.ins "LabelPattern" ["text", "level", "head", "tail", "gap"] o67)); (k_law_5d70_0 v63 v47))) := id rfl
def k_law_5d70_2 (l29 : List D) : M (Fl (D × D) (Unit)) := (do let v36 ← (do let r46 ← (do let x44 ← (pure (D.lst l29)); let r45 ← (do let x42 ← (iteM (do let x40 ← (do let r39 ← (do let x37 ← (pure (.int 3)); let r38 ← pure []; pure (x37 :: r38)); m__law_take_6859 r39); let y41 ← (pure (.int 0)); DL.ask ((gtD x40 y41).bind bOf)) (pure (.int 3)) (pure (.int 7))); let r43 ← pure []; pure (x42 :: r43)); pure (x44 :: r45)); m__law_glob_1f81 r46); (k_law_5d70_1 v36))
theorem l_law_5d70_2 (l29 : List D) : k_law_5d70_2 l29 = (do let v36 ← (do let r46 ← (do let x44 ← (pure (D.lst l29)); let r45 ← (do let x42 ← (iteM (do let x40 ← (do let r39 ← (do let x37 ← (pure (.int 3)); let r38 ← pure []; pure (x37 :: r38)); m__law_take_6859 r39); let y41 ← (pure (.int 0)); DL.ask ((gtD x40 y41).bind bOf)) (pure (.int 3)) (pure (.int 7))); let r43 ← pure []; pure (x42 :: r43)); pure (x44 :: r45)); m__law_glob_1f81 r46); (k_law_5d70_1 v36)) := id rfl
def k_law_5d70_3 (v82 : D) (q35 : D × D) : M (Fl (Unit) (Unit)) := (do let t112 ← (do let x108 ← (do let r99 ← (do let x97 ← (do let x95 ← (pure v82); let y96 ← (pure q35.2); DL.ask (inO [("LabelPattern", m_LabelPattern_contains_1ab6)] x95 y96)); let r98 ← pure []; pure (x97 :: r98)); DL.ask (reprD r99)); let y109 ← (do let r107 ← (do let x105 ← (do let r104 ← (do let x102 ← (pure q35.1); let r103 ← (do let x100 ← (pure v82); let r101 ← pure []; pure (x100 :: r101)); pure (x102 :: r103)); Mo.lift (m__law_fits_4276 r104)); let r106 ← pure []; pure (x105 :: r106)); DL.ask (reprD r107)); DL.ask ((neD x108 y109).bind bOf)); seqF (if t112 = true then (do let v111 ← (pure (.bl false)); pure (.rt v111)) else (pure (.nx ()))) fun (q110 : Unit) => (pure (.nx ())))
theorem l_law_5d70_3 (v82 : D) (q35 : D × D) : k_law_5d70_3 v82 q35 = (do let t112 ← (do let x108 ← (do let r99 ← (do let x97 ← (do let x95 ← (pure v82); let y96 ← (pure q35.2); DL.ask (inO [("LabelPattern", m_LabelPattern_contains_1ab6)] x95 y96)); let r98 ← pure []; pure (x97 :: r98)); DL.ask (reprD r99)); let y109 ← (do let r107 ← (do let x105 ← (do let r104 ← (do let x102 ← (pure q35.1); let r103 ← (do let x100 ← (pure v82); let r101 ← pure []; pure (x100 :: r101)); pure (x102 :: r103)); Mo.lift (m__law_fits_4276 r104)); let r106 ← pure []; pure (x105 :: r106)); DL.ask (reprD r107)); DL.ask ((neD x108 y109).bind bOf)); seqF (if t112 = true then (do let v111 ← (pure (.bl false)); pure (.rt v111)) else (pure (.nx ()))) fun (q110 : Unit) => (pure (.nx ()))) := id rfl
def k_law_5d70_4 (q35 : D × D) : M (Fl (Unit) (Unit)) := (do let t122 ← (DL.notM (do let x119 ← (do let r118 ← (do let x116 ← (pure q35.2); let r117 ← (do let x114 ← (pure q35.1); let r115 ← pure []; pure (x114 :: r115)); pure (x116 :: r117)); Mo.lift (m__law_is_right_5bac r118)); DL.ask (truD x119))); seqF (if t122 = true then (do let v121 ← (pure (.bl false)); pure (.rt v121)) else (pure (.nx ()))) fun (q120 : Unit) => (pure (.nx ())))
theorem l_law_5d70_4 (q35 : D × D) : k_law_5d70_4 q35 = (do let t122 ← (DL.notM (do let x119 ← (do let r118 ← (do let x116 ← (pure q35.2); let r117 ← (do let x114 ← (pure q35.1); let r115 ← pure []; pure (x114 :: r115)); pure (x116 :: r117)); Mo.lift (m__law_is_right_5bac r118)); DL.ask (truD x119))); seqF (if t122 = true then (do let v121 ← (pure (.bl false)); pure (.rt v121)) else (pure (.nx ()))) fun (q120 : Unit) => (pure (.nx ()))) := id rfl
def k_law_5d70_5 : M (Fl (Unit) (Unit)) := (do let v27 ← (pure (.int 2)); let r28 ← Mo.noex (DL.sgn (b__law_signs_72cc v27)); let l29 ← DL.ask (lstOf r28); (do let r125 ← (do let r32 ← (do let x30 ← (pure (.int 4)); let r31 ← pure []; pure (x30 :: r31)); DL.ask (rng1 r32)); seqF (forF (fun d => some d) (fun (q33 : Unit) (c34 : D) => (seqF (k_law_5d70_2 l29) fun (q35 : D × D) => (do let r123 ← (do let r79 ← (do let x77 ← (pure (.int 6)); let r78 ← pure []; pure (x77 :: r78)); DL.ask (rng1 r79)); seqF (forF (fun d => some d) (fun (q80 : Unit) (c81 : D) => (do let v82 ← (iteM (do let x83 ← (pure c81); let y84 ← (pure (.int 0)); DL.ask ((gtD x83 y84).bind bOf)) (do let r89 ← (do let x87 ← (pure (D.lst l29)); let r88 ← (do let x85 ← (pure q35.1); let r86 ← pure []; pure (x85 :: r86)); pure (x87 :: r88)); m__law_grown_1ce8 r89) (do let r94 ← (do let x92 ← (pure (D.lst l29)); let r93 ← (do let x90 ← (pure (.int 3)); let r91 ← pure []; pure (x90 :: r91)); pure (x92 :: r93)); m__law_label_4f2f r94)); (k_law_5d70_3 v82 q35))) r123 ()) fun (q113 : Unit) => (k_law_5d70_4 q35)))) r125 ()) fun (q124 : Unit) => (pure (.nx ()))))
theorem l_law_5d70_5 : k_law_5d70_5 = (do let v27 ← (pure (.int 2)); let r28 ← Mo.noex (DL.sgn (b__law_signs_72cc v27)); let l29 ← DL.ask (lstOf r28); (do let r125 ← (do let r32 ← (do let x30 ← (pure (.int 4)); let r31 ← pure []; pure (x30 :: r31)); DL.ask (rng1 r32)); seqF (forF (fun d => some d) (fun (q33 : Unit) (c34 : D) => (seqF (k_law_5d70_2 l29) fun (q35 : D × D) => (do let r123 ← (do let r79 ← (do let x77 ← (pure (.int 6)); let r78 ← pure []; pure (x77 :: r78)); DL.ask (rng1 r79)); seqF (forF (fun d => some d) (fun (q80 : Unit) (c81 : D) => (do let v82 ← (iteM (do let x83 ← (pure c81); let y84 ← (pure (.int 0)); DL.ask ((gtD x83 y84).bind bOf)) (do let r89 ← (do let x87 ← (pure (D.lst l29)); let r88 ← (do let x85 ← (pure q35.1); let r86 ← pure []; pure (x85 :: r86)); pure (x87 :: r88)); m__law_grown_1ce8 r89) (do let r94 ← (do let x92 ← (pure (D.lst l29)); let r93 ← (do let x90 ← (pure (.int 3)); let r91 ← pure []; pure (x90 :: r91)); pure (x92 :: r93)); m__law_label_4f2f r94)); (k_law_5d70_3 v82 q35))) r123 ()) fun (q113 : Unit) => (k_law_5d70_4 q35)))) r125 ()) fun (q124 : Unit) => (pure (.nx ())))) := id rfl
def k_law_5d70_6 (v127 : D) : R (Fl (Unit) (Empty)) := (do let v181 ← (notV (do let r180 ← (do let x178 ← (mkL (do let r177 ← (do let r162 ← (pure v127); DL.ask (itD r162)); lcF (fun d => some d) (fun (c164 : D) => pure true) (fun (c164 : D) => (orV (do let x169 ← (pure c164); let y170 ← (do let r167 ← (do let x165 ← (pure (.str [42])); let r166 ← pure []; pure (x165 :: r166)); let o168 ← Mo.lift (m_LabelPattern_init_02ae r167); pure (D.ins "LabelPattern" ["text", "level", "head", "tail", "gap"] o168)); DL.ask (inO [("LabelPattern", m_LabelPattern_contains_1ab6)] x169 y170)) (do let x175 ← (pure c164); let y176 ← (do let r173 ← (do let x171 ← (pure (.str [97])); let r172 ← pure []; pure (x171 :: r172)); let o174 ← Mo.lift (m_LabelPattern_init_02ae r173); pure (D.ins "LabelPattern" ["text", "level", "head", "tail", "gap"] o174)); DL.ask (inO [("LabelPattern", m_LabelPattern_contains_1ab6)] x175 y176)))) r177)); let r179 ← pure []; pure (x178 :: r179)); DL.ask (anyD r180))); pure (.rt v181))
theorem l_law_5d70_6 (v127 : D) : k_law_5d70_6 v127 = (do let v181 ← (notV (do let r180 ← (do let x178 ← (mkL (do let r177 ← (do let r162 ← (pure v127); DL.ask (itD r162)); lcF (fun d => some d) (fun (c164 : D) => pure true) (fun (c164 : D) => (orV (do let x169 ← (pure c164); let y170 ← (do let r167 ← (do let x165 ← (pure (.str [42])); let r166 ← pure []; pure (x165 :: r166)); let o168 ← Mo.lift (m_LabelPattern_init_02ae r167); pure (D.ins "LabelPattern" ["text", "level", "head", "tail", "gap"] o168)); DL.ask (inO [("LabelPattern", m_LabelPattern_contains_1ab6)] x169 y170)) (do let x175 ← (pure c164); let y176 ← (do let r173 ← (do let x171 ← (pure (.str [97])); let r172 ← pure []; pure (x171 :: r172)); let o174 ← Mo.lift (m_LabelPattern_init_02ae r173); pure (D.ins "LabelPattern" ["text", "level", "head", "tail", "gap"] o174)); DL.ask (inO [("LabelPattern", m_LabelPattern_contains_1ab6)] x175 y176)))) r177)); let r179 ← pure []; pure (x178 :: r179)); DL.ask (anyD r180))); pure (.rt v181)) := id rfl
def k_law_5d70_7 : R (Fl (Unit) (Empty)) := (do let v127 ← (mkL (do let r161 ← (do let x159 ← (pure .non); let r160 ← (do let x157 ← (pure (.bl true)); let r158 ← (do let x155 ← (pure (.int 0)); let r156 ← (do let x153 ← (pure (.int 1)); let r154 ← (do let x151 ← (do let r128 ← pure []; let r129 ← DL.ask (szL r128); pure (.tup r129)); let r152 ← (do let x149 ← (mkL (do let r132 ← (do let x130 ← (pure (.str [97])); let r131 ← pure []; pure (x130 :: r131)); DL.ask (szL r132))); let r150 ← (do let x147 ← (do let r135 ← (do let x133 ← (pure (.str [97])); let r134 ← pure []; pure (x133 :: r134)); let r136 ← DL.ask (szL r135); pure (.tup r136)); let r148 ← (do let x145 ← (pure (.str [])); let r146 ← (do let x143 ← (pure (.str [65])); let r144 ← (do let x141 ← (pure (.str [97, 46, 98])); let r142 ← (do let x139 ← (do let x137 ← (pure (.str [113])); let y138 ← (pure (.int 21)); DL.ask (mulD x137 y138)); let r140 ← pure []; pure (x139 :: r140)); pure (x141 :: r142)); pure (x143 :: r144)); pure (x145 :: r146)); pure (x147 :: r148)); pure (x149 :: r150)); pure (x151 :: r152)); pure (x153 :: r154)); pure (x155 :: r156)); pure (x157 :: r158)); pure (x159 :: r160)); DL.ask (szL r161))); (k_law_5d70_6 v127))
theorem l_law_5d70_7 : k_law_5d70_7 = (do let v127 ← (mkL (do let r161 ← (do let x159 ← (pure .non); let r160 ← (do let x157 ← (pure (.bl true)); let r158 ← (do let x155 ← (pure (.int 0)); let r156 ← (do let x153 ← (pure (.int 1)); let r154 ← (do let x151 ← (do let r128 ← pure []; let r129 ← DL.ask (szL r128); pure (.tup r129)); let r152 ← (do let x149 ← (mkL (do let r132 ← (do let x130 ← (pure (.str [97])); let r131 ← pure []; pure (x130 :: r131)); DL.ask (szL r132))); let r150 ← (do let x147 ← (do let r135 ← (do let x133 ← (pure (.str [97])); let r134 ← pure []; pure (x133 :: r134)); let r136 ← DL.ask (szL r135); pure (.tup r136)); let r148 ← (do let x145 ← (pure (.str [])); let r146 ← (do let x143 ← (pure (.str [65])); let r144 ← (do let x141 ← (pure (.str [97, 46, 98])); let r142 ← (do let x139 ← (do let x137 ← (pure (.str [113])); let y138 ← (pure (.int 21)); DL.ask (mulD x137 y138)); let r140 ← pure []; pure (x139 :: r140)); pure (x141 :: r142)); pure (x143 :: r144)); pure (x145 :: r146)); pure (x147 :: r148)); pure (x149 :: r150)); pure (x151 :: r152)); pure (x153 :: r154)); pure (x155 :: r156)); pure (x157 :: r158)); pure (x159 :: r160)); DL.ask (szL r161))); (k_law_5d70_6 v127)) := id rfl
def k_law_5d70_8 (a0 : D) : R (Fl (Unit) (Empty)) := (do let r182 ← (do let r16 ← (do let x14 ← (do let r13 ← (do let x11 ← (pure (.int 1)); let r12 ← (do let x9 ← (do let r8 ← (do let x6 ← (pure (.int 6)); let r7 ← (do let x4 ← (do let r3 ← (do let x1 ← (pure a0); let r2 ← pure []; pure (x1 :: r2)); DL.ask (lenD r3)); let r5 ← pure []; pure (x4 :: r5)); pure (x6 :: r7)); DL.ask (minD r8)); let r10 ← pure []; pure (x9 :: r10)); pure (x11 :: r12)); DL.ask (maxD r13)); let r15 ← pure []; pure (x14 :: r15)); DL.ask (rng1 r16)); seqF (forF (fun d => some d) (fun (q17 : Unit) (c18 : D) => (do let v19 ← (do let r24 ← (do let x22 ← (pure a0); let r23 ← (do let x20 ← (pure c18); let r21 ← pure []; pure (x20 :: r21)); pure (x22 :: r23)); let r25 ← Mo.lift (m__law_bag_fbbe r24); DL.ask (lstOf r25)); withBag (.lst v19) (k_law_5d70_5))) r182 ()) fun (q126 : Unit) => (k_law_5d70_7))
theorem l_law_5d70_8 (a0 : D) : k_law_5d70_8 a0 = (do let r182 ← (do let r16 ← (do let x14 ← (do let r13 ← (do let x11 ← (pure (.int 1)); let r12 ← (do let x9 ← (do let r8 ← (do let x6 ← (pure (.int 6)); let r7 ← (do let x4 ← (do let r3 ← (do let x1 ← (pure a0); let r2 ← pure []; pure (x1 :: r2)); DL.ask (lenD r3)); let r5 ← pure []; pure (x4 :: r5)); pure (x6 :: r7)); DL.ask (minD r8)); let r10 ← pure []; pure (x9 :: r10)); pure (x11 :: r12)); DL.ask (maxD r13)); let r15 ← pure []; pure (x14 :: r15)); DL.ask (rng1 r16)); seqF (forF (fun d => some d) (fun (q17 : Unit) (c18 : D) => (do let v19 ← (do let r24 ← (do let x22 ← (pure a0); let r23 ← (do let x20 ← (pure c18); let r21 ← pure []; pure (x20 :: r21)); pure (x22 :: r23)); let r25 ← Mo.lift (m__law_bag_fbbe r24); DL.ask (lstOf r25)); withBag (.lst v19) (k_law_5d70_5))) r182 ()) fun (q126 : Unit) => (k_law_5d70_7)) := id rfl
def b_law_5d70 (a0 : D) : R (Fl Unit Empty) := (k_law_5d70_8 a0)
theorem e_law_5d70 (a0 : D) : b_law_5d70 a0 = (do let x4 ← (DL.ask (lenD [a0])); let x9 ← (DL.ask (minD [(.int 6), x4])); let x14 ← (DL.ask (maxD [(.int 1), x9])); let r182 ← (DL.ask (rng1 [x14])); seqF (forF (fun d => some d) (fun (q17 : Unit) (c18 : D) => (do let r25 ← Mo.lift (m__law_bag_fbbe [a0, c18]); let v19 ← (DL.ask (lstOf r25)); withBag (.lst v19) (do let r28 ← Mo.noex (DL.sgn (b__law_signs_72cc (.int 2))); let l29 ← DL.ask (lstOf r28); let r125 ← (DL.ask (rng1 [(.int 4)])); seqF (forF (fun d => some d) (fun (q33 : Unit) (c34 : D) => (seqF (do let x42 ← (iteM (do let x40 ← (m__law_take_6859 [(.int 3)]); DL.ask ((gtD x40 (.int 0)).bind bOf)) (pure (.int 3)) (pure (.int 7))); let v36 ← (m__law_glob_1f81 [(D.lst l29), x42]); let v47 ← (iteM (do let x51 ← (DL.ask (lenD [v36])); DL.ask ((leD x51 (.int 8)).bind bOf)) (pure v36) (do let x56 ← (DL.ask (lenD [v36])); let x58 ← (DL.ask (subD x56 (.int 8))); let i59 ← DL.ask (intOf x58); DL.ask (sliceD v36 (some i59) none))); let o67 ← Mo.lift (m_LabelPattern_init_02ae [v47]); let t76 ← (DL.notM (do let x73 ← (Mo.lift (m__law_is_right_5bac [(D.ins "LabelPattern" ["text", "level", "head", "tail", "gap"] o67), v47])); DL.ask (truD x73))); seqF (if t76 = true then (pure (.rt (.bl false))) else (pure (.nx ()))) fun (q74 : Unit) => (pure (.nx (v47, (D.ins "LabelPattern" ["text", "level", "head", "tail", "gap"] o67))))) fun (q35 : D × D) => (do let r123 ← (DL.ask (rng1 [(.int 6)])); seqF (forF (fun d => some d) (fun (q80 : Unit) (c81 : D) => (do let v82 ← (iteM (DL.ask ((gtD c81 (.int 0)).bind bOf)) (m__law_grown_1ce8 [(D.lst l29), q35.1]) (m__law_label_4f2f [(D.lst l29), (.int 3)])); let x97 ← (DL.ask (inO [("LabelPattern", m_LabelPattern_contains_1ab6)] v82 q35.2)); let x108 ← (DL.ask (reprD [x97])); let x105 ← (Mo.lift (m__law_fits_4276 [q35.1, v82])); let y109 ← (DL.ask (reprD [x105])); let t112 ← (DL.ask ((neD x108 y109).bind bOf)); seqF (if t112 = true then (pure (.rt (.bl false))) else (pure (.nx ()))) fun (q110 : Unit) => (pure (.nx ())))) r123 ()) fun (q113 : Unit) => (do let t122 ← (DL.notM (do let x119 ← (Mo.lift (m__law_is_right_5bac [q35.2, q35.1])); DL.ask (truD x119))); seqF (if t122 = true then (pure (.rt (.bl false))) else (pure (.nx ()))) fun (q120 : Unit) => (pure (.nx ())))))) r125 ()) fun (q124 : Unit) => (pure (.nx ()))))) r182 ()) fun (q126 : Unit) => (do let r129 ← DL.ask (szL []); let x149 ← (DL.ask (szL [(.str [97])])); let r136 ← DL.ask (szL [(.str [97])]); let x139 ← (DL.ask (mulD (.str [113]) (.int 21))); let v127 ← (DL.ask (szL [.non, (.bl true), (.int 0), (.int 1), (.tup r129), (.lst x149), (.tup r136), (.str []), (.str [65]), (.str [97, 46, 98]), x139])); let v181 ← (notV (do let r177 ← (DL.ask (itD (.lst v127))); let x178 ← (lcF (fun d => some d) (fun (c164 : D) => pure true) (fun (c164 : D) => (orV (do let o168 ← Mo.lift (m_LabelPattern_init_02ae [(.str [42])]); DL.ask (inO [("LabelPattern", m_LabelPattern_contains_1ab6)] c164 (D.ins "LabelPattern" ["text", "level", "head", "tail", "gap"] o168))) (do let o174 ← Mo.lift (m_LabelPattern_init_02ae [(.str [97])]); DL.ask (inO [("LabelPattern", m_LabelPattern_contains_1ab6)] c164 (D.ins "LabelPattern" ["text", "level", "head", "tail", "gap"] o174))))) r177); DL.ask (anyD [(.lst x178)]))); pure (.rt v181))) := by
  unfold b_law_5d70; simp only [l_law_5d70_0, l_law_5d70_1, l_law_5d70_2, l_law_5d70_3, l_law_5d70_4, l_law_5d70_5, l_law_5d70_6, l_law_5d70_7, l_law_5d70_8, pure_bind, bind_assoc, mkL]
def m_law_5d70 : List D → R D := apR1 fun a0 => (runR false (b_law_5d70 a0))
end FN
namespace FN
open DL
theorem ok_runT {x : M (Fl Unit Empty)} {Q : D → Prop} (h : Ok x (FlQ true Q)) : Ok (runT x) Q := fun s i => by
  obtain ⟨f, s', e, i', q⟩ := h s i
  unfold runT
  rw [e]
  cases f with
  | rt d => exact ⟨d, s', rfl, i', q⟩
  | nx a => exact nomatch q.1
  | bk b => exact b.elim
  | ct b => exact b.elim
def Sg6 (cs : List Nat) : Prop := cs ≠ [] ∧ cs.length ≤ 1000 ∧ ∀ c ∈ cs, c ∈ CH
theorem sg_of {cs : List Nat} (h : Sg6 cs) : Ok (Mo.noex (m__law_of_bf28 [.lst (chrs cs)])) fun d => ∃ c ∈ cs, d = .str [c] :=
  ok_noex (ok_mono (of_ok (by simpa [chrs] using h.1) (by rw [chrs_len]; have := h.2.1; omega)) fun d m => chrs_mem m)
theorem drawnN {cs : List Nat} {n : Nat} {lo : Int} (h : Sg6 cs) : Ok (lcF (fun d => some d) (fun (_ : D) => pure true) (fun (_ : D) => Mo.noex (m__law_of_bf28 [.lst (chrs cs)])) (rangeL lo n)) fun rs => ∃ z, rs = chrs z ∧ z.length = n ∧ ∀ c ∈ z, c ∈ cs :=
  ok_mono (ok_lc (P := fun _ r => r ∈ chrs cs) _ fun d _ => ⟨d, rfl, ok_mono (sg_of h) fun d ⟨c, m, e⟩ => by subst e; exact List.mem_map.mpr ⟨c, m, rfl⟩⟩) fun rs q => by
    obtain ⟨z, e, hz, hm⟩ := drawn_chrs q
    exact ⟨z, e, by rw [hz, range_len], hm⟩
theorem signs06 : Ok (Mo.noex (DL.sgn (b__law_signs_72cc (.int 2)))) fun d => ∃ cs, d = .lst (chrs cs) ∧ Sg6 cs := by
  refine ok_noex ?_
  have key : Ok (b__law_signs_72cc (.int 2)) fun f => ∃ ls fs : List Nat, f = .nx (chrs ls, chrs fs) ∧ fs.length = 2 ∧ ∀ c ∈ fs, c ∈ CH := by
    rw [e__law_signs_72cc]
    simp only [rng1_ok (j := 2) (by omega) (by omega), askM, pure_bind]
    refine ok_seq (ok_for (fun i a => ∃ ls fs : List Nat, a = (chrs ls, chrs fs) ∧ fs.length = i ∧ ls.length + i = 36 ∧ ∀ c ∈ fs ++ ls, c ∈ CH) _ _ ⟨CH, [], rfl, rfl, rfl, by simp⟩ ?_ ?_)
    · rintro i d a hd ⟨ls, fs, rfl, h2, h3, h5⟩
      obtain ⟨hi, rfl⟩ := range_get hd
      have hi2 : i < 2 := hi
      refine ⟨_, rfl, ?_⟩
      simp only [len_lst, askM, noex_M, pure_bind, flat_int]
      refine ok_then (take_ok (n := (chrs ls).length) (by rw [chrs_len]; omega) (by rw [chrs_len]; omega)) ?_
      rintro d ⟨j, rfl, h6, h7⟩
      simp only [pop_ok h6 h7, askM, pure_bind, apd_ok (ds := chrs fs) (by rw [chrs_len]; omega)]
      rw [chrs_len] at h7
      have hj : j.toNat < ls.length := by omega
      refine ok_pure ⟨ls.eraseIdx j.toNat, fs ++ [ls[j.toNat]], ?_, by simp [h2], ?_, ?_⟩
      · unfold chrs
        rw [erase_map, List.map_append, List.getElem_map]
        rfl
      · rw [List.length_eraseIdx_of_lt hj]
        omega
      · intro c hc
        rcases List.mem_append.mp hc with hc | hc
        · rcases List.mem_append.mp hc with hc | hc
          · exact h5 c (List.mem_append_left _ hc)
          · have : c = ls[j.toNat] := by simpa using hc
            exact h5 c (List.mem_append_right _ (this ▸ List.getElem_mem _))
        · exact h5 c (List.mem_append_right _ (List.mem_of_mem_eraseIdx hc))
    · rintro a ⟨ls, fs, rfl, h2, h3, h5⟩
      show Ok _ _
      exact ok_pure ⟨ls, fs, rfl, h2, fun c hc => h5 c (List.mem_append_left _ hc)⟩
  intro s i
  obtain ⟨f, s', e, i', ls, fs, rfl, h2, h5⟩ := key s i
  refine ⟨.lst (chrs fs), s', ?_, i', fs, rfl, ⟨fun z => (by rw [z] at h2; cases h2), by omega, h5⟩⟩
  unfold DL.sgn
  rw [e]
theorem label06 {cs : List Nat} {n : Int} (h : Sg6 cs) (h0 : 1 ≤ n) (h1 : n ≤ 8) : Ok (m__law_label_4f2f [.lst (chrs cs), .int n]) fun d => ∃ z, d = .str z ∧ isLab 20 z = true := by
  show Ok (runM false (b__law_label_4f2f (chrs cs) (.int n))) _
  refine ok_runM ?_
  rw [e__law_label_4f2f]
  simp only [str_of, askM, pure_bind]
  refine ok_then (take_ok (n := n) (by omega) (by omega)) ?_
  rintro d ⟨i1, rfl, a1, a2⟩
  simp only [add_ii, askM, pure_bind, rng1_ok (j := 1 + i1) (by omega) (by omega)]
  refine ok_then (drawnN h) ?_
  rintro rs ⟨z, rfl, hz, hzm⟩
  have lz : isLab 8 z = true := isLab_iff.mpr ⟨by omega, by omega, fun c m => h.2.2 c (hzm c m)⟩
  have hp : 0 < z.length := by omega
  simp only [join_chrs (z := z) (by omega), askM, pure_bind]
  refine ok_then (take_ok (n := 8) (by omega) (by omega)) ?_
  rintro d ⟨w, rfl, a3, a4⟩
  simp only [eq_ii, Option.bind_some, bOf_bl, askM, pure_bind]
  have fin : ∀ w : List Nat, isLab 20 w = true → Ok (pure (Fl.rt (D.str w)) : M (Fl Unit Empty)) (FlQ false fun d => ∃ z, d = .str z ∧ isLab 20 z = true) := fun w h => ok_pure ⟨w, rfl, h⟩
  refine ok_seqP (fun a => ∃ u, a = .str u ∧ isLab 8 u = true) ?_ ?_
  · refine ok_ite (fun _ => ?_) fun _ => ok_pure ⟨z, rfl, lz⟩
    simp only [len_str, askM, pure_bind]
    refine ok_then (take_ok (n := z.length) (by omega) (by omega)) ?_
    rintro d ⟨p, rfl, a11, a12⟩
    simp only [int_of, askM, pure_bind, slice_s, list_str, szCH, add_ii]
    refine ok_then (of_ok (ds := chrs CH) (by simp [chrs, CH]) (by decide)) ?_
    intro d hd
    obtain ⟨c, mc, rfl⟩ := chrs_mem hd
    have l3 := cutL_len z none (some p)
    have l4 := cutL_len z (some (p + 1)) none
    have lz8 := (isLab_iff.mp lz).2.1
    simp only [add_ss (a := cutL z none (some p)) (b := [c]) (by simp only [List.length_singleton]; omega), askM, pure_bind, add_ss (a := cutL z none (some p) ++ [c]) (b := cutL z (some (p + 1)) none) (by rw [List.length_append, List.length_singleton]; omega)]
    refine ok_pure ⟨_, rfl, isLab_iff.mpr ⟨by rw [exch_len a11 a12]; omega, by rw [exch_len a11 a12]; omega, fun x hx => ?_⟩⟩
    rcases List.mem_append.mp hx with hx | hx
    · rcases List.mem_append.mp hx with hx | hx
      · exact (isLab_iff.mp lz).2.2 x (cutL_mem hx)
      · exact (List.mem_singleton.mp hx) ▸ mc
    · exact (isLab_iff.mp lz).2.2 x (cutL_mem hx)
  · rintro a ⟨u, rfl, tu⟩
    obtain ⟨u1, u2, u3⟩ := isLab_iff.mp tu
    refine ok_seqP (fun a => ∃ u, a = .str u ∧ isLab 20 u = true) ?_ (fun a ⟨u, e, tu⟩ => e ▸ fin u tu)
    refine ok_ite (fun _ => ?_) fun _ => ok_pure ⟨u, rfl, isLab_iff.mpr ⟨u1, by omega, u3⟩⟩
    have e1 : mulD (.str u) (.int 20) = some (.str (List.replicate 20 u).flatten) := mul_s (k := 20) (by omega) (by omega)
    simp only [e1, askM, pure_bind]
    refine ok_then (take_ok (n := 12) (by omega) (by omega)) ?_
    rintro d ⟨p, rfl, a11, a12⟩
    simp only [add_ii, int_of, askM, pure_bind, slice_s]
    refine ok_pure ⟨_, rfl, isLab_iff.mpr ⟨?_, ?_, fun c hc => u3 c (rep_mem (cutL_mem hc))⟩⟩
    · rw [cut_hi (by omega), List.length_take, rep_len]
      omega
    · rw [cut_hi (by omega), List.length_take]
      omega
end FN
namespace FN
open DL
def Glob (z : List Nat) : Prop := 1 ≤ z.length ∧ z.length ≤ 20 ∧ z.count 42 ≤ 1 ∧ ∀ c ∈ z, c = 42 ∨ c ∈ CH
theorem ch42 : 42 ∉ CH := by decide
theorem ok_stop {β γ : Type} {c : Prop} [Decidable c] {x : M (Fl Unit β)} {k : Unit → M (Fl γ β)} {Q : Fl γ β → Prop} (h : c → Ok x (SeqQ (fun _ => True) Q)) (w : Ok (k ()) Q) : Ok (seqF (if c then x else pure (.nx ())) k) Q :=
  ok_seqP (fun _ => True) (ok_ite h fun _ => ok_pure trivial) fun _ _ => w
theorem count_ch {z : List Nat} (h : ∀ c ∈ z, c ∈ CH) : z.count 42 = 0 := List.count_eq_zero.mpr fun m => ch42 (h _ m)
theorem glob_star : Glob [42] := ⟨by decide, by decide, by decide, by simp⟩
theorem glob06 {cs : List Nat} {n : Int} (h : Sg6 cs) (h0 : 1 ≤ n) (h1 : n ≤ 8) : Ok (m__law_glob_1f81 [.lst (chrs cs), .int n]) fun d => ∃ z, d = .str z ∧ Glob z := by
  show Ok (runM false (b__law_glob_1f81 (chrs cs) (.int n))) _
  refine ok_runM ?_
  rw [e__law_glob_1f81]
  refine ok_then (take_ok (n := 6) (by omega) (by omega)) ?_
  rintro d ⟨w, rfl, a1, a2⟩
  simp only [eq_ii, Option.bind_some, bOf_bl, askM, pure_bind]
  refine ok_stop (fun _ => ok_pure ⟨[42], rfl, glob_star⟩) ?_
  simp only [str_of, add_ii, askM, pure_bind]
  refine ok_then (take_ok (n := n + 1) (by omega) (by omega)) ?_
  rintro d ⟨i1, rfl, b1, b2⟩
  simp only [rng1_ok (j := i1) (by omega) (by omega), askM, pure_bind]
  refine ok_then (drawnN h) ?_
  rintro rs ⟨u, rfl, hu, mu⟩
  have lu : u.length ≤ 8 := by omega
  simp only [join_chrs (z := u) (by omega), askM, pure_bind]
  refine ok_then (take_ok (n := n + 1) (by omega) (by omega)) ?_
  rintro d ⟨i2, rfl, b3, b4⟩
  simp only [rng1_ok (j := i2) (by omega) (by omega), askM, pure_bind]
  refine ok_then (drawnN h) ?_
  rintro rs ⟨v, rfl, hv, mv⟩
  have lv : v.length ≤ 8 := by omega
  simp only [join_chrs (z := v) (by omega), lt_ii, Option.bind_some, bOf_bl, askM, pure_bind]
  have cu : ∀ c ∈ u, c ∈ CH := fun c m => h.2.2 c (mu c m)
  have cv : ∀ c ∈ v, c ∈ CH := fun c m => h.2.2 c (mv c m)
  refine ok_stop (fun _ => ?_) ?_
  · simp only [add_ss (a := u) (b := v) (by omega), askM, pure_bind]
    refine ok_then (sg_of h) ?_
    rintro d ⟨c, mc, rfl⟩
    simp only [add_ss (a := u ++ v) (b := [c]) (by simp; omega), int_of, slice_s, askM, pure_bind]
    have e : cutL (u ++ v ++ [c]) none (some 8) = (u ++ v ++ [c]).take 8 := cut_hi (by omega)
    rw [e]
    have all : ∀ x ∈ (u ++ v ++ [c]).take 8, x ∈ CH := fun x m => by
      have m := List.mem_of_mem_take m
      rcases List.mem_append.mp m with m | m
      · rcases List.mem_append.mp m with m | m
        · exact cu x m
        · exact cv x m
      · rw [List.mem_singleton.mp m]; exact h.2.2 c mc
    exact ok_pure ⟨_, rfl, by simp; omega, by simp; omega, by rw [count_ch all]; omega, fun x m => .inr (all x m)⟩
  · simp only [add_ss (a := u) (b := [42]) (by simp; omega), add_ss (a := u ++ [42]) (b := v) (by simp; omega), askM, pure_bind]
    refine ok_pure ⟨_, rfl, by simp; omega, by simp; omega, ?_, fun x m => ?_⟩
    · rw [List.count_append, List.count_append, count_ch cu, count_ch cv]
      decide
    · rcases List.mem_append.mp m with m | m
      · rcases List.mem_append.mp m with m | m
        · exact .inr (cu x m)
        · exact .inl (List.mem_singleton.mp m)
      · exact .inr (cv x m)
theorem glob_it {z : List Nat} (h : Glob z) : isIt (if z.length ≤ 8 then z else z.drop (z.length - 8)) = true := by
  obtain ⟨h1, h2, h3, h4⟩ := h
  unfold isIt
  by_cases c : z.length ≤ 8
  · rw [if_pos c]
    simp [c, h3]
    exact ⟨h1, h4⟩
  · rw [if_neg c]
    have l : (z.drop (z.length - 8)).length = 8 := by rw [List.length_drop]; omega
    simp only [Bool.and_eq_true, decide_eq_true_eq, List.all_eq_true, Bool.or_eq_true]
    exact ⟨⟨⟨by omega, by omega⟩, Nat.le_trans ((List.drop_sublist _ _).count_le _) h3⟩, fun x m => h4 x (List.mem_of_mem_drop m)⟩
theorem replL_one {y x : List Nat} : ∀ {P : Nat → Prop}, (∀ c ∈ y, P c) → (∀ c ∈ x, c = 42 ∨ P c) → (∀ c ∈ PySem.StrLaws.replL [42] y x, P c) := by
  intro P hy
  induction x with
  | nil => intro _ c m; rw [PySem.StrLaws.replL_nil] at m; cases m
  | cons a x ih =>
    intro hx c m
    have ih := ih fun c m => hx c (List.mem_cons_of_mem _ m)
    by_cases e : a = 42
    · subst e
      rw [PySem.StrLaws.replL_hit (by simp) (by simp)] at m
      rcases List.mem_append.mp m with m | m
      · exact hy c m
      · exact ih c (by simpa using m)
    · rw [PySem.StrLaws.replL_miss (by simpa using e)] at m
      rcases List.mem_cons.mp m with m | m
      · rw [m]; exact (hx a List.mem_cons_self).resolve_left e
      · exact ih c m
theorem repD_ok {x y : List Nat} (hx : x.length ≤ 8) (hy : y.length ≤ 3) (h : ∀ c ∈ y, c ∈ CH) (hc : ∀ c ∈ x, c = 42 ∨ c ∈ CH) : ∃ z, repD (.str x) (.str y) = some (.str z) ∧ z.length ≤ 40 ∧ ∀ c ∈ z, c ∈ CH := by
  have ne : ¬ (y = [42] ∨ 16777216 < x.length + (x.length + 1) * y.length) := by
    rintro (e | e)
    · exact ch42 (h 42 (by rw [e]; exact List.mem_singleton.mpr rfl))
    · have : (x.length + 1) * y.length ≤ 9 * 3 := Nat.mul_le_mul (by omega) hy
      omega
  refine ⟨(PySem.Txt.replace ⟨x.toArray⟩ ⟨#[42]⟩ ⟨y.toArray⟩).cps.toList, if_neg ne, ?_, ?_⟩
  · have l := TK.replace_len ⟨x.toArray⟩ ⟨#[42]⟩ ⟨y.toArray⟩
    have e1 : PySem.Str.length ⟨x.toArray⟩ = x.length := by show x.toArray.size = _; simp
    have e2 : PySem.Str.length ⟨y.toArray⟩ = y.length := by show y.toArray.size = _; simp
    have e3 : ∀ q : PySem.Str, q.cps.toList.length = q.length := fun q => by rw [Array.length_toList]; rfl
    rw [e1, e2] at l
    have : (x.length + 1) * y.length ≤ 9 * 3 := Nat.mul_le_mul (by omega) hy
    rw [e3]
    omega
  · have e := PySem.StrLaws.replace_list (x := ⟨x.toArray⟩) (y := ⟨#[42]⟩) (z := ⟨y.toArray⟩) (by decide)
    rw [e]
    exact replL_one (by simpa using h) (by simpa using hc)
theorem grown06 {cs x : List Nat} (h : Sg6 cs) (hx : isIt x = true) : Ok (m__law_grown_1ce8 [.lst (chrs cs), .str x]) fun d => ∃ z, d = .str z ∧ isLab 20 z = true := by
  have hI : 1 ≤ x.length ∧ x.length ≤ 8 ∧ ∀ c ∈ x, c = 42 ∨ c ∈ CH := by
    unfold isIt at hx
    simp only [Bool.and_eq_true, decide_eq_true_eq, List.all_eq_true, Bool.or_eq_true] at hx
    exact ⟨hx.1.1.1, hx.1.1.2, hx.2⟩
  show Ok (runT (b__law_grown_1ce8 (chrs cs) (.str x))) _
  refine ok_runT ?_
  rw [e__law_grown_1ce8]
  simp only [str_of, askM, pure_bind]
  refine ok_then (take_ok (n := 4) (by omega) (by omega)) ?_
  rintro d ⟨i1, rfl, a1, a2⟩
  simp only [rng1_ok (j := i1) (by omega) (by omega), askM, pure_bind]
  refine ok_then (drawnN h) ?_
  rintro rs ⟨y, rfl, hy, my⟩
  simp only [join_chrs (z := y) (by omega), askM, pure_bind]
  obtain ⟨z, ez, lz, mz⟩ := repD_ok (x := x) (y := y) hI.2.1 (by omega) (fun c m => h.2.2 c (my c m)) hI.2.2
  simp only [ez, askM, pure_bind]
  refine ok_then (take_ok (n := 8) (by omega) (by omega)) ?_
  rintro d ⟨w, rfl, a3, a4⟩
  simp only [eq_ii, Option.bind_some, bOf_bl, askM, pure_bind]
  have step : ∀ {n : Nat} {z : List Nat}, z.length ≤ n → (∀ c ∈ z, c ∈ CH) → ∃ u, D.str z = .str u ∧ u.length ≤ n ∧ ∀ c ∈ u, c ∈ CH := fun a b => ⟨_, rfl, a, b⟩
  refine ok_seqP (fun a => ∃ u, a = .str u ∧ u.length ≤ 40 ∧ ∀ c ∈ u, c ∈ CH) (ok_ite (fun _ => ?_) fun _ => ok_pure ⟨z, rfl, lz, mz⟩) ?_
  · simp only [int_of, slice_s, askM, pure_bind]
    exact ok_pure ⟨_, rfl, Nat.le_trans (cutL_len z (some 1) none) lz, fun c m => mz c (cutL_mem m)⟩
  rintro a ⟨z, rfl, lz, mz⟩
  refine ok_seqP (fun a => ∃ u, a = .str u ∧ u.length ≤ 40 ∧ ∀ c ∈ u, c ∈ CH) (ok_ite (fun _ => ?_) fun _ => ok_pure ⟨z, rfl, lz, mz⟩) ?_
  · have e : negD (.int 1) = some (.int (-1)) := rfl
    simp only [e, int_of, slice_s, askM, pure_bind]
    exact ok_pure ⟨_, rfl, Nat.le_trans (cutL_len z none (some (-1))) lz, fun c m => mz c (cutL_mem m)⟩
  rintro a ⟨z, rfl, lz, mz⟩
  refine ok_seqP (fun a => ∃ u, a = .str u ∧ u.length ≤ 41 ∧ ∀ c ∈ u, c ∈ CH) (ok_ite (fun _ => ?_) fun _ => ok_pure ⟨z, rfl, by omega, mz⟩) ?_
  · refine ok_then (sg_of h) ?_
    rintro d ⟨c, mc, rfl⟩
    simp only [add_ss (a := z) (b := [c]) (by simp; omega), askM, pure_bind]
    exact ok_pure ⟨_, rfl, by simp; omega, fun q m => (List.mem_append.mp m).elim (mz q) fun m => List.mem_singleton.mp m ▸ h.2.2 c mc⟩
  rintro a ⟨z, rfl, lz, mz⟩
  refine ok_seqP (fun a => ∃ u, a = .str u ∧ u.length ≤ 42 ∧ ∀ c ∈ u, c ∈ CH) (ok_ite (fun _ => ?_) fun _ => ok_pure ⟨z, rfl, by omega, mz⟩) ?_
  · refine ok_then (sg_of h) ?_
    rintro d ⟨c, mc, rfl⟩
    simp only [add_ss (a := [c]) (b := z) (by simp; omega), askM, pure_bind]
    exact ok_pure ⟨_, rfl, by simp; omega, fun q m => (List.mem_append.mp m).elim (fun m => List.mem_singleton.mp m ▸ h.2.2 c mc) (mz q)⟩
  rintro a ⟨z, rfl, lz, mz⟩
  cases z with
  | nil =>
    have ne : neD (.str []) (.str []) = some (.bl false) := rfl
    simp only [iteM, ne, Option.bind_some, bOf_bl, askM, pure_bind, bind_assoc, Bool.false_eq_true, if_false]
    refine ok_then (sg_of h) ?_
    rintro d ⟨c, mc, rfl⟩
    exact ok_pure ⟨[c], rfl, isLab_iff.mpr ⟨by simp, by simp, fun q m => List.mem_singleton.mp m ▸ h.2.2 c mc⟩⟩
  | cons c z =>
    have e : cutL (c :: z) none (some 20) = (c :: z).take 20 := cut_hi (by omega)
    have ne : neD (.str (c :: z)) (.str []) = some (.bl true) := rfl
    simp only [iteM, ne, Option.bind_some, bOf_bl, pure_bind, bind_assoc, if_true, int_of, slice_s, e, askM, pure_bind]
    exact ok_pure ⟨_, rfl, isLab_iff.mpr ⟨by simp, by simp; omega, fun q m => mz q (List.mem_of_mem_take m)⟩⟩
end FN
namespace FN
open DL
theorem spl_par {c : Nat} : ∀ (z acc : List Nat), TL.spl [c] 0 acc z = match TL.par [c] acc z with | none => [acc ++ z] | some (p, q) => p :: TL.spl [c] 0 [] q
  | [], acc => by rw [TL.spl_nil]; show _ = [acc ++ []]; rw [List.append_nil]
  | x :: r, acc => by
    by_cases h : x = c
    · subst h
      have hp : TL.pre [x] (x :: r) = true := TL.pre_self [x] r
      rw [TL.spl_hit hp, TL.par_hit hp]
      rfl
    · have hp : TL.pre [c] (x :: r) = false := TL.pre_of_head [] r h
      rw [TL.spl_miss hp, TL.par_miss hp, spl_par r]
      cases TL.par [c] (acc ++ [x]) r with
      | none => simp
      | some pq => rfl
structure Cut (x h t : List Nat) (g : Bool) : Prop where
  part : partD (.str x) (.str [42]) = some (.tup [.str h, .str (if g = true then [42] else []), .str t])
  split : splitD (.str x) (.str [42]) = some (if g = true then [.str h, .str t] else [.str h])
  has : decide (42 ∈ x) = g
  par : TL.par [42] [] x = if g = true then some (h, t) else none
  all : x = if g = true then h ++ 42 :: t else h
  none : g = false → t = []
theorem cut_of {x : List Nat} (hx : isIt x = true) : ∃ h t g, Cut x h t g := by
  unfold isIt at hx
  simp only [Bool.and_eq_true, decide_eq_true_eq, List.all_eq_true, Bool.or_eq_true] at hx
  obtain ⟨⟨⟨h1, h2⟩, h3⟩, h4⟩ := hx
  have hp := part_eq (z := x) (S := [42]) (by simp) (by omega)
  have hs := split_any (s := 42) (z := x) (by omega) (by omega)
  rw [spl_par] at hs
  cases e : TL.par [42] [] x with
  | none =>
    rw [e] at hp hs
    exact ⟨x, [], false, hp, hs, decide_eq_false (par_none_iff e), e, rfl, fun _ => rfl⟩
  | some pq =>
    obtain ⟨p, q⟩ := pq
    rw [e] at hp hs
    have ex := par_eq e
    rw [List.nil_append] at ex
    have nq : 42 ∉ q := fun m => by
      have c1 := List.count_pos_iff.mpr m
      rw [ex] at h3
      simp at h3
      omega
    have e2 : TL.par [42] [] q = Option.none := by
      cases e3 : TL.par [42] [] q with
      | none => rfl
      | some z => obtain ⟨a, b⟩ := z; exact absurd (par_some_mem e3) nq
    refine ⟨p, q, true, hp, ?_, decide_eq_true (par_some_mem e), e, ex, fun z => nomatch z⟩
    rw [hs]
    show some ((p :: TL.spl [42] 0 [] q).map D.str) = _
    rw [spl_par, e2]
    rfl
def patO (x h t : List Nat) (g : Bool) : D := .ins "LabelPattern" ["text", "level", "head", "tail", "gap"] [.str x, c_LABEL, .tup (chrs h), .tup (chrs t), .bl g]
section
variable {x h t : List Nat} {g : Bool}
theorem shape06 (c : Cut x h t g) : m_label_shape_c600 [.str x] = .ok (.tup [.tup (chrs h), .tup (chrs t), .bl g]) := by
  unfold m_label_shape_c600 apR1
  have e1 : ∀ z : List Nat, tupleXD [.str z] = some (.tup (chrs z)) := fun _ => rfl
  have e2 : eqD (.str (if g = true then [42] else [])) (.str [42]) = some (.bl g) := by cases g <;> rfl
  have e3 : ∀ a b c : D, szL [a, b, c] = some [a, b, c] := fun a b c => sz_ok (by simp)
  simp only [e_label_shape_c600, str_of, askR, pure_bind, c.part, un3_3, e1, e2, e3]
  rfl
theorem init06 (hx : isIt x = true) (c : Cut x h t g) : m_LabelPattern_init_02ae [.str x] = .ok [.str x, c_LABEL, .tup (chrs h), .tup (chrs t), .bl g] := by
  unfold m_LabelPattern_init_02ae apI1
  simp only [pure_bind, bind_assoc, iteM, item_ok, hx, shape06 c, lift_pR, okpR, tru_bl, askR, if_true]
  rfl
theorem is_right06 (hx : isIt x = true) (c : Cut x h t g) : m__law_is_right_5bac [patO x h t g, .str x] = .ok (.bl true) := by
  have hx2 := hx
  unfold isIt at hx2
  simp only [Bool.and_eq_true, decide_eq_true_eq, List.all_eq_true, Bool.or_eq_true] at hx2
  obtain ⟨⟨⟨h1, h2⟩, h3⟩, h4⟩ := hx2
  have f1 : fldD ["LabelPattern"] "text" (patO x h t g) = some (.str x) := rfl
  have f2 : fldD ["LabelPattern"] "level" (patO x h t g) = some c_LABEL := rfl
  have f3 : fldD ["LabelPattern"] "head" (patO x h t g) = some (.tup (chrs h)) := rfl
  have f4 : fldD ["LabelPattern"] "tail" (patO x h t g) = some (.tup (chrs t)) := rfl
  have f5 : attrD [] [("LabelPattern", m_LabelPattern_has_gap_ca45)] "has_gap" (patO x h t g) = .ok (.bl g) := rfl
  have lt : ∀ ds : List D, lenD [.tup ds] = some (.int (ds.length : Int)) := fun _ => rfl
  have m6 : m_LabelPattern_fixed_a36e [patO x h t g] = .ok (.int ((h.length : Int) + (t.length : Int))) := by
    unfold m_LabelPattern_fixed_a36e apR1
    simp only [e_LabelPattern_fixed_a36e, f3, f4, lt, add_ii, askR, pure_bind, chrs_len]
    rfl
  have f6 : attrD [] [("LabelPattern", m_LabelPattern_fixed_a36e)] "fixed" (patO x h t g) = .ok (.int ((h.length : Int) + (t.length : Int))) := by
    show R.nx (m_LabelPattern_fixed_a36e [patO x h t g]) = _
    rw [m6]
    rfl
  have m7 : m_LabelPattern_str_7df6 [patO x h t g] = .ok (.str x) := by
    unfold m_LabelPattern_str_7df6 apR1
    have s1 : strD [.str x] = some (.str x) := rfl
    simp only [e_LabelPattern_str_7df6, f1, s1, askR, pure_bind]
    rfl
  have f7 : strO [("LabelPattern", m_LabelPattern_str_7df6)] [patO x h t g] = some (.str x) := by
    show (match (toO (m_LabelPattern_str_7df6 [patO x h t g])) with | some (.str s) => some (D.str s) | _ => none) = _
    rw [m7]
    rfl
  have e3 : ∀ a b c d e f k : D, szL [a, b, c, d, e, f, k] = some [a, b, c, d, e, f, k] := fun a b c d e f k => sz_ok (by simp)
  have ix0 : ixD (.lst (if g = true then [.str h, .str t] else [.str h])) (.int 0) = some (.str h) := by cases g <;> rfl
  have ls : ∀ z : List Nat, lenD [.str z] = some (.int (z.length : Int)) := fun _ => rfl
  have cu : cutL x (some ((h.length : Int) + 1)) none = t := by
    rw [cut_lo (by omega), c.all]
    cases g with
    | true =>
      have e : ((h.length : Int) + 1).toNat = h.length + 1 := by omega
      simp only [if_true, e]
      simp
    | false =>
      have e : ((h.length : Int) + 1).toNat = h.length + 1 := by omega
      rw [c.none rfl]
      simp [e]
  have lx : h.length ≤ 8 ∧ t.length ≤ 8 := by
    have := congrArg List.length c.all
    cases g with
    | true => simp at this; omega
    | false => rw [c.none rfl]; simp at this; simp; omega
  have szc : ∀ z : List Nat, z.length ≤ 8 → szL (chrs z) = some (chrs z) := fun z hz => sz_ok (by rw [chrs_len]; omega)
  have tl : ∀ ds : List D, tupleD [.lst ds] = some (.tup ds) := fun _ => rfl
  have inx : inD (.str [42]) (.str x) = some (.bl g) := by rw [← c.has]; rfl
  have cl : ∀ z : List Nat, (∀ y ∈ z, y ∈ x) → ∀ y ∈ z, y < 1114112 := fun z hz y m => (h4 y (hz y m)).elim (fun e => by omega) fun e => ch_lt e
  have hin : ∀ y ∈ h, y ∈ x := fun y m => by
    rw [c.all]
    cases g with
    | true => exact List.mem_append_left _ m
    | false => exact m
  have tin : ∀ y ∈ t, y ∈ x := fun y m => by
    cases g with
    | true => rw [c.all]; exact List.mem_append_right _ (List.mem_cons_of_mem _ m)
    | false => rw [c.none rfl] at m; cases m
  have sx : ∀ z : List Nat, (∀ y ∈ z, y ∈ x) → z.length ≤ 8 → Sm 1 1000 (.tup (chrs z)) := fun z hz hl => (sm_tup (n := 0) (W := 8) (k := 8) (fun d m => by
    obtain ⟨y, my, rfl⟩ := List.mem_map.mp m
    exact sm_tx (k := 1) ⟨by simp, fun q mq => cl z hz q (List.mem_singleton.mp mq ▸ my)⟩ (by omega)) (by rw [chrs_len]; omega)).mono (by omega) (by omega)
  have tx : Sm 1 1000 (.str x) := sm_tx (k := 8) ⟨h2, cl x fun _ m => m⟩ (by omega)
  have sm : Sm 2 10000 (.lst [.str x, c_LABEL, .tup (chrs h), .tup (chrs t), .bl g, .int ((h.length : Int) + (t.length : Int)), .str x]) := (sm_lst (n := 1) (W := 1000) (k := 7) (fun d m => by
    simp only [List.mem_cons, List.not_mem_nil, or_false] at m
    rcases m with rfl | rfl | rfl | rfl | rfl | rfl | rfl
    · exact tx
    · exact sm_tx (k := 5) ⟨by simp, by simp⟩ (by omega)
    · exact sx h hin lx.1
    · exact sx t tin lx.2
    · exact sm_bl (by omega)
    · exact sm_int (by omega) (by omega)
    · exact tx) (by simp)).mono (by omega) (by omega)
  obtain ⟨r, er⟩ := repr_nic sm.1 (by omega) (Nat.le_trans sm.2 (by omega))
  unfold m__law_is_right_5bac apR2
  have er2 : reprD [.lst [.str x, .str [108, 97, 98, 101, 108], .tup (chrs h), .tup (chrs t), .bl g, .int ((h.length : Int) + (t.length : Int)), .str x]] = some (.str r) := er
  simp only [e__law_is_right_5bac, f1, f2, f3, f4, f5, f6, f7, e3, lift_pR, okpR, askR, pure_bind, str_of, c.split, ix0, ls, add_ii, int_of, slice_s, cu, list_str, szc h lx.1, szc t lx.2, tl, inx, er, er2, eq_ss, decide_true]
  rfl
end
end FN
namespace FN
open DL
section
variable {x h t l : List Nat} {g : Bool}
theorem in06 {d : D} {T : String} (hd : tyD d = some T) (hx : x.length ≤ 1000) (hl : ∀ l, d = .str l → l.length ≤ 1000) : inO [("LabelPattern", m_LabelPattern_contains_1ab6)] d (patO x h t g) = some (.bl (match d with | .str l => isLab 20 l && fitN x l | _ => false)) := by
  have f1 : fldD ["LabelPattern"] "text" (patO x h t g) = some (.str x) := rfl
  have key : m_LabelPattern_contains_1ab6 [patO x h t g, d] = .ok (.bl (match d with | .str l => isLab 20 l && fitN x l | _ => false)) := by
    unfold m_LabelPattern_contains_1ab6 apR2
    simp only [e_LabelPattern_contains_1ab6, is_label_ok hd, lift_pR, okpR, andV, tru_bl, askR, pure_bind, f1]
    by_cases c : labD d = true
    · cases d with
      | str l =>
        have c2 : isLab 20 l = true := c
        simp only [c, if_true, label_fits43 hx (hl l rfl), c2, Bool.true_and, lift_pR, okpR, pure_bind]
        rfl
      | _ => cases c
    · have c := eq_false_of_ne_true c
      rw [c]
      cases d with
      | str l =>
        have c2 : isLab 20 l = false := c
        simp only [c2, Bool.false_and]
        rfl
      | _ => rfl
  show blO (toO (m_LabelPattern_contains_1ab6 [patO x h t g, d])) = _
  rw [key]
  rfl
theorem fits06 (c : Cut x h t g) (hx : x.length ≤ 1000) : m__law_fits_4276 [.str x, .str l] = .ok (.bl (fitN x l)) := by
  have ni : (notInD (.str [42]) (.str x)).bind bOf = some (!g) := by rw [← c.has]; rfl
  have ls : ∀ z : List Nat, lenD [.str z] = some (.int (z.length : Int)) := fun _ => rfl
  unfold m__law_fits_4276 apR2
  unfold fitN
  rw [c.par]
  cases g with
  | false =>
    simp only [e__law_fits_4276, ni, askR, pure_bind, Bool.not_false, if_true, eq_ss, Bool.false_eq_true, if_false]
    rfl
  | true =>
    have u2 : un2L (.lst [.str h, .str t]) = some (.str h, .str t) := rfl
    have lt : (ltD (.int (l.length : Int)) (.int ((h.length : Int) + (t.length : Int)))).bind bOf = some (!decide (h.length + t.length ≤ l.length)) := by
      rw [lt_ii]
      show some (decide _) = _
      by_cases q : h.length + t.length ≤ l.length
      · rw [decide_eq_true q, decide_eq_false (by omega)]; rfl
      · rw [decide_eq_false q, decide_eq_true (by omega)]; rfl
    have sp := c.split
    simp only [if_true] at sp
    simp only [e__law_fits_4276, ni, askR, pure_bind, Bool.not_true, Bool.false_eq_true, if_false, if_true, str_of, sp, u2, ls, add_ii, lt]
    by_cases q : h.length + t.length ≤ l.length
    · have e1 : cutL l none (some (h.length : Int)) = l.take h.length := cut_to
      have e2 : cutL l (some ((l.length : Int) - (t.length : Int))) none = l.drop (l.length - t.length) := by
        rw [cut_lo (by omega)]
        congr 1
        omega
      simp only [decide_eq_true q, Bool.not_true, Bool.false_eq_true, if_false, int_of, slice_s, e1, eq_ss, andV, tru_bl, askR, pure_bind, sub_ii, e2, Bool.true_and]
      cases decide (l.take h.length = h) <;> rfl
    · simp only [decide_eq_false q, Bool.not_false, if_true, Bool.false_and]
      rfl
end
end FN
namespace FN
open DL
theorem odd06 {x h t : List Nat} {g : Bool} (hx : x.length ≤ 1000) : ∀ d ∈ ([.non, .bl true, .int 0, .int 1, .tup [], .lst [.str [97]], .tup [.str [97]], .str [], .str [65], .str [97, 46, 98], .str (List.replicate 21 [113]).flatten] : List D), inO [("LabelPattern", m_LabelPattern_contains_1ab6)] d (patO x h t g) = some (.bl false) := by
  intro d m
  simp only [List.mem_cons, List.not_mem_nil, or_false] at m
  rcases m with rfl | rfl | rfl | rfl | rfl | rfl | rfl | rfl | rfl | rfl | rfl
  · exact in06 (T := "NoneType") rfl hx (fun _ e => (by cases e))
  · exact in06 (T := "bool") rfl hx (fun _ e => (by cases e))
  · exact in06 (T := "int") rfl hx (fun _ e => (by cases e))
  · exact in06 (T := "int") rfl hx (fun _ e => (by cases e))
  · exact in06 (T := "tuple") rfl hx (fun _ e => (by cases e))
  · exact in06 (T := "list") rfl hx (fun _ e => (by cases e))
  · exact in06 (T := "tuple") rfl hx (fun _ e => (by cases e))
  all_goals
    rw [in06 (T := "str") rfl hx (fun l e => by cases e; decide)]
    rfl
theorem odds06 {o1 o2 : List D} {x1 h1 t1 x2 h2 t2 : List Nat} {g1 g2 : Bool} (e1 : D.ins "LabelPattern" ["text", "level", "head", "tail", "gap"] o1 = patO x1 h1 t1 g1) (e2 : D.ins "LabelPattern" ["text", "level", "head", "tail", "gap"] o2 = patO x2 h2 t2 g2) (l1 : x1.length ≤ 1000) (l2 : x2.length ≤ 1000) :
    (lcF (fun d => some d) (fun (c164 : D) => (pure true : R Bool)) (fun (c164 : D) => (orV (DL.ask (inO [("LabelPattern", m_LabelPattern_contains_1ab6)] c164 (D.ins "LabelPattern" ["text", "level", "head", "tail", "gap"] o1))) (DL.ask (inO [("LabelPattern", m_LabelPattern_contains_1ab6)] c164 (D.ins "LabelPattern" ["text", "level", "head", "tail", "gap"] o2)))))
      ([.non, .bl true, .int 0, .int 1, .tup [], .lst [.str [97]], .tup [.str [97]], .str [], .str [65], .str [97, 46, 98], .str (List.replicate 21 [113]).flatten] : List D)) = pure ((List.replicate 11 (D.bl false))) := by
  rw [lc_map (fun _ => D.bl false) _ fun d m => ?_]
  · rfl
  · rw [e1, e2, odd06 l1 d m, odd06 l2 d m]
    rfl
theorem rep06 (a : Bool) : ∃ s, reprD [.bl a] = some (.str s) := repr_ex (p := .bool a) rfl rfl rfl rfl (Nat.le_of_ble_eq_true rfl)
theorem law_ok06 {ns : List Int} (hn : ns.length ≤ 63) : OkR (m_law_5d70 [.scr ns]) fun d => d = .bl true := by
  refine okr_runR ?_
  simp only [e_law_5d70, len_scr, minD, maxD, askR, pure_bind]
  rw [rng1_ok (by split <;> split <;> omega) (by split <;> split <;> omega)]
  simp only [askR, pure_bind]
  refine okr_seq (okr_forU _ (fun d hd => ⟨d, rfl, ?_⟩) ?_)
  · obtain ⟨k, hk, rfl⟩ := range_mem hd
    have hk6 : k < 6 := by revert hk; split <;> split <;> omega
    refine okr_then (bag_ok ns (i := 0 + (k : Int)) (by omega) (by omega)) ?_
    rintro d ⟨x, y, rfl, hy0, hy1⟩
    simp only [lstOf, askR, pure_bind]
    refine okr_bag hy0 hy1 ?_
    refine ok_then signs06 ?_
    rintro d ⟨cs, rfl, hs⟩
    simp only [lstOf, askM, pure_bind, rng1_ok (j := 4) (by omega) (by omega)]
    refine ok_seq (ok_forU _ (fun d hd => ⟨d, rfl, ?_⟩) (ok_pure trivial))
    refine ok_seqP (fun q => ∃ x h t g, q = (.str x, patO x h t g) ∧ isIt x = true ∧ Cut x h t g) ?_ ?_
    · have d0 : Ok (iteM (do let x40 ← (m__law_take_6859 [(D.int 3)]); DL.ask ((gtD x40 (D.int 0)).bind bOf)) (pure (D.int 3)) (pure (D.int 7)) : M D) fun d => ∃ n : Int, d = .int n ∧ 1 ≤ n ∧ n ≤ 8 := by
        unfold iteM
        simp only [bind_assoc]
        refine ok_then (take_ok (n := 3) (by omega) (by omega)) ?_
        rintro d ⟨i, rfl, _, _⟩
        simp only [gt_ii, Option.bind_some, bOf_bl, askM, pure_bind]
        exact ok_ite (fun _ => ok_pure ⟨3, rfl, by omega, by omega⟩) fun _ => ok_pure ⟨7, rfl, by omega, by omega⟩
      refine ok_then d0 ?_
      rintro d ⟨n, rfl, n0, n1⟩
      refine ok_then (glob06 hs n0 n1) ?_
      rintro d ⟨z, rfl, gz⟩
      have lz : ∀ z : List Nat, lenD [.str z] = some (.int (z.length : Int)) := fun _ => rfl
      have it := glob_it gz
      have text : (iteM (do let x51 ← (DL.ask (lenD [.str z]) : M D); DL.ask ((leD x51 (.int 8)).bind bOf)) (pure (.str z)) (do let x56 ← (DL.ask (lenD [.str z])); let x58 ← (DL.ask (subD x56 (.int 8))); let i59 ← DL.ask (intOf x58); DL.ask (sliceD (.str z) (some i59) none)) : M D) = pure (.str (if z.length ≤ 8 then z else z.drop (z.length - 8))) := by
        simp only [iteM, lz, askM, pure_bind, le_ii, Option.bind_some, bOf_bl]
        by_cases c : z.length ≤ 8
        · rw [decide_eq_true (show (z.length : Int) ≤ 8 by omega), if_pos c]
          rfl
        · rw [decide_eq_false (show ¬ (z.length : Int) ≤ 8 by omega), if_neg c]
          have e2 : cutL z (some ((z.length : Int) - 8)) none = z.drop (z.length - 8) := by
            rw [cut_lo (by omega)]
            congr 1
            omega
          simp only [Bool.false_eq_true, if_false, sub_ii, askM, pure_bind, int_of, slice_s, e2]
      rw [text]
      generalize (if z.length ≤ 8 then z else z.drop (z.length - 8)) = x at it
      obtain ⟨h, t, g, c⟩ := cut_of it
      have ir : m__law_is_right_5bac [D.ins "LabelPattern" ["text", "level", "head", "tail", "gap"] [.str x, c_LABEL, .tup (chrs h), .tup (chrs t), .bl g], .str x] = .ok (.bl true) := is_right06 it c
      simp only [pure_bind, init06 it c, lift_M, DL.notM, ir, tru_bl, askM, Bool.not_true, Bool.false_eq_true, if_false]
      exact ok_pure ⟨x, h, t, g, rfl, it, c⟩
    · rintro q ⟨x, h, t, g, rfl, it, c⟩
      have lx : x.length ≤ 1000 := by
        unfold isIt at it
        simp only [Bool.and_eq_true, decide_eq_true_eq] at it
        omega
      simp only [rng1_ok (j := 6) (by omega) (by omega), askM, pure_bind]
      refine ok_seqP (fun _ => True) (ok_forU _ (fun d hd => ⟨d, rfl, ?_⟩) trivial) fun _ _ => ?_
      · obtain ⟨k2, _, rfl⟩ := range_mem hd
        have dl : Ok (iteM (DL.ask ((gtD (.int (0 + (k2 : Int))) (.int 0)).bind bOf)) (m__law_grown_1ce8 [.lst (chrs cs), .str x]) (m__law_label_4f2f [.lst (chrs cs), .int 3])) fun d => ∃ z, d = .str z ∧ isLab 20 z = true := by
          unfold iteM
          simp only [gt_ii, Option.bind_some, bOf_bl, askM, pure_bind]
          exact ok_ite (fun _ => grown06 hs it) fun _ => label06 hs (by omega) (by omega)
        refine ok_then dl ?_
        rintro d ⟨l, rfl, hl⟩
        have ll : l.length ≤ 1000 := by have := (isLab_iff.mp hl).2.1; omega
        have ei : inO [("LabelPattern", m_LabelPattern_contains_1ab6)] (.str l) (patO x h t g) = some (.bl (fitN x l)) := by
          rw [in06 (T := "str") rfl lx (fun l2 e => by cases e; exact ll)]
          show some (D.bl (isLab 20 l && fitN x l)) = _
          rw [hl, Bool.true_and]
        obtain ⟨s, es⟩ := rep06 (fitN x l)
        simp only [ei, fits06 c lx, lift_M, es, ne_ss, decide_true, Bool.not_true, Option.bind_some, bOf_bl, askM, pure_bind, Bool.false_eq_true, if_false]
        exact ok_seqP (fun _ => True) (ok_pure trivial) fun _ _ => ok_pure trivial
      · simp only [DL.notM, is_right06 it c, lift_M, tru_bl, askM, pure_bind, Bool.not_true, Bool.false_eq_true, if_false]
        exact ok_seqP (fun _ => True) (ok_pure trivial) fun _ _ => ok_pure trivial
  · show OkR _ _
    have it1 : isIt [42] = true := by decide
    have it2 : isIt [97] = true := by decide
    obtain ⟨h1, t1, g1, c1⟩ := cut_of it1
    obtain ⟨h2, t2, g2, c2⟩ := cut_of it2
    have m21 : mulD (.str [113]) (.int 21) = some (.str (List.replicate 21 [113]).flatten) := mul_s (k := 21) (by omega) (by simp)
    have s0 : szL [] = some [] := sz_ok (by simp)
    have s1 : ∀ a : D, szL [a] = some [a] := fun a => sz_ok (by simp)
    have s11 : ∀ a b c d e f g h i j k : D, szL [a, b, c, d, e, f, g, h, i, j, k] = some [a, b, c, d, e, f, g, h, i, j, k] := fun a b c d e f g h i j k => sz_ok (by simp)
    have itl : ∀ ds : List D, itD (.lst ds) = some ds := fun _ => rfl
    have anyF : anyD [.lst (List.replicate 11 (D.bl false))] = some (.bl false) := rfl
    simp only [s0, s1, s11, m21, askR, pure_bind, notV, itl, init06 it1 c1, init06 it2 c2, lift_pR, okpR]
    rw [odds06 (x1 := [42]) (h1 := h1) (t1 := t1) (g1 := g1) (x2 := [97]) (h2 := h2) (t2 := t2) (g2 := g2) rfl rfl (by simp) (by simp)]
    simp only [pure_bind, anyF, askR, tru_bl]
    exact okr_p rfl
theorem law_5d70_true (ns : List Int) (hn : ns.length ≤ 63) : m_law_5d70 [.scr ns] = .ok (.bl true) := by
  obtain ⟨d, e, rfl⟩ := law_ok06 hn
  exact e
end FN
namespace K06
open PySem L2 DL FN
abbrev N_is_label : List Str := ["thing", "sign"]
theorem sc_is_label : FnScope N_is_label ["thing"] (defScope s_is_label) := ⟨rfl, rfl, rfl, by decide +kernel, rfl, by decide +kernel, by decide +kernel⟩
abbrev N_label_shape : List Str := ["text", "head", "star", "tail"]
theorem sc_label_shape : FnScope N_label_shape ["text"] (defScope s_label_shape) := ⟨rfl, rfl, rfl, by decide +kernel, rfl, by decide +kernel, by decide +kernel⟩
abbrev N_label_fits : List Str := ["text", "label", "head", "star", "tail"]
theorem sc_label_fits : FnScope N_label_fits ["text", "label"] (defScope s_label_fits) := ⟨rfl, rfl, rfl, by decide +kernel, rfl, by decide +kernel, by decide +kernel⟩
abbrev N_is_label_text : List Str := ["thing", "sign"]
theorem sc_is_label_text : FnScope N_is_label_text ["thing"] (defScope s_is_label_text) := ⟨rfl, rfl, rfl, by decide +kernel, rfl, by decide +kernel, by decide +kernel⟩
abbrev N__law_bag : List Str := ["_law_script", "_law_at", "_law_cell", "_law_mixed", "_law_k", "_law_one"]
theorem sc__law_bag : FnScope N__law_bag ["_law_script", "_law_at"] (defScope s__law_bag) := ⟨rfl, rfl, rfl, by decide +kernel, rfl, by decide +kernel, by decide +kernel⟩
abbrev N__law_take : List Str := ["_law_bag_here", "_law_many", "_law_digit"]
theorem sc__law_take : FnScope N__law_take ["_law_bag_here", "_law_many"] (defScope s__law_take) := ⟨rfl, rfl, rfl, by decide +kernel, rfl, by decide +kernel, by decide +kernel⟩
abbrev N__law_fits : List Str := ["_law_text", "_law_label_here", "_law_ahead", "_law_behind"]
theorem sc__law_fits : FnScope N__law_fits ["_law_text", "_law_label_here"] (defScope s__law_fits) := ⟨rfl, rfl, rfl, by decide +kernel, rfl, by decide +kernel, by decide +kernel⟩
abbrev N_Pattern_init : List Str := ["self", "text", "level", "shape"]
theorem sc_Pattern_init : FnScope N_Pattern_init ["self", "text", "level", "shape"] (defScope s_Pattern_init) := ⟨rfl, rfl, rfl, by decide +kernel, rfl, by decide +kernel, by decide +kernel⟩
abbrev N_LabelPattern_str : List Str := ["self"]
theorem sc_LabelPattern_str : FnScope N_LabelPattern_str ["self"] (defScope s_LabelPattern_str) := ⟨rfl, rfl, rfl, by decide +kernel, rfl, by decide +kernel, by decide +kernel⟩
abbrev N_LabelPattern_has_gap : List Str := ["self"]
theorem sc_LabelPattern_has_gap : FnScope N_LabelPattern_has_gap ["self"] (defScope s_LabelPattern_has_gap) := ⟨rfl, rfl, rfl, by decide +kernel, rfl, by decide +kernel, by decide +kernel⟩
abbrev N_LabelPattern_fixed : List Str := ["self"]
theorem sc_LabelPattern_fixed : FnScope N_LabelPattern_fixed ["self"] (defScope s_LabelPattern_fixed) := ⟨rfl, rfl, rfl, by decide +kernel, rfl, by decide +kernel, by decide +kernel⟩
abbrev N__law_of : List Str := ["_law_bag_here", "_law_some"]
theorem sc__law_of : FnScope N__law_of ["_law_bag_here", "_law_some"] (defScope s__law_of) := ⟨rfl, rfl, rfl, by decide +kernel, rfl, by decide +kernel, by decide +kernel⟩
abbrev N__law_signs : List Str := ["_law_bag_here", "_law_many", "_law_turn", "_law_left", "_law_found"]
theorem sc__law_signs : FnScope N__law_signs ["_law_bag_here", "_law_many"] (defScope s__law_signs) := ⟨rfl, rfl, rfl, by decide +kernel, rfl, by decide +kernel, by decide +kernel⟩
abbrev N_LabelPattern_init : List Str := ["self", "text", "__class__"]
theorem sc_LabelPattern_init : NdefX.NScope N_LabelPattern_init ["self", "text"] ["__class__"] (defScope s_LabelPattern_init) := NdefX.nscope_by (by decide +kernel)
abbrev N_LabelPattern_contains : List Str := ["self", "thing"]
theorem sc_LabelPattern_contains : FnScope N_LabelPattern_contains ["self", "thing"] (defScope s_LabelPattern_contains) := ⟨rfl, rfl, rfl, by decide +kernel, rfl, by decide +kernel, by decide +kernel⟩
abbrev N__law_label : List Str := ["_law_bag_here", "_law_signs_here", "_law_most", "_law_text", "_law_way", "_law_at", "_law_turn"]
theorem sc__law_label : FnScope N__law_label ["_law_bag_here", "_law_signs_here", "_law_most"] (defScope s__law_label) := ⟨rfl, rfl, rfl, by decide +kernel, rfl, by decide +kernel, by decide +kernel⟩
abbrev N__law_glob : List Str := ["_law_bag_here", "_law_signs_here", "_law_most", "_law_way", "_law_ahead", "_law_behind", "_law_turn"]
theorem sc__law_glob : FnScope N__law_glob ["_law_bag_here", "_law_signs_here", "_law_most"] (defScope s__law_glob) := ⟨rfl, rfl, rfl, by decide +kernel, rfl, by decide +kernel, by decide +kernel⟩
abbrev N__law_grown : List Str := ["_law_bag_here", "_law_signs_here", "_law_text", "_law_middle", "_law_label_here", "_law_way", "_law_turn"]
theorem sc__law_grown : FnScope N__law_grown ["_law_bag_here", "_law_signs_here", "_law_text"] (defScope s__law_grown) := ⟨rfl, rfl, rfl, by decide +kernel, rfl, by decide +kernel, by decide +kernel⟩
abbrev N__law_is_right : List Str := ["_law_pattern", "_law_text", "_law_told", "_law_ahead", "_law_behind", "_law_due"]
theorem sc__law_is_right : FnScope N__law_is_right ["_law_pattern", "_law_text"] (defScope s__law_is_right) := ⟨rfl, rfl, rfl, by decide +kernel, rfl, by decide +kernel, by decide +kernel⟩
abbrev N_law : List Str := ["_law_script", "_law_at", "_law_odd", "_law_bag_here", "_law_signs_here", "_law_turn", "_law_text", "_law_pattern", "_law_k", "_law_label_here", "_law_thing"]
theorem sc_law : FnScope N_law ["_law_script"] (defScope s_law) := ⟨rfl, rfl, rfl, by decide +kernel, rfl, by decide +kernel, by decide +kernel⟩
structure Ad where
  a_is_label : Addr
  f_is_label : FuncData
  a_label_shape : Addr
  f_label_shape : FuncData
  a_label_fits : Addr
  f_label_fits : FuncData
  a_is_label_text : Addr
  f_is_label_text : FuncData
  a__law_bag : Addr
  f__law_bag : FuncData
  a__law_take : Addr
  f__law_take : FuncData
  a__law_fits : Addr
  f__law_fits : FuncData
  a_Pattern_init : Addr
  f_Pattern_init : FuncData
  a_LabelPattern_str : Addr
  f_LabelPattern_str : FuncData
  a_LabelPattern_has_gap : Addr
  f_LabelPattern_has_gap : FuncData
  a_LabelPattern_fixed : Addr
  f_LabelPattern_fixed : FuncData
  a__law_of : Addr
  f__law_of : FuncData
  a__law_signs : Addr
  f__law_signs : FuncData
  a_LabelPattern_init : Addr
  f_LabelPattern_init : FuncData
  a_LabelPattern_contains : Addr
  f_LabelPattern_contains : FuncData
  a__law_label : Addr
  f__law_label : FuncData
  a__law_glob : Addr
  f__law_glob : FuncData
  a__law_grown : Addr
  f__law_grown : FuncData
  a__law_is_right : Addr
  f__law_is_right : FuncData
  a_law : Addr
  f_law : FuncData
  C_LabelPattern : Addr
  x_BadPattern : Addr
  i_BadPattern : Addr
structure Txt [DL.TC] (P : Program) (K : PySem.W.Frag) (mg : Str → Option Value) (A : Ad) : Prop where
  m_is_label : mg "is_label" = some (.ref A.a_is_label)
  F_is_label : Fun K "is_label" "is_label" s_is_label A.a_is_label A.f_is_label
  b_is_label : Binds K A.f_is_label ["thing"] []
  m_label_shape : mg "label_shape" = some (.ref A.a_label_shape)
  F_label_shape : Fun K "label_shape" "label_shape" s_label_shape A.a_label_shape A.f_label_shape
  b_label_shape : Binds K A.f_label_shape ["text"] []
  m_label_fits : mg "label_fits" = some (.ref A.a_label_fits)
  F_label_fits : Fun K "label_fits" "label_fits" s_label_fits A.a_label_fits A.f_label_fits
  b_label_fits : Binds K A.f_label_fits ["text", "label"] []
  m_is_label_text : mg "is_label_text" = some (.ref A.a_is_label_text)
  F_is_label_text : Fun K "is_label_text" "is_label_text" s_is_label_text A.a_is_label_text A.f_is_label_text
  b_is_label_text : Binds K A.f_is_label_text ["thing"] []
  m__law_bag : mg "_law_bag" = some (.ref A.a__law_bag)
  F__law_bag : Fun K "_law_bag" "_law_bag" s__law_bag A.a__law_bag A.f__law_bag
  b__law_bag : Binds K A.f__law_bag ["_law_script", "_law_at"] []
  m__law_take : mg "_law_take" = some (.ref A.a__law_take)
  F__law_take : Fun K "_law_take" "_law_take" s__law_take A.a__law_take A.f__law_take
  b__law_take : Binds K A.f__law_take ["_law_bag_here", "_law_many"] []
  m__law_fits : mg "_law_fits" = some (.ref A.a__law_fits)
  F__law_fits : Fun K "_law_fits" "_law_fits" s__law_fits A.a__law_fits A.f__law_fits
  b__law_fits : Binds K A.f__law_fits ["_law_text", "_law_label_here"] []
  F_Pattern_init : Fun K "__init__" "Pattern.__init__" s_Pattern_init A.a_Pattern_init A.f_Pattern_init
  b_Pattern_init : Binds K A.f_Pattern_init ["self", "text", "level", "shape"] []
  F_LabelPattern_str : Fun K "__str__" "LabelPattern.__str__" s_LabelPattern_str A.a_LabelPattern_str A.f_LabelPattern_str
  b_LabelPattern_str : Binds K A.f_LabelPattern_str ["self"] []
  F_LabelPattern_has_gap : Fun K "has_gap" "LabelPattern.has_gap" s_LabelPattern_has_gap A.a_LabelPattern_has_gap A.f_LabelPattern_has_gap
  b_LabelPattern_has_gap : Binds K A.f_LabelPattern_has_gap ["self"] []
  F_LabelPattern_fixed : Fun K "fixed" "LabelPattern.fixed" s_LabelPattern_fixed A.a_LabelPattern_fixed A.f_LabelPattern_fixed
  b_LabelPattern_fixed : Binds K A.f_LabelPattern_fixed ["self"] []
  m__law_of : mg "_law_of" = some (.ref A.a__law_of)
  F__law_of : Fun K "_law_of" "_law_of" s__law_of A.a__law_of A.f__law_of
  b__law_of : Binds K A.f__law_of ["_law_bag_here", "_law_some"] []
  m__law_signs : mg "_law_signs" = some (.ref A.a__law_signs)
  F__law_signs : Fun K "_law_signs" "_law_signs" s__law_signs A.a__law_signs A.f__law_signs
  b__law_signs : Binds K A.f__law_signs ["_law_bag_here", "_law_many"] []
  F_LabelPattern_init : SupFun P K mg "__init__" "LabelPattern.__init__" s_LabelPattern_init A.a_LabelPattern_init A.a_Pattern_init A.C_LabelPattern A.f_LabelPattern_init
  b_LabelPattern_init : Binds K A.f_LabelPattern_init ["self", "text"] []
  F_LabelPattern_contains : Fun K "__contains__" "LabelPattern.__contains__" s_LabelPattern_contains A.a_LabelPattern_contains A.f_LabelPattern_contains
  b_LabelPattern_contains : Binds K A.f_LabelPattern_contains ["self", "thing"] []
  m__law_label : mg "_law_label" = some (.ref A.a__law_label)
  F__law_label : Fun K "_law_label" "_law_label" s__law_label A.a__law_label A.f__law_label
  b__law_label : Binds K A.f__law_label ["_law_bag_here", "_law_signs_here", "_law_most"] []
  m__law_glob : mg "_law_glob" = some (.ref A.a__law_glob)
  F__law_glob : Fun K "_law_glob" "_law_glob" s__law_glob A.a__law_glob A.f__law_glob
  b__law_glob : Binds K A.f__law_glob ["_law_bag_here", "_law_signs_here", "_law_most"] []
  m__law_grown : mg "_law_grown" = some (.ref A.a__law_grown)
  F__law_grown : Fun K "_law_grown" "_law_grown" s__law_grown A.a__law_grown A.f__law_grown
  b__law_grown : Binds K A.f__law_grown ["_law_bag_here", "_law_signs_here", "_law_text"] []
  m__law_is_right : mg "_law_is_right" = some (.ref A.a__law_is_right)
  F__law_is_right : Fun K "_law_is_right" "_law_is_right" s__law_is_right A.a__law_is_right A.f__law_is_right
  b__law_is_right : Binds K A.f__law_is_right ["_law_pattern", "_law_text"] []
  m_law : mg "law" = some (.ref A.a_law)
  F_law : Fun K "law" "law" s_law A.a_law A.f_law
  b_law : Binds K A.f_law ["_law_script"] []
  C_LabelPattern : ClsN K mg "LabelPattern" A.C_LabelPattern
  na_LabelPattern : ∀ f ∈ (["text", "level", "head", "tail", "gap"] : List Str), NoAttr K A.C_LabelPattern f
  M_LabelPattern : Mk K A.C_LabelPattern A.a_LabelPattern_init
  pr_LabelPattern_fixed : ∃ p, PropOf K A.C_LabelPattern "fixed" p A.a_LabelPattern_fixed
  pr_LabelPattern_has_gap : ∃ p, PropOf K A.C_LabelPattern "has_gap" p A.a_LabelPattern_has_gap
  in_LabelPattern : PySem.W.findIn K (.ref A.C_LabelPattern) "__contains__" = some (some (.ref A.a_LabelPattern_contains)) ∧ PySem.W.isFn K (.ref A.a_LabelPattern_contains) = true
  du_LabelPattern : PySem.W.findIn K (.ref A.C_LabelPattern) "__str__" = some (some (.ref A.a_LabelPattern_str)) ∧ PySem.W.isFn K (.ref A.a_LabelPattern_str) = true
  x_BadPattern : PySem.OwnX.OwnTxt K mg "BadPattern" "pattern" "BadPattern.__init__" A.x_BadPattern A.i_BadPattern
  z_abs : mg "abs" = none
  z_any : mg "any" = none
  z_enumerate : mg "enumerate" = none
  z_int : mg "int" = none
  z_isinstance : mg "isinstance" = none
  z_len : mg "len" = none
  z_list : mg "list" = none
  z_max : mg "max" = none
  z_min : mg "min" = none
  z_range : mg "range" = none
  z_repr : mg "repr" = none
  z_str : mg "str" = none
  z_tuple : mg "tuple" = none
  c_CHARACTERS : GlobIs K mg "CHARACTERS" c_CHARACTERS
  c_LABEL : GlobIs K mg "LABEL" c_LABEL
  c_LONGEST_LABEL : GlobIs K mg "LONGEST_LABEL" c_LONGEST_LABEL
  c_LONGEST_TEXT : GlobIs K mg "LONGEST_TEXT" c_LONGEST_TEXT
section
variable {P : Program} {K : PySem.W.Frag} {mg : Str → Option Value} {base : Heap} {A : Ad} [DL.TC]
theorem fo_gap (T : Txt P K mg A) : FldOk K mg "gap" ["LabelPattern"] := fun c hc => by
  simp only [List.mem_cons, List.not_mem_nil, or_false] at hc
  rcases hc with rfl
  · exact ⟨_, T.C_LabelPattern.mg, T.C_LabelPattern.cl, T.na_LabelPattern _ (by decide +kernel)⟩
theorem fo_head (T : Txt P K mg A) : FldOk K mg "head" ["LabelPattern"] := fun c hc => by
  simp only [List.mem_cons, List.not_mem_nil, or_false] at hc
  rcases hc with rfl
  · exact ⟨_, T.C_LabelPattern.mg, T.C_LabelPattern.cl, T.na_LabelPattern _ (by decide +kernel)⟩
theorem fo_level (T : Txt P K mg A) : FldOk K mg "level" ["LabelPattern"] := fun c hc => by
  simp only [List.mem_cons, List.not_mem_nil, or_false] at hc
  rcases hc with rfl
  · exact ⟨_, T.C_LabelPattern.mg, T.C_LabelPattern.cl, T.na_LabelPattern _ (by decide +kernel)⟩
theorem fo_tail (T : Txt P K mg A) : FldOk K mg "tail" ["LabelPattern"] := fun c hc => by
  simp only [List.mem_cons, List.not_mem_nil, or_false] at hc
  rcases hc with rfl
  · exact ⟨_, T.C_LabelPattern.mg, T.C_LabelPattern.cl, T.na_LabelPattern _ (by decide +kernel)⟩
theorem fo_text (T : Txt P K mg A) : FldOk K mg "text" ["LabelPattern"] := fun c hc => by
  simp only [List.mem_cons, List.not_mem_nil, or_false] at hc
  rcases hc with rfl
  · exact ⟨_, T.C_LabelPattern.mg, T.C_LabelPattern.cl, T.na_LabelPattern _ (by decide +kernel)⟩
theorem g_is_label (T : Txt P K mg A) : FnG P DL.TC.w K mg base 1 A.a_is_label A.f_is_label ["thing"] (spR K mg false 1 m_is_label_344b) := by
  refine fnR (nr := false) (k := 0) T.F_is_label sc_is_label rfl (by decide) (fun cdv Ar outer s H Hf E ds C hl => ?_)
  match ds, hl with
  | [a0], _ => exact ⟨b_is_label_344b a0, (dss_if (exA := fun (q7 : Unit) => [.im a0, .un]) (dw_or (dt_not (dt_tru (de_isi "str" (de_var 0) (by rfl) T.z_isinstance (by rfl) T.z_str rfl))) (dw_or1 (dt_not (dt_chain (od_le C.rm.units) (od_le C.rm.units) de_int (de_callB oc_len (by rfl) T.z_len rfl (da_cons (de_var 0) da_nil)) (de_globI (by rfl) T.c_LONGEST_LABEL))))).pt (dss_ret de_bl) (dss_nil (a := ()) (And.intro (Or.inl rfl) (And.intro (Or.inr rfl) (trivial)))) fun q7 => (dss_ret (de_not (de_frz (df_lc [("sign", 1)] C (di_any (de_var 0)) (blkOk_by (N := N_is_label) (sc := defScope s_is_label) (by decide +kernel)) (fun s H A cl fp => (pgd_name (C.blk _ _ _ _ _) 1)) (fun s H A cl fp C10 c11 => (pts_test (dt_cmp (od_notIn (hu65 C10.rm)) (de_var 1) (de_globI (by rfl) T.c_CHARACTERS) (by rfl)))) (fun s H A cl fp C10 c11 => (de_var 1)) (by decide)))))), rfl⟩
theorem g_label_shape (T : Txt P K mg A) : FnG P DL.TC.w K mg base 1 A.a_label_shape A.f_label_shape ["text"] (spR K mg false 1 m_label_shape_c600) := by
  refine fnR (nr := false) (k := 0) T.F_label_shape sc_label_shape rfl (by decide) (fun cdv Ar outer s H Hf E ds C hl => ?_)
  match ds, hl with
  | [a0], _ => exact ⟨b_label_shape_c600 a0, (dss_unp (pgd_tup3 C 1 2 3) (de_part (de_var 0) (de_str [42])) fun c2 => (pss_k (l_label_shape_c600_0 _) (dss_ret (de_tup (da_cons (de_callTy (oc_tupleX C.calm) (by rfl) T.z_tuple rfl (da_cons (de_var 1) da_nil)) (da_cons (de_callTy (oc_tupleX C.calm) (by rfl) T.z_tuple rfl (da_cons (de_var 3) da_nil)) (da_cons (de_cmp (od_eq C.rm.units) (de_var 2) (de_str [42]) (by rfl)) da_nil))))))), rfl⟩
theorem g_label_fits (T : Txt P K mg A) : FnG P DL.TC.w K mg base 1 A.a_label_fits A.f_label_fits ["text", "label"] (spR K mg false 2 m_label_fits_6e5b) := by
  refine fnR (nr := false) (k := 0) T.F_label_fits sc_label_fits rfl (by decide) (fun cdv Ar outer s H Hf E ds C hl => ?_)
  match ds, hl with
  | [a0, a1], _ => exact ⟨b_label_fits_6e5b a0 a1, (dss_unp (pgd_tup3 C 2 3 4) (de_part (de_var 0) (de_str [42])) fun c2 => (dss_if (exA := fun (q7 : Unit) => [.im a0, .im a1, .im c2.1, .im c2.2.1, .im c2.2.2]) (dt_cmp (od_eq C.rm.units) (de_var 3) (de_str []) (by rfl)) (dss_ret (de_cmp (od_eq C.rm.units) (de_var 0) (de_var 1) (by rfl))) (dss_nil (a := ()) (And.intro (Or.inl rfl) (And.intro (Or.inl rfl) (And.intro (Or.inl rfl) (And.intro (Or.inl rfl) (And.intro (Or.inl rfl) (trivial))))))) fun q7 => (dss_ret (de_and (de_cmp (od_ge C.rm.units) (de_callB oc_len (by rfl) T.z_len rfl (da_cons (de_var 1) da_nil)) (de_op od_add (de_callB oc_len (by rfl) T.z_len rfl (da_cons (de_var 2) da_nil)) (de_callB oc_len (by rfl) T.z_len rfl (da_cons (de_var 4) da_nil))) (by rfl)) (de_and (de_starts (de_var 1) (de_var 2)) (de_one (de_ends (de_var 1) (de_var 4)))))))), rfl⟩
theorem g_is_label_text (T : Txt P K mg A) : FnG P DL.TC.w K mg base 1 A.a_is_label_text A.f_is_label_text ["thing"] (spR K mg false 1 m_is_label_text_206f) := by
  refine fnR (nr := false) (k := 0) T.F_is_label_text sc_is_label_text rfl (by decide) (fun cdv Ar outer s H Hf E ds C hl => ?_)
  match ds, hl with
  | [a0], _ => exact ⟨b_is_label_text_206f a0, (dss_if (exA := fun (q11 : Unit) => [.im a0, .un]) (dw_or (dt_not (dt_tru (de_isi "str" (de_var 0) (by rfl) T.z_isinstance (by rfl) T.z_str rfl))) (dw_or (dt_not (dt_chain (od_le C.rm.units) (od_le C.rm.units) de_int (de_callB oc_len (by rfl) T.z_len rfl (da_cons (de_var 0) da_nil)) (de_globI (by rfl) T.c_LONGEST_TEXT))) (dw_or1 (dt_cmp (od_gt C.rm.units) (de_count (de_var 0) (de_str [42])) de_int (by rfl))))).pt (dss_ret de_bl) (dss_nil (a := ()) (And.intro (Or.inl rfl) (And.intro (Or.inr rfl) (trivial)))) fun q11 => (dss_ret (de_not (de_frz (df_lc [("sign", 1)] C (di_any (de_var 0)) (blkOk_by (N := N_is_label_text) (sc := defScope s_is_label_text) (by decide +kernel)) (fun s H A cl fp => (pgd_name (C.blk _ _ _ _ _) 1)) (fun s H A cl fp C14 c15 => (pts_test (dw_and (dt_cmp (od_ne C14.rm.units) (de_var 1) (de_str [42]) (by rfl)) (dw_and1 (dt_cmp (od_notIn (hu65 C14.rm)) (de_var 1) (de_globI (by rfl) T.c_CHARACTERS) (by rfl)))).pt)) (fun s H A cl fp C14 c15 => (de_var 1)) (by decide)))))), rfl⟩
theorem g__law_bag (T : Txt P K mg A) : FnG P DL.TC.w K mg base 1 A.a__law_bag A.f__law_bag ["_law_script", "_law_at"] (spR K mg true 2 m__law_bag_fbbe) := by
  refine fnR (nr := true) (k := 0) T.F__law_bag sc__law_bag rfl (by decide) (fun cdv Ar outer s H Hf E ds C hl => ?_)
  match ds, hl with
  | [a0, a1], _ => exact ⟨b__law_bag_fbbe a0 a1, (dss_asg C 2 (de_ifExp (dt_cmp (od_lt C.rm.units) (de_var 1) (de_callB oc_len (by rfl) T.z_len rfl (da_cons (de_var 0) da_nil)) (by rfl)) (de_callB oc_abs (by rfl) T.z_abs rfl (da_cons (de_ix (de_var 0) (de_var 1)) da_nil)) de_int) fun v1 => (dss_asg C 3 (de_op od_add de_int (de_op od_mul de_int (de_var 1))) fun v12 => (dss_for (exl := fun (q25 : D) => [.im a0, .im a1, .im v1, .im q25, .un, .un]) v12 C (di_enumL (by rfl) T.z_enumerate (da_cons (de_sl (de_var 0) do_none (do_some de_int)) da_nil)) (pgd_tup2 C 4 5) (And.intro (Or.inl rfl) (And.intro (Or.inl rfl) (And.intro (Or.inl rfl) (And.intro (Or.inl rfl) (And.intro (Or.inr rfl) (And.intro (Or.inr rfl) (trivial))))))) (fun q25 c26 => (dss_asg C 3 (de_op od_mod (de_callTy oc_int (by rfl) T.z_int rfl (da_cons (de_op od_add (de_op od_add (de_op od_mul (de_var 3) de_int) (de_op od_mod (de_callTy oc_int (by rfl) T.z_int rfl (da_cons (de_var 5) da_nil)) de_int)) (de_op od_mul de_int (de_var 4))) da_nil)) de_int) fun v27 => (dss_nil (a := v27) (And.intro (Or.inl rfl) (And.intro (Or.inl rfl) (And.intro (Or.inl rfl) (And.intro (Or.inl rfl) (And.intro (Or.inr rfl) (And.intro (Or.inr rfl) (trivial)))))))))) fun q46 => (dss_retF (df_list (da_cons (de_ifExp (dt_cmp (od_ge C.rm.units) (de_var 2) (de_op od_powC de_int de_int) (by rfl)) (de_var 2) de_int) (da_cons (de_var 3) da_nil))))))), rfl⟩
theorem g__law_take (T : Txt P K mg A) : FnG P DL.TC.w K mg base 1 A.a__law_take A.f__law_take ["_law_bag_here", "_law_many"] (spM K mg false (1 + 1) m__law_take_6859) := by
  refine fnM (nr := false) (k := 0) T.F__law_take sc__law_take rfl (by decide) (fun cdv Ar outer s H Hf bag E ds C hl => ?_)
  match ds, hl with
  | [a1], _ => exact ⟨b__law_take_6859 a1, (dss_if (exA := fun (q3 : Unit) => [.bg, .im a1, .un]) (dt_cmp (od_gt C.rm.units) (de_bagX 0) de_int (by rfl)) (dss_asg C 2 (de_op od_mod (de_callTy oc_int (by rfl) T.z_int rfl (da_cons (de_bagX 0) da_nil)) (de_var 1)) fun v4 => (dss_bagSetX 0 (de_op od_fdiv (de_bagX 0) (de_var 1)) (dss_ret (de_var 2)))) (dss_nil (a := ()) (And.intro (Or.inl rfl) (And.intro (Or.inl rfl) (And.intro (Or.inr rfl) (trivial))))) fun q3 => (dss_bagSetY 0 (de_op od_mod (de_callTy oc_int (by rfl) T.z_int rfl (da_cons (de_op od_add (de_op od_mul (de_bagY 0) de_int) de_int) da_nil)) de_int) (dss_ret (de_op od_mod (de_op od_fdiv (de_op od_mod (de_callTy oc_int (by rfl) T.z_int rfl (da_cons (de_op od_mul (de_op od_fdiv (de_bagY 0) de_int) de_int) da_nil)) de_int) de_int) (de_var 1))))), rfl⟩
theorem g__law_fits (T : Txt P K mg A) : FnG P DL.TC.w K mg base 1 A.a__law_fits A.f__law_fits ["_law_text", "_law_label_here"] (spR K mg false 2 m__law_fits_4276) := by
  refine fnR (nr := false) (k := 0) T.F__law_fits sc__law_fits rfl (by decide) (fun cdv Ar outer s H Hf E ds C hl => ?_)
  match ds, hl with
  | [a0, a1], _ => exact ⟨b__law_fits_4276 a0 a1, (pss_k (l__law_fits_4276_2 _ _) (dss_if (exA := fun (q3 : Unit) => [.im a0, .im a1, .un, .un]) (dt_cmp (od_notIn (hu65 C.rm)) (de_str [42]) (de_var 0) (by rfl)) (dss_ret (de_cmp (od_eq C.rm.units) (de_var 0) (de_var 1) (by rfl))) (dss_nil (a := ()) (And.intro (Or.inl rfl) (And.intro (Or.inl rfl) (And.intro (Or.inr rfl) (And.intro (Or.inr rfl) (trivial)))))) fun q3 => (dss_unp (pgd_tup2L C 2 3) (de_frz (df_split (de_var 0) (de_str [42]))) fun c8 => (pss_k (l__law_fits_4276_1 _ _) (dss_if (exA := fun (q24 : Unit) => [.im a0, .im a1, .im c8.1, .im c8.2]) (dt_cmp (od_lt C.rm.units) (de_callB oc_len (by rfl) T.z_len rfl (da_cons (de_var 1) da_nil)) (de_op od_add (de_callB oc_len (by rfl) T.z_len rfl (da_cons (de_var 2) da_nil)) (de_callB oc_len (by rfl) T.z_len rfl (da_cons (de_var 3) da_nil))) (by rfl)) (dss_ret de_bl) (dss_nil (a := ()) (And.intro (Or.inl rfl) (And.intro (Or.inl rfl) (And.intro (Or.inl rfl) (And.intro (Or.inl rfl) (trivial)))))) fun q24 => (pss_k (l__law_fits_4276_0 _ _) (dss_ret (de_and (de_cmp (od_eq C.rm.units) (de_sl (de_var 1) do_none (do_some (de_callB oc_len (by rfl) T.z_len rfl (da_cons (de_var 2) da_nil)))) (de_var 2) (by rfl)) (de_one (de_cmp (od_eq C.rm.units) (de_sl (de_var 1) (do_some (de_op od_sub (de_callB oc_len (by rfl) T.z_len rfl (da_cons (de_var 1) da_nil)) (de_callB oc_len (by rfl) T.z_len rfl (da_cons (de_var 3) da_nil)))) do_none) (de_var 3) (by rfl))))))))))), rfl⟩
theorem g_Pattern_init (T : Txt P K mg A) : FnG P DL.TC.w K mg base 1 A.a_Pattern_init A.f_Pattern_init ["self", "text", "level", "shape"] (spI K mg ["text", "level", "head", "tail", "gap"] (fun l => l = 3 + 1) m_Pattern_init_4a0d) := by
  refine fnI (k := 0) (n := 3) T.F_Pattern_init sc_Pattern_init rfl (by decide) (fun cdv Ar outer s H Hf E o ds C hl => ?_)
  match ds, hl with
  | [a1, a2, a3], _ => exact ⟨b_Pattern_init_4a0d a1 a2 a3, (dss_if (exA := fun (q3 : Unit) => [.ob [] [], .im a1, .im a2, .im a3]) (dt_cmp od_is (de_var 3) de_non (by rfl)) (dss_raise C T.x_BadPattern (de_var 1)) (dss_nil (a := ()) (And.intro (Or.inl rfl) (And.intro (Or.inl rfl) (And.intro (Or.inl rfl) (And.intro (Or.inl rfl) (trivial)))))) fun q3 => (dss_fld (ns := []) (ds := []) (f := "text") 0 (de_var 1) (fun v5 => (dss_fld (ns := ["text"]) (ds := [v5]) (f := "level") 0 (de_var 2) (fun v6 => (dss_unpF (self := "self") (ns := ["text", "level"]) (es0 := [v5, v6]) C 0 3 [.fl "head", .fl "tail", .fl "gap"] (.fl (.fl (.fl .nil (hm := (by decide +kernel : ("gap" : Str) ∈ (["text", "level", "head", "tail", "gap"] : List Str)))) (hm := (by decide +kernel : ("tail" : Str) ∈ (["text", "level", "head", "tail", "gap"] : List Str)))) (hm := (by decide +kernel : ("head" : Str) ∈ (["text", "level", "head", "tail", "gap"] : List Str)))) (de_var 3) (fun c8 => (dss_nil (a := [v5, v6, (c8.getD 0 .non), (c8.getD 1 .non), (c8.getD 2 .non)]) (And.intro (Or.inl rfl) (And.intro (Or.inr rfl) (And.intro (Or.inr rfl) (And.intro (Or.inr rfl) (trivial))))))))) (hm := (by decide +kernel : ("level" : Str) ∈ (["text", "level", "head", "tail", "gap"] : List Str))))) (hm := (by decide +kernel : ("text" : Str) ∈ (["text", "level", "head", "tail", "gap"] : List Str))))), rfl⟩
theorem g_LabelPattern_str (T : Txt P K mg A) : FnG P DL.TC.w K mg base 1 A.a_LabelPattern_str A.f_LabelPattern_str ["self"] (spR K mg false 1 m_LabelPattern_str_7df6) := by
  refine fnR (nr := false) (k := 0) T.F_LabelPattern_str sc_LabelPattern_str rfl (by decide) (fun cdv Ar outer s H Hf E ds C hl => ?_)
  match ds, hl with
  | [a0], _ => exact ⟨b_LabelPattern_str_7df6 a0, (dss_ret (de_callTy oc_str (by rfl) T.z_str rfl (da_cons (de_fld ["LabelPattern"] (de_var 0) (fo_text T)) da_nil))), rfl⟩
theorem du_str (T : Txt P K mg A) : ∀ q ∈ ([("LabelPattern", m_LabelPattern_str_7df6)] : List (Str × (List D → R D))), DunC P DL.TC.w K mg base 1 1 "__str__" q.1 q.2 := fun q hq => by
  simp only [List.mem_cons, List.not_mem_nil, or_false] at hq
  rcases hq with rfl
  · exact ⟨_, _, T.C_LabelPattern, T.du_LabelPattern.1, T.du_LabelPattern.2, ((g_LabelPattern_str T).pos T.b_LabelPattern_str).mono (by decide)⟩
theorem g_LabelPattern_has_gap (T : Txt P K mg A) : FnG P DL.TC.w K mg base 1 A.a_LabelPattern_has_gap A.f_LabelPattern_has_gap ["self"] (spR K mg false 1 m_LabelPattern_has_gap_ca45) := by
  refine fnR (nr := false) (k := 0) T.F_LabelPattern_has_gap sc_LabelPattern_has_gap rfl (by decide) (fun cdv Ar outer s H Hf E ds C hl => ?_)
  match ds, hl with
  | [a0], _ => exact ⟨b_LabelPattern_has_gap_ca45 a0, (dss_ret (de_fld ["LabelPattern"] (de_var 0) (fo_gap T))), rfl⟩
theorem pr_has_gap (T : Txt P K mg A) : ∀ q ∈ ([("LabelPattern", m_LabelPattern_has_gap_ca45)] : List (Str × (List D → R D))), PropG P DL.TC.w K mg base 1 "has_gap" q.1 q.2 := fun q hq => by
  simp only [List.mem_cons, List.not_mem_nil, or_false] at hq
  rcases hq with rfl
  · obtain ⟨p, hp⟩ := T.pr_LabelPattern_has_gap
    exact ⟨_, p, _, T.C_LabelPattern.mg, T.C_LabelPattern.cl, hp, ((g_LabelPattern_has_gap T).pos T.b_LabelPattern_has_gap).mono (by decide)⟩
theorem g_LabelPattern_fixed (T : Txt P K mg A) : FnG P DL.TC.w K mg base 1 A.a_LabelPattern_fixed A.f_LabelPattern_fixed ["self"] (spR K mg false 1 m_LabelPattern_fixed_a36e) := by
  refine fnR (nr := false) (k := 0) T.F_LabelPattern_fixed sc_LabelPattern_fixed rfl (by decide) (fun cdv Ar outer s H Hf E ds C hl => ?_)
  match ds, hl with
  | [a0], _ => exact ⟨b_LabelPattern_fixed_a36e a0, (pss_k (l_LabelPattern_fixed_a36e_0 _) (dss_ret (de_op od_add (de_callB oc_len (by rfl) T.z_len rfl (da_cons (de_fld ["LabelPattern"] (de_var 0) (fo_head T)) da_nil)) (de_callB oc_len (by rfl) T.z_len rfl (da_cons (de_fld ["LabelPattern"] (de_var 0) (fo_tail T)) da_nil))))), rfl⟩
theorem pr_fixed (T : Txt P K mg A) : ∀ q ∈ ([("LabelPattern", m_LabelPattern_fixed_a36e)] : List (Str × (List D → R D))), PropG P DL.TC.w K mg base 1 "fixed" q.1 q.2 := fun q hq => by
  simp only [List.mem_cons, List.not_mem_nil, or_false] at hq
  rcases hq with rfl
  · obtain ⟨p, hp⟩ := T.pr_LabelPattern_fixed
    exact ⟨_, p, _, T.C_LabelPattern.mg, T.C_LabelPattern.cl, hp, ((g_LabelPattern_fixed T).pos T.b_LabelPattern_fixed).mono (by decide)⟩
theorem g__law_of (T : Txt P K mg A) : FnG P DL.TC.w K mg base 2 A.a__law_of A.f__law_of ["_law_bag_here", "_law_some"] (spM K mg false (1 + 1) m__law_of_bf28) := by
  refine fnM (nr := false) (k := 1) T.F__law_of sc__law_of rfl (by decide) (fun cdv Ar outer s H Hf bag E ds C hl => ?_)
  match ds, hl with
  | [a1], _ => exact ⟨b__law_of_bf28 a1, (dss_ret (de_ix (de_var 1) (de_fnM C 0 (g__law_take T) T.m__law_take T.F__law_take.kp T.b__law_take (da_cons (de_callB oc_len (by rfl) T.z_len rfl (da_cons (de_var 1) da_nil)) da_nil) n__law_take_6859))), rfl⟩
theorem gr__law_of (T : Txt P K mg A) : FnOfR P DL.TC.w K mg base 2 A.a__law_of A.f__law_of ["_law_bag_here", "_law_some"] (fun d => m__law_of_bf28 [d]) :=
  (fnOfR (k := 1) (y := fun l1 => (do let r7 ← (do let x5 ← (do let r2 ← (do let x1 ← (pure (D.lst l1)); let r3 ← (pure []); pure (x1 :: r3)); DL.ask (lenD r2)); let r6 ← pure []; pure (x5 :: r6)); m__law_take_6859 r7)) T.F__law_of sc__law_of rfl (by decide) rfl rfl rfl (by decide) (by decide) (fun _ _ => rfl) (fun cdv Ar outer s H Hf bag Nn l1 C => (de_fnM C 0 (g__law_take T) T.m__law_take T.F__law_take.kp T.b__law_take (da_cons (de_raLn 1 T.z_len) da_nil) n__law_take_6859))).congr fun ds => runM_ret.symm
theorem g__law_signs (T : Txt P K mg A) : FnSg P DL.TC.w K mg base 2 A.a__law_signs A.f__law_signs ["_law_bag_here", "_law_many"] (fun dm => DL.sgn (b__law_signs_72cc dm)) :=
  fnSg (k := 1) (z := [48, 49, 50, 51, 52, 53, 54, 55, 56, 57, 97, 98, 99, 100, 101, 102, 103, 104, 105, 106, 107, 108, 109, 110, 111, 112, 113, 114, 115, 116, 117, 118, 119, 120, 121, 122]) (exl := fun Nn dm q => [.bg, .im dm, .un, .rw Nn q.1, .rw Nn q.2]) (xF := b__law_signs_72cc) T.F__law_signs sc__law_signs rfl (by decide) 3 4 (by decide) rfl T.z_list (by decide +kernel) (by decide) rfl rfl rfl rfl (by decide) (by decide) (fun env he => by
    cases env
    cases he
    exact ⟨fun X e => by unfold L2.Gl; rw [e]; rfl, rfl, rfl⟩) (by decide) (by decide) (fun cdv Ar outer s H Hf bag Nn a1 C => (pss_k (l__law_signs_72cc_0 _) (dss_for (exl := fun (q4 : List D × List D) => [.bg, .im a1, .un, .rw Nn q4.1, .rw Nn q4.2]) ((chrs [48, 49, 50, 51, 52, 53, 54, 55, 56, 57, 97, 98, 99, 100, 101, 102, 103, 104, 105, 106, 107, 108, 109, 110, 111, 112, 113, 114, 115, 116, 117, 118, 119, 120, 121, 122]), []) C (di_range1 (by rfl) T.z_range (da_cons (de_var 1) da_nil)) (pgd_name C 2) (And.intro (Or.inl rfl) (And.intro (Or.inl rfl) (And.intro (Or.inr rfl) (And.intro (Or.inl rfl) (And.intro (Or.inl rfl) (trivial)))))) (fun q4 c5 => (dss_rwApp 3 4 (by decide) (de_fnM C 0 (g__law_take T) T.m__law_take T.F__law_take.kp T.b__law_take (da_cons (de_rwLen 3 T.z_len) da_nil) n__law_take_6859) fun r14 w15 => (dss_nil (a := (r14.2, w15)) (And.intro (Or.inl rfl) (And.intro (Or.inl rfl) (And.intro (Or.inr rfl) (And.intro (Or.inl rfl) (And.intro (Or.inl rfl) (trivial))))))))) fun q16 => (dss_nil (a := (q16.1, q16.2)) (And.intro (Or.inl rfl) (And.intro (Or.inl rfl) (And.intro (Or.inr rfl) (And.intro (Or.inl rfl) (And.intro (Or.inl rfl) (trivial)))))))))) (fun _ _ _ => rfl)
theorem g_LabelPattern_init (T : Txt P K mg A) : FnG P DL.TC.w K mg base 2 A.a_LabelPattern_init A.f_LabelPattern_init ["self", "text"] (spIS K mg A.C_LabelPattern ["text", "level", "head", "tail", "gap"] (fun l => l = 1 + 1) m_LabelPattern_init_02ae) := by
  refine fnSup (k := 1) (j := 1) (n := 1) T.F_LabelPattern_init sc_LabelPattern_init rfl rfl rfl rfl rfl (by rfl) (by rfl) (by rfl) ((g_Pattern_init T).pos T.b_Pattern_init) (by decide) (fun ds h => congrArg (· + 1) (n_Pattern_init_4a0d ds h)) (fun F Ar outer s H Hf E o ds hs hq C hl => ?_)
  obtain ⟨xF, qF, aF, bF, sF, cF, dF⟩ := F
  dsimp only at hs hq
  subst hs hq
  match ds, hl with
  | [a1], _ => exact ⟨(do let x12 ← (pure a1); let r13 ← (do let x10 ← (pure c_LABEL); let r11 ← (do let x8 ← (iteM (do let x4 ← (do let r3 ← (do let x1 ← (pure a1); let r2 ← pure []; pure (x1 :: r2)); Mo.lift (m_is_label_text_206f r3)); DL.ask (truD x4)) (do let r7 ← (do let x5 ← (pure a1); let r6 ← pure []; pure (x5 :: r6)); Mo.lift (m_label_shape_c600 r7)) (pure .non)); let r9 ← pure []; pure (x8 :: r9)); pure (x10 :: r11)); pure (x12 :: r13)), (da_cons (de_var 1) (da_cons (de_globI (by rfl) T.c_LABEL) (da_cons (de_ifExp (dt_tru (de_fn C (g_is_label_text T) T.m_is_label_text T.F_is_label_text.kp T.b_is_label_text (da_cons (de_var 1) da_nil) n_is_label_text_206f)) (de_fn C (g_label_shape T) T.m_label_shape T.F_label_shape.kp T.b_label_shape (da_cons (de_var 1) da_nil) n_label_shape_c600) de_non) da_nil))), rfl⟩
theorem g_LabelPattern_contains (T : Txt P K mg A) : FnG P DL.TC.w K mg base 2 A.a_LabelPattern_contains A.f_LabelPattern_contains ["self", "thing"] (spR K mg false 2 m_LabelPattern_contains_1ab6) := by
  refine fnR (nr := false) (k := 1) T.F_LabelPattern_contains sc_LabelPattern_contains rfl (by decide) (fun cdv Ar outer s H Hf E ds C hl => ?_)
  match ds, hl with
  | [a0, a1], _ => exact ⟨b_LabelPattern_contains_1ab6 a0 a1, (pss_k (l_LabelPattern_contains_1ab6_0 _ _) (dss_ret (de_and (de_fn C (g_is_label T) T.m_is_label T.F_is_label.kp T.b_is_label (da_cons (de_var 1) da_nil) n_is_label_344b) (de_one (de_fn C (g_label_fits T) T.m_label_fits T.F_label_fits.kp T.b_label_fits (da_cons (de_fld ["LabelPattern"] (de_var 0) (fo_text T)) (da_cons (de_var 1) da_nil)) n_label_fits_6e5b))))), rfl⟩
theorem in_LabelPattern (T : Txt P K mg A) : ∀ q ∈ ([("LabelPattern", m_LabelPattern_contains_1ab6)] : List (Str × (List D → R D))), DunC P DL.TC.w K mg base 2 2 "__contains__" q.1 q.2 := fun q hq => by
  simp only [List.mem_cons, List.not_mem_nil, or_false] at hq
  rcases hq with rfl
  · exact ⟨_, _, T.C_LabelPattern, T.in_LabelPattern.1, T.in_LabelPattern.2, ((g_LabelPattern_contains T).pos T.b_LabelPattern_contains).mono (by decide)⟩
theorem g__law_label (T : Txt P K mg A) : FnG P DL.TC.w K mg base 3 A.a__law_label A.f__law_label ["_law_bag_here", "_law_signs_here", "_law_most"] (fun vs H Q E => ∃ Nn, spS K mg false 3 Nn m__law_label_4f2f vs H Q E) := by
  refine fnS (nr := false) (k := 2) (n := 1) T.F__law_label sc__law_label rfl (by decide) (fun cdv Ar outer s H Hf bag E Nn l1 ds C hl => ?_)
  match ds, hl with
  | [a2], _ => exact ⟨b__law_label_4f2f l1 a2, (pss_k (l__law_label_4f2f_3 _ _) (dss_asg C 3 (de_join (de_str []) (de_frz (df_lc [("_law_turn", 6)] C (di_range1 (by rfl) T.z_range (da_cons (de_op od_add de_int (de_fnM C 0 (g__law_take T) T.m__law_take T.F__law_take.kp T.b__law_take (da_cons (de_var 2) da_nil) n__law_take_6859)) da_nil)) (blkOk_by (N := N__law_label) (sc := defScope s__law_label) (by decide +kernel)) (fun s H A cl fp => (pgd_name (C.blk _ _ _ _ _) 6)) (fun s H A cl fp C10 c11 => pts_true) (fun s H A cl fp C10 c11 => (de_ofRa 0 1 C10 (gr__law_of T) rfl T.m__law_of T.F__law_of.kp T.b__law_of (fun _ => rfl))) (by decide)))) fun v1 => (dss_asg C 4 (de_fnM C 0 (g__law_take T) T.m__law_take T.F__law_take.kp T.b__law_take (da_cons de_int da_nil) n__law_take_6859) fun v18 => (pss_k (l__law_label_4f2f_2 _ _) (dss_if (exA := fun (q24 : D) => [.bg, .ra Nn l1, .im a2, .im q24, .im v18, .un, .un]) (dt_cmp (od_eq C.rm.units) (de_var 4) de_int (by rfl)) (dss_asg C 5 (de_fnM C 0 (g__law_take T) T.m__law_take T.F__law_take.kp T.b__law_take (da_cons (de_callB oc_len (by rfl) T.z_len rfl (da_cons (de_var 3) da_nil)) da_nil) n__law_take_6859) fun v25 => (pss_k (l__law_label_4f2f_0 _ _) (dss_asg C 3 (de_op od_add (de_op od_add (de_sl (de_var 3) do_none (do_some (de_var 5))) (de_fnM C 0 (g__law_of T) T.m__law_of T.F__law_of.kp T.b__law_of (da_cons (de_frz (df_callTy (oc_list C.calm) (by rfl) T.z_list rfl (da_cons (de_str [48, 49, 50, 51, 52, 53, 54, 55, 56, 57, 97, 98, 99, 100, 101, 102, 103, 104, 105, 106, 107, 108, 109, 110, 111, 112, 113, 114, 115, 116, 117, 118, 119, 120, 121, 122]) da_nil))) da_nil) n__law_of_bf28)) (de_sl (de_var 3) (do_some (de_op od_add (de_var 5) de_int)) do_none)) fun v32 => (dss_nil (a := v32) (And.intro (Or.inl rfl) (And.intro (Or.inl rfl) (And.intro (Or.inl rfl) (And.intro (Or.inl rfl) (And.intro (Or.inl rfl) (And.intro (Or.inr rfl) (And.intro (Or.inr rfl) (trivial)))))))))))) (dss_nil (a := v1) (And.intro (Or.inl rfl) (And.intro (Or.inl rfl) (And.intro (Or.inl rfl) (And.intro (Or.inl rfl) (And.intro (Or.inl rfl) (And.intro (Or.inr rfl) (And.intro (Or.inr rfl) (trivial))))))))) fun q24 => (dss_if (exA := fun (q58 : D) => [.bg, .ra Nn l1, .im a2, .im q58, .im v18, .un, .un]) (dt_cmp (od_eq C.rm.units) (de_var 4) de_int (by rfl)) (pss_k (l__law_label_4f2f_1 _) (dss_asg C 3 (de_sl (de_op od_mul (de_var 3) de_int) do_none (do_some (de_op od_add de_int (de_fnM C 0 (g__law_take T) T.m__law_take T.F__law_take.kp T.b__law_take (da_cons de_int da_nil) n__law_take_6859)))) fun v59 => (dss_nil (a := v59) (And.intro (Or.inl rfl) (And.intro (Or.inl rfl) (And.intro (Or.inl rfl) (And.intro (Or.inl rfl) (And.intro (Or.inl rfl) (And.intro (Or.inr rfl) (And.intro (Or.inr rfl) (trivial))))))))))) (dss_nil (a := q24) (And.intro (Or.inl rfl) (And.intro (Or.inl rfl) (And.intro (Or.inl rfl) (And.intro (Or.inl rfl) (And.intro (Or.inl rfl) (And.intro (Or.inr rfl) (And.intro (Or.inr rfl) (trivial))))))))) fun q58 => (dss_ret (de_var 3)))))))), rfl⟩
theorem g__law_glob (T : Txt P K mg A) : FnG P DL.TC.w K mg base 3 A.a__law_glob A.f__law_glob ["_law_bag_here", "_law_signs_here", "_law_most"] (fun vs H Q E => ∃ Nn, spS K mg false 3 Nn m__law_glob_1f81 vs H Q E) := by
  refine fnS (nr := false) (k := 2) (n := 1) T.F__law_glob sc__law_glob rfl (by decide) (fun cdv Ar outer s H Hf bag E Nn l1 ds C hl => ?_)
  match ds, hl with
  | [a2], _ => exact ⟨b__law_glob_1f81 l1 a2, (pss_k (l__law_glob_1f81_4 _ _) (dss_asg C 3 (de_fnM C 0 (g__law_take T) T.m__law_take T.F__law_take.kp T.b__law_take (da_cons de_int da_nil) n__law_take_6859) fun v1 => (dss_if (exA := fun (q7 : Unit) => [.bg, .ra Nn l1, .im a2, .im v1, .un, .un, .un]) (dt_cmp (od_eq C.rm.units) (de_var 3) de_int (by rfl)) (dss_ret (de_str [42])) (dss_nil (a := ()) (And.intro (Or.inl rfl) (And.intro (Or.inl rfl) (And.intro (Or.inl rfl) (And.intro (Or.inl rfl) (And.intro (Or.inr rfl) (And.intro (Or.inr rfl) (And.intro (Or.inr rfl) (trivial))))))))) fun q7 => (pss_k (l__law_glob_1f81_3 _ _ _) (dss_asg C 4 (de_join (de_str []) (de_frz (df_lc [("_law_turn", 6)] C (di_range1 (by rfl) T.z_range (da_cons (de_fnM C 0 (g__law_take T) T.m__law_take T.F__law_take.kp T.b__law_take (da_cons (de_op od_add (de_var 2) de_int) da_nil) n__law_take_6859) da_nil)) (blkOk_by (N := N__law_glob) (sc := defScope s__law_glob) (by decide +kernel)) (fun s H A cl fp => (pgd_name (C.blk _ _ _ _ _) 6)) (fun s H A cl fp C18 c19 => pts_true) (fun s H A cl fp C18 c19 => (de_ofRa 0 1 C18 (gr__law_of T) rfl T.m__law_of T.F__law_of.kp T.b__law_of (fun _ => rfl))) (by decide)))) fun v9 => (pss_k (l__law_glob_1f81_2 _ _ _ _) (dss_asg C 5 (de_join (de_str []) (de_frz (df_lc [("_law_turn", 6)] C (di_range1 (by rfl) T.z_range (da_cons (de_fnM C 0 (g__law_take T) T.m__law_take T.F__law_take.kp T.b__law_take (da_cons (de_op od_add (de_var 2) de_int) da_nil) n__law_take_6859) da_nil)) (blkOk_by (N := N__law_glob) (sc := defScope s__law_glob) (by decide +kernel)) (fun s H A cl fp => (pgd_name (C.blk _ _ _ _ _) 6)) (fun s H A cl fp C35 c36 => pts_true) (fun s H A cl fp C35 c36 => (de_ofRa 0 1 C35 (gr__law_of T) rfl T.m__law_of T.F__law_of.kp T.b__law_of (fun _ => rfl))) (by decide)))) fun v26 => (pss_k (l__law_glob_1f81_1 _ _ _ _) (dss_if (exA := fun (q45 : Unit) => [.bg, .ra Nn l1, .im a2, .im v1, .im v9, .im v26, .un]) (dt_cmp (od_lt C.rm.units) (de_var 3) de_int (by rfl)) (pss_k (l__law_glob_1f81_0 _ _ _) (dss_ret (de_sl (de_op od_add (de_op od_add (de_var 4) (de_var 5)) (de_ofRa 0 1 C (gr__law_of T) rfl T.m__law_of T.F__law_of.kp T.b__law_of (fun _ => rfl))) do_none (do_some de_int)))) (dss_nil (a := ()) (And.intro (Or.inl rfl) (And.intro (Or.inl rfl) (And.intro (Or.inl rfl) (And.intro (Or.inl rfl) (And.intro (Or.inl rfl) (And.intro (Or.inl rfl) (And.intro (Or.inr rfl) (trivial))))))))) fun q45 => (dss_ret (de_op od_add (de_op od_add (de_var 4) (de_str [42])) (de_var 5)))))))))))), rfl⟩
theorem g__law_grown (T : Txt P K mg A) : FnT P DL.TC.w K mg base 3 A.a__law_grown A.f__law_grown ["_law_bag_here", "_law_signs_here", "_law_text"] 3 m__law_grown_1ce8 := by
  refine fnTk (k := 2) (n := 1) T.F__law_grown sc__law_grown rfl (by decide) (fun cdv Ar outer s H Hf bag Nn l1 ds C hl => ?_)
  match ds, hl with
  | [a2], _ => exact ⟨b__law_grown_1ce8 l1 a2, (psn_two (it := 2) (iy := 3) (il := 4) C (pen_joinR [("_law_turn", 6)] C (di_range1 (by rfl) T.z_range (da_cons (de_fnM C 0 (g__law_take T) T.m__law_take T.F__law_take.kp T.b__law_take (da_cons de_int da_nil) n__law_take_6859) da_nil)) (blkOk_by (N := N__law_grown) (sc := defScope s__law_grown) (by decide +kernel)) (fun s H A cl fp => (pgd_name (C.blk _ _ _ _ _) 6)) (fun s H A cl fp C7 c8 => (per_ofRa 0 1 C7 (gr__law_of T) rfl T.m__law_of T.F__law_of.kp T.b__law_of (fun _ => rfl))) (by decide)) (fun v13 v14 => PSN.of (dss_asg C 5 (de_fnM C 0 (g__law_take T) T.m__law_take T.F__law_take.kp T.b__law_take (da_cons de_int da_nil) n__law_take_6859) fun v17 => (pss_k (l__law_grown_1ce8_4 _ _ _) (dss_if (exA := fun (q23 : D) => [.bg, .ra Nn l1, .im a2, .im v13, .im q23, .im v17, .un]) (dt_cmp (od_eq C.rm.units) (de_var 5) de_int (by rfl)) (dss_asg C 4 (de_sl (de_var 4) (do_some de_int) do_none) fun v24 => (dss_nil (a := v24) (And.intro (Or.inl rfl) (And.intro (Or.inl rfl) (And.intro (Or.inl rfl) (And.intro (Or.inl rfl) (And.intro (Or.inl rfl) (And.intro (Or.inl rfl) (And.intro (Or.inr rfl) (trivial)))))))))) (dss_nil (a := v14) (And.intro (Or.inl rfl) (And.intro (Or.inl rfl) (And.intro (Or.inl rfl) (And.intro (Or.inl rfl) (And.intro (Or.inl rfl) (And.intro (Or.inl rfl) (And.intro (Or.inr rfl) (trivial))))))))) fun q23 => (pss_k (l__law_grown_1ce8_3 _ _ _) (dss_if (exA := fun (q32 : D) => [.bg, .ra Nn l1, .im a2, .im v13, .im q32, .im v17, .un]) (dt_cmp (od_eq C.rm.units) (de_var 5) de_int (by rfl)) (dss_asg C 4 (de_sl (de_var 4) do_none (do_some (de_neg de_int))) fun v33 => (dss_nil (a := v33) (And.intro (Or.inl rfl) (And.intro (Or.inl rfl) (And.intro (Or.inl rfl) (And.intro (Or.inl rfl) (And.intro (Or.inl rfl) (And.intro (Or.inl rfl) (And.intro (Or.inr rfl) (trivial)))))))))) (dss_nil (a := q23) (And.intro (Or.inl rfl) (And.intro (Or.inl rfl) (And.intro (Or.inl rfl) (And.intro (Or.inl rfl) (And.intro (Or.inl rfl) (And.intro (Or.inl rfl) (And.intro (Or.inr rfl) (trivial))))))))) fun q32 => (pss_k (l__law_grown_1ce8_2 _ _ _) (dss_if (exA := fun (q42 : D) => [.bg, .ra Nn l1, .im a2, .im v13, .im q42, .im v17, .un]) (dt_cmp (od_eq C.rm.units) (de_var 5) de_int (by rfl)) (dss_asg C 4 (de_op od_add (de_var 4) (de_ofRa 0 1 C (gr__law_of T) rfl T.m__law_of T.F__law_of.kp T.b__law_of (fun _ => rfl))) fun v43 => (dss_nil (a := v43) (And.intro (Or.inl rfl) (And.intro (Or.inl rfl) (And.intro (Or.inl rfl) (And.intro (Or.inl rfl) (And.intro (Or.inl rfl) (And.intro (Or.inl rfl) (And.intro (Or.inr rfl) (trivial)))))))))) (dss_nil (a := q32) (And.intro (Or.inl rfl) (And.intro (Or.inl rfl) (And.intro (Or.inl rfl) (And.intro (Or.inl rfl) (And.intro (Or.inl rfl) (And.intro (Or.inl rfl) (And.intro (Or.inr rfl) (trivial))))))))) fun q42 => (pss_k (l__law_grown_1ce8_1 _ _ _) (dss_if (exA := fun (q51 : D) => [.bg, .ra Nn l1, .im a2, .im v13, .im q51, .im v17, .un]) (dt_cmp (od_eq C.rm.units) (de_var 5) de_int (by rfl)) (dss_asg C 4 (de_op od_add (de_ofRa 0 1 C (gr__law_of T) rfl T.m__law_of T.F__law_of.kp T.b__law_of (fun _ => rfl)) (de_var 4)) fun v52 => (dss_nil (a := v52) (And.intro (Or.inl rfl) (And.intro (Or.inl rfl) (And.intro (Or.inl rfl) (And.intro (Or.inl rfl) (And.intro (Or.inl rfl) (And.intro (Or.inl rfl) (And.intro (Or.inr rfl) (trivial)))))))))) (dss_nil (a := q42) (And.intro (Or.inl rfl) (And.intro (Or.inl rfl) (And.intro (Or.inl rfl) (And.intro (Or.inl rfl) (And.intro (Or.inl rfl) (And.intro (Or.inl rfl) (And.intro (Or.inr rfl) (trivial))))))))) fun q51 => (pss_k (l__law_grown_1ce8_0 _ _) (dss_ret (de_ifExp (dt_cmp (od_ne C.rm.units) (de_var 4) (de_str []) (by rfl)) (de_sl (de_var 4) do_none (do_some de_int)) (de_ofRa 0 1 C (gr__law_of T) rfl T.m__law_of T.F__law_of.kp T.b__law_of (fun _ => rfl))))))))))))))) rfl (by decide) rfl rfl rfl rfl rfl rfl (by decide) (by decide) rfl rfl rfl rfl rfl (by first | exact True.intro | repeat' (first | exact True.intro | exact Or.inl rfl | exact Or.inr rfl | refine And.intro ?_ ?_))), rfl⟩
theorem g__law_is_right (T : Txt P K mg A) : FnG P DL.TC.w K mg base 4 A.a__law_is_right A.f__law_is_right ["_law_pattern", "_law_text"] (spR K mg false 2 m__law_is_right_5bac) := by
  refine fnR (nr := false) (k := 3) T.F__law_is_right sc__law_is_right rfl (by decide) (fun cdv Ar outer s H Hf E ds C hl => ?_)
  match ds, hl with
  | [a0, a1], _ => exact ⟨b__law_is_right_5bac a0 a1, (pss_k (l__law_is_right_5bac_2 _ _) (dss_asg C 2 (de_frz (df_list (da_cons (de_fld ["LabelPattern"] (de_var 0) (fo_text T)) (da_cons (de_fld ["LabelPattern"] (de_var 0) (fo_level T)) (da_cons (de_fld ["LabelPattern"] (de_var 0) (fo_head T)) (da_cons (de_fld ["LabelPattern"] (de_var 0) (fo_tail T)) (da_cons (de_attr (L := [("LabelPattern", m_LabelPattern_has_gap_ca45)]) [] C (de_var 0) (fun c hc => by cases hc) (pr_has_gap T)) (da_cons (de_attr (L := [("LabelPattern", m_LabelPattern_fixed_a36e)]) [] C (de_var 0) (fun c hc => by cases hc) (pr_fixed T)) (da_cons (de_callTy (oc_strO (L := [("LabelPattern", m_LabelPattern_str_7df6)]) (du_str T) C.gd (C.rm.mono (by decide))) (by rfl) T.z_str rfl (da_cons (de_var 0) da_nil)) da_nil))))))))) fun v1 => (dss_asg C 3 (de_ix (de_frz (df_split (de_var 1) (de_str [42]))) de_int) fun v26 => (pss_k (l__law_is_right_5bac_1 _ _ _) (dss_asg C 4 (de_sl (de_var 1) (do_some (de_op od_add (de_callB oc_len (by rfl) T.z_len rfl (da_cons (de_var 3) da_nil)) de_int)) do_none) fun v31 => (pss_k (l__law_is_right_5bac_0 _ _ _ _) (dss_asg C 5 (de_frz (df_list (da_cons (de_var 1) (da_cons (de_str [108, 97, 98, 101, 108]) (da_cons (de_callTy oc_tuple (by rfl) T.z_tuple rfl (da_cons (de_frz (df_callTy (oc_list C.calm) (by rfl) T.z_list rfl (da_cons (de_var 3) da_nil))) da_nil)) (da_cons (de_callTy oc_tuple (by rfl) T.z_tuple rfl (da_cons (de_frz (df_callTy (oc_list C.calm) (by rfl) T.z_list rfl (da_cons (de_var 4) da_nil))) da_nil)) (da_cons (de_cmp (od_in (hu65 C.rm)) (de_str [42]) (de_var 1) (by rfl)) (da_cons (de_op od_add (de_callB oc_len (by rfl) T.z_len rfl (da_cons (de_var 3) da_nil)) (de_callB oc_len (by rfl) T.z_len rfl (da_cons (de_var 4) da_nil))) (da_cons (de_var 1) da_nil))))))))) fun v42 => (dss_ret (de_cmp (od_eq C.rm.units) (de_callB (oc_repr C.gd C.rm.units) (by rfl) T.z_repr rfl (da_cons (de_var 2) da_nil)) (de_callB (oc_repr C.gd C.rm.units) (by rfl) T.z_repr rfl (da_cons (de_var 5) da_nil)) (by rfl)))))))))), rfl⟩
theorem g_law (T : Txt P K mg A) : FnG P DL.TC.w K mg base 5 A.a_law A.f_law ["_law_script"] (spR K mg false 1 m_law_5d70) := by
  refine fnR (nr := false) (k := 4) T.F_law sc_law rfl (by decide) (fun cdv Ar outer s H Hf E ds C hl => ?_)
  match ds, hl with
  | [a0], _ => exact ⟨b_law_5d70 a0, (pss_k (l_law_5d70_8 _) (dss_for (exl := fun (q17 : Unit) => [.im a0, .un, .un, .un, .un, .un, .un, .un, .un, .un, .un]) () C (di_range1 (by rfl) T.z_range (da_cons (de_callB (oc_max C.calm) (by rfl) T.z_max rfl (da_cons de_int (da_cons (de_callB (oc_min C.calm) (by rfl) T.z_min rfl (da_cons de_int (da_cons (de_callB oc_len (by rfl) T.z_len rfl (da_cons (de_var 0) da_nil)) da_nil))) da_nil))) da_nil)) (pgd_name C 1) (And.intro (Or.inl rfl) (And.intro (Or.inr rfl) (And.intro (Or.inr rfl) (And.intro (Or.inr rfl) (And.intro (Or.inr rfl) (And.intro (Or.inr rfl) (And.intro (Or.inr rfl) (And.intro (Or.inr rfl) (And.intro (Or.inr rfl) (And.intro (Or.inr rfl) (And.intro (Or.inr rfl) (trivial)))))))))))) (fun q17 c18 => (dss_bag C 3 (df_fn C (g__law_bag T) T.m__law_bag T.F__law_bag.kp T.b__law_bag (da_cons (de_var 0) (da_cons (de_var 1) da_nil)) n__law_bag_fbbe) (fun b C26 => (pss_k (l_law_5d70_5) (dss_sgn 3 4 C26 (g__law_signs T) rfl T.m__law_signs T.F__law_signs.kp T.b__law_signs de_int fun Nn l29 => (dsn_for (exl := fun (q33 : Unit) => [.im a0, .im c18, .un, .bg, .ra Nn l29, .un, .un, .un, .un, .un, .un]) () C26 (di_range1 (by rfl) T.z_range (da_cons de_int da_nil)) (pgd_name C26 5) (And.intro (Or.inl rfl) (And.intro (Or.inl rfl) (And.intro (Or.inr rfl) (And.intro (Or.inl rfl) (And.intro (Or.inl rfl) (And.intro (Or.inr rfl) (And.intro (Or.inr rfl) (And.intro (Or.inr rfl) (And.intro (Or.inr rfl) (And.intro (Or.inr rfl) (And.intro (Or.inr rfl) (trivial)))))))))))) (fun q33 c34 => (dsn_take (exA := fun (q35 : D × D) => [.im a0, .im c18, .un, .bg, .ra Nn l29, .im c34, .im q35.1, .im q35.2, .un, .un, .un]) 4 (pss_k (l_law_5d70_2 _) (dss_asg C26 6 (de_callS 3 4 C26 (g__law_glob T) T.m__law_glob T.F__law_glob.kp T.b__law_glob (da_cons (de_ifExp (dt_cmp (od_gt C26.rm.units) (de_fnM C26 3 (g__law_take T) T.m__law_take T.F__law_take.kp T.b__law_take (da_cons de_int da_nil) n__law_take_6859) de_int (by rfl)) de_int de_int) da_nil) n__law_glob_1f81) fun v36 => (pss_k (l_law_5d70_1 _) (dss_asg C26 6 (de_ifExp (dt_cmp (od_le C26.rm.units) (de_callB oc_len (by rfl) T.z_len rfl (da_cons (de_var 6) da_nil)) de_int (by rfl)) (de_var 6) (de_sl (de_var 6) (do_some (de_op od_sub (de_callB oc_len (by rfl) T.z_len rfl (da_cons (de_var 6) da_nil)) de_int)) do_none)) fun v47 => (dss_asg C26 7 (de_makeS C26 T.C_LabelPattern T.na_LabelPattern T.M_LabelPattern ((g_LabelPattern_init T).pos T.b_LabelPattern_init) (da_cons (de_var 6) da_nil) (fun ds h => congrArg (· + 1) (n_LabelPattern_init_02ae ds h))) fun v63 => (pss_k (l_law_5d70_0 _ _) (dss_if (exA := fun (q74 : Unit) => [.im a0, .im c18, .un, .bg, .ra Nn l29, .im c34, .im v47, .im v63, .un, .un, .un]) (dt_not (dt_tru (de_fn C26 (g__law_is_right T) T.m__law_is_right T.F__law_is_right.kp T.b__law_is_right (da_cons (de_var 7) (da_cons (de_var 6) da_nil)) n__law_is_right_5bac))) (dss_ret de_bl) (dss_nil (a := ()) (And.intro (Or.inl rfl) (And.intro (Or.inl rfl) (And.intro (Or.inr rfl) (And.intro (Or.inl rfl) (And.intro (Or.inl rfl) (And.intro (Or.inl rfl) (And.intro (Or.inl rfl) (And.intro (Or.inl rfl) (And.intro (Or.inr rfl) (And.intro (Or.inr rfl) (And.intro (Or.inr rfl) (trivial))))))))))))) fun q74 => (dss_nil (a := (v47, v63)) (And.intro (Or.inl rfl) (And.intro (Or.inl rfl) (And.intro (Or.inr rfl) (And.intro (Or.inl rfl) (And.intro (Or.inl rfl) (And.intro (Or.inl rfl) (And.intro (Or.inl rfl) (And.intro (Or.inl rfl) (And.intro (Or.inr rfl) (And.intro (Or.inr rfl) (And.intro (Or.inr rfl) (trivial)))))))))))))))))))) fun q35 => (dsn_for (exl := fun (q80 : Unit) => [.im a0, .im c18, .un, .bg, .ra Nn l29, .im c34, .im q35.1, .im q35.2, .un, .un, .un]) () C26 (di_range1 (by rfl) T.z_range (da_cons de_int da_nil)) (pgd_name C26 8) (And.intro (Or.inl rfl) (And.intro (Or.inl rfl) (And.intro (Or.inr rfl) (And.intro (Or.inl rfl) (And.intro (Or.inl rfl) (And.intro (Or.inl rfl) (And.intro (Or.inl rfl) (And.intro (Or.inl rfl) (And.intro (Or.inr rfl) (And.intro (Or.inr rfl) (And.intro (Or.inr rfl) (trivial)))))))))))) (fun q80 c81 => (dsn_asg C26 9 (dep_ifExp (dt_cmp (od_gt C26.rm.units) (de_var 8) de_int (by rfl)) (dep_callT 3 4 C26 (g__law_grown T) T.m__law_grown T.F__law_grown.kp T.b__law_grown (da_cons (de_var 6) da_nil) n__law_grown_1ce8 ne__law_grown_1ce8) (PEp.of (de_callS 3 4 C26 (g__law_label T) T.m__law_label T.F__law_label.kp T.b__law_label (da_cons de_int da_nil) n__law_label_4f2f))) fun v82 => (PSN.of (pss_k (l_law_5d70_3 _ _) (dss_if (exA := fun (q110 : Unit) => [.im a0, .im c18, .un, .bg, .ra Nn l29, .im c34, .im q35.1, .im q35.2, .im c81, .im v82, .un]) (dt_cmp (od_ne C26.rm.units) (de_callB (oc_repr C26.gd C26.rm.units) (by rfl) T.z_repr rfl (da_cons (de_cmp (od_inO (L := [("LabelPattern", m_LabelPattern_contains_1ab6)]) (in_LabelPattern T) C26.gd (C26.rm.mono (by decide)) (od_in (hu65 C26.rm))) (de_var 9) (de_var 7) (by rfl)) da_nil)) (de_callB (oc_repr C26.gd C26.rm.units) (by rfl) T.z_repr rfl (da_cons (de_fn C26 (g__law_fits T) T.m__law_fits T.F__law_fits.kp T.b__law_fits (da_cons (de_var 6) (da_cons (de_var 9) da_nil)) n__law_fits_4276) da_nil)) (by rfl)) (dss_ret de_bl) (dss_nil (a := ()) (And.intro (Or.inl rfl) (And.intro (Or.inl rfl) (And.intro (Or.inr rfl) (And.intro (Or.inl rfl) (And.intro (Or.inl rfl) (And.intro (Or.inl rfl) (And.intro (Or.inl rfl) (And.intro (Or.inl rfl) (And.intro (Or.inl rfl) (And.intro (Or.inl rfl) (And.intro (Or.inr rfl) (trivial))))))))))))) fun q110 => (dss_nil (a := ()) (And.intro (Or.inl rfl) (And.intro (Or.inl rfl) (And.intro (Or.inr rfl) (And.intro (Or.inl rfl) (And.intro (Or.inl rfl) (And.intro (Or.inl rfl) (And.intro (Or.inl rfl) (And.intro (Or.inl rfl) (And.intro (Or.inr rfl) (And.intro (Or.inr rfl) (And.intro (Or.inr rfl) (trivial)))))))))))))))))) fun q113 => (PSN.of (pss_k (l_law_5d70_4 _) (dss_if (exA := fun (q120 : Unit) => [.im a0, .im c18, .un, .bg, .ra Nn l29, .im c34, .im q35.1, .im q35.2, .un, .un, .un]) (dt_not (dt_tru (de_fn C26 (g__law_is_right T) T.m__law_is_right T.F__law_is_right.kp T.b__law_is_right (da_cons (de_var 7) (da_cons (de_var 6) da_nil)) n__law_is_right_5bac))) (dss_ret de_bl) (dss_nil (a := ()) (And.intro (Or.inl rfl) (And.intro (Or.inl rfl) (And.intro (Or.inr rfl) (And.intro (Or.inl rfl) (And.intro (Or.inl rfl) (And.intro (Or.inl rfl) (And.intro (Or.inl rfl) (And.intro (Or.inl rfl) (And.intro (Or.inr rfl) (And.intro (Or.inr rfl) (And.intro (Or.inr rfl) (trivial))))))))))))) fun q120 => (dss_nil (a := ()) (And.intro (Or.inl rfl) (And.intro (Or.inl rfl) (And.intro (Or.inr rfl) (And.intro (Or.inl rfl) (And.intro (Or.inl rfl) (And.intro (Or.inr rfl) (And.intro (Or.inr rfl) (And.intro (Or.inr rfl) (And.intro (Or.inr rfl) (And.intro (Or.inr rfl) (And.intro (Or.inr rfl) (trivial))))))))))))))))))) fun q124 => (PSN.of (dss_nil (a := ()) (And.intro (Or.inl rfl) (And.intro (Or.inr rfl) (And.intro (Or.inr rfl) (And.intro (Or.inr rfl) (And.intro (Or.inr rfl) (And.intro (Or.inr rfl) (And.intro (Or.inr rfl) (And.intro (Or.inr rfl) (And.intro (Or.inr rfl) (And.intro (Or.inr rfl) (And.intro (Or.inr rfl) (trivial)))))))))))))))))) (fun _ => rfl) (fun _ => by first | rfl | contradiction))) fun q126 => (pss_k (l_law_5d70_7) (dss_asg C 2 (de_frz (df_list (da_cons de_non (da_cons de_bl (da_cons de_int (da_cons de_int (da_cons (de_tup da_nil) (da_cons (de_frz (df_list (da_cons (de_str [97]) da_nil))) (da_cons (de_tup (da_cons (de_str [97]) da_nil)) (da_cons (de_str []) (da_cons (de_str [65]) (da_cons (de_str [97, 46, 98]) (da_cons (de_op od_mul (de_str [113]) de_int) da_nil))))))))))))) fun v127 => (pss_k (l_law_5d70_6 _) (dss_ret (de_not (de_callB (oc_any C.calm) (by rfl) T.z_any rfl (da_cons (de_frz (df_lc [("_law_thing", 10)] C (di_any (de_var 2)) (blkOk_by (N := N_law) (sc := defScope s_law) (by decide +kernel)) (fun s H A cl fp => (pgd_name (C.blk _ _ _ _ _) 10)) (fun s H A cl fp C163 c164 => pts_true) (fun s H A cl fp C163 c164 => (de_or (de_cmp (od_inO (L := [("LabelPattern", m_LabelPattern_contains_1ab6)]) (in_LabelPattern T) C163.gd (C163.rm.mono (by decide)) (od_in (hu65 C163.rm))) (de_var 10) (de_makeS C163 T.C_LabelPattern T.na_LabelPattern T.M_LabelPattern ((g_LabelPattern_init T).pos T.b_LabelPattern_init) (da_cons (de_str [42]) da_nil) (fun ds h => congrArg (· + 1) (n_LabelPattern_init_02ae ds h))) (by rfl)) (de_one (de_cmp (od_inO (L := [("LabelPattern", m_LabelPattern_contains_1ab6)]) (in_LabelPattern T) C163.gd (C163.rm.mono (by decide)) (od_in (hu65 C163.rm))) (de_var 10) (de_makeS C163 T.C_LabelPattern T.na_LabelPattern T.M_LabelPattern ((g_LabelPattern_init T).pos T.b_LabelPattern_init) (da_cons (de_str [97]) da_nil) (fun ds h => congrArg (· + 1) (n_LabelPattern_init_02ae ds h))) (by rfl))))) (by decide))) da_nil))))))))), rfl⟩
end
end K06
namespace K06
open PySem L2 DL FN
theorem facts {K : PySem.W.Frag} {h : Heap} {mg : Str → Option Value} {fa : Addr} [DL.TC] (X : K.In h) (G : h.Ns mainGlobals mg) (hfa : mg "law" = some (.ref fa)) (ce : exs K = true) (cf : fss K = fvs) (topsup : (PySem.Challenge.pw_offeredentry_k06_label_patterns.main.scope.names.lookup ("super" : Str)).isSome = false)
    : ∃ fd : FuncData, (∀ (s : Shared) (v : Value), BindsTo s fd ⟨[v], []⟩ [("_law_script", v)]) ∧ ∀ (base : Heap), K.In base → base.Ns mainGlobals mg → FnG PySem.Challenge.rw_offeredentry_k06_label_patterns.prog DL.TC.w K mg base 5 fa fd ["_law_script"] (spR K mg false 1 FN.m_law_5d70) := by
  obtain ⟨ce0, ce_1⟩ := He.ba ce
  obtain ⟨ce1, ce_2⟩ := He.ba ce_1
  obtain ⟨ce2, ce3⟩ := He.ba ce_2
  obtain ⟨b_n0, b_f0⟩ := He.ba ce0
  obtain ⟨b_f1, ce1_1⟩ := He.ba ce1
  obtain ⟨b_su13, b_sb13⟩ := He.ba ce1_1
  obtain ⟨b_x_BadPattern, ce2_1⟩ := He.ba ce2
  obtain ⟨b_tp, ce2_2⟩ := He.ba ce2_1
  obtain ⟨b_cls, ce2_3⟩ := He.ba ce2_2
  obtain ⟨b_na_LabelPattern, ce2_4⟩ := He.ba ce2_3
  obtain ⟨b_mk_LabelPattern, ce2_5⟩ := He.ba ce2_4
  obtain ⟨b_pp_LabelPattern_fixed, ce2_6⟩ := He.ba ce2_5
  obtain ⟨b_pp_LabelPattern_has_gap, ce2_7⟩ := He.ba ce2_6
  obtain ⟨b_ni_LabelPattern, b_st_LabelPattern⟩ := He.ba ce2_7
  obtain ⟨b_zs, ce3_1⟩ := He.ba ce3
  obtain ⟨b_g_CHARACTERS, ce3_2⟩ := He.ba ce3_1
  obtain ⟨b_g_LABEL, ce3_3⟩ := He.ba ce3_2
  obtain ⟨b_g_LONGEST_LABEL, b_g_LONGEST_TEXT⟩ := He.ba ce3_3
  obtain ⟨cfA, cfB⟩ := List.append_inj (show fssA K ++ fssB K = fvsA ++ fvsB from cf) rfl
  have cg0 := cfA
  have cg1 := cfB
  obtain ⟨n_0, b_n0_1⟩ := He.ba b_n0
  obtain ⟨n_1, b_n0_2⟩ := He.ba b_n0_1
  obtain ⟨n_2, b_n0_3⟩ := He.ba b_n0_2
  obtain ⟨n_3, b_n0_4⟩ := He.ba b_n0_3
  obtain ⟨n_4, b_n0_5⟩ := He.ba b_n0_4
  obtain ⟨n_5, b_n0_6⟩ := He.ba b_n0_5
  obtain ⟨n_6, b_n0_7⟩ := He.ba b_n0_6
  obtain ⟨n_11, b_n0_8⟩ := He.ba b_n0_7
  obtain ⟨n_12, b_n0_9⟩ := He.ba b_n0_8
  obtain ⟨n_15, b_n0_10⟩ := He.ba b_n0_9
  obtain ⟨n_16, b_n0_11⟩ := He.ba b_n0_10
  obtain ⟨n_17, b_n0_12⟩ := He.ba b_n0_11
  obtain ⟨n_18, b_n0_13⟩ := He.ba b_n0_12
  obtain ⟨n_19, b_n0_14⟩ := He.ba b_n0_13
  have cf0 : FL K (fa0 K) fv0 := ⟨cg0, b_f0⟩
  obtain ⟨f0, F0, cf0_1⟩ := cf0.fn
  obtain ⟨f1, F1, cf0_2⟩ := cf0_1.fn
  obtain ⟨f2, F2, cf0_3⟩ := cf0_2.fn
  obtain ⟨f3, F3, cf0_4⟩ := cf0_3.fn
  obtain ⟨f4, F4, cf0_5⟩ := cf0_4.fn
  obtain ⟨f5, F5, cf0_6⟩ := cf0_5.fn
  obtain ⟨f6, F6, cf0_7⟩ := cf0_6.fn
  obtain ⟨f7, F7, cf0_8⟩ := cf0_7.fn
  obtain ⟨f8, F8, cf0_9⟩ := cf0_8.fn
  obtain ⟨f9, F9, cf0_10⟩ := cf0_9.fn
  obtain ⟨f10, F10, cf0_11⟩ := cf0_10.fn
  have cf1 : FL K (fa1 K) fv1 := ⟨cg1, b_f1⟩
  obtain ⟨f11, F11, cf1_1⟩ := cf1.fn
  obtain ⟨f12, F12, cf1_2⟩ := cf1_1.fn
  obtain ⟨⟨f13, F13, B13⟩, cf1_3⟩ := cf1_2.sup (P := PySem.Challenge.pw_offeredentry_k06_label_patterns) X G F7 b_su13 b_sb13 (all_of b_zs (by decide)) topsup b_tp
  obtain ⟨f14, F14, cf1_4⟩ := cf1_3.fn
  obtain ⟨f15, F15, cf1_5⟩ := cf1_4.fn
  obtain ⟨f16, F16, cf1_6⟩ := cf1_5.fn
  obtain ⟨f17, F17, cf1_7⟩ := cf1_6.fn
  obtain ⟨f18, F18, cf1_8⟩ := cf1_7.fn
  obtain ⟨kV19, dc19, pm19, an19, cd19, ct19, F19, cf1_9⟩ := cf1_8.fs
  obtain ⟨x_BadPattern, cf1_10⟩ := cf1_9.own X G b_x_BadPattern (by decide) (by decide) (fun _ _ _ _ _ _ _ _ _ _ _ _ _ => rfl)
  have e := hfa.symm.trans (ng_ok X G n_19)
  cases e
  clear ce cf b_n0 b_n0_1 b_n0_2 b_n0_3 b_n0_4 b_n0_5 b_n0_6 b_n0_7 b_n0_8 b_n0_9 b_n0_10 b_n0_11 b_n0_12 b_n0_13 b_n0_14 cf0 cf0_1 cf0_2 cf0_3 cf0_4 cf0_5 cf0_6 cf0_7 cf0_8 cf0_9 cf0_10 cf1 cf1_1 cf1_2 cf1_3 cf1_4 cf1_5 cf1_6 cf1_7 cf1_8 cf1_9 cf0_11 cf1_10 ce_1 ce_2 ce0 ce1 ce1_1 ce2 ce2_1 ce2_2 ce2_3 ce2_4 ce2_5 ce2_6 ce2_7 ce3 ce3_1 ce3_2 ce3_3 cfB cfA
  have T : Txt PySem.Challenge.rw_offeredentry_k06_label_patterns.prog K mg ⟨_, _, _, _, _, _, _, _, _, _, _, _, _, _, _, _, _, _, _, _, _, _, _, _, _, _, _, _, _, _, _, _, _, _, _, _, _, _, _, _, _, _, _⟩ := ⟨(ng_ok X G n_0), F0, (F0.binds fun _ _ _ _ _ _ us hl => match us, hl with | [_], _ => rfl), (ng_ok X G n_1), F1, (F1.binds fun _ _ _ _ _ _ us hl => match us, hl with | [_], _ => rfl), (ng_ok X G n_2), F2, (F2.binds fun _ _ _ _ _ _ us hl => match us, hl with | [_, _], _ => rfl), (ng_ok X G n_3), F3, (F3.binds fun _ _ _ _ _ _ us hl => match us, hl with | [_], _ => rfl), (ng_ok X G n_4), F4, (F4.binds fun _ _ _ _ _ _ us hl => match us, hl with | [_, _], _ => rfl), (ng_ok X G n_5), F5, (F5.binds fun _ _ _ _ _ _ us hl => match us, hl with | [_, _], _ => rfl), (ng_ok X G n_6), F6, (F6.binds fun _ _ _ _ _ _ us hl => match us, hl with | [_, _], _ => rfl), F7, (F7.binds fun _ _ _ _ _ _ us hl => match us, hl with | [_, _, _, _], _ => rfl), F8, (F8.binds fun _ _ _ _ _ _ us hl => match us, hl with | [_], _ => rfl), F9, (F9.binds fun _ _ _ _ _ _ us hl => match us, hl with | [_], _ => rfl), F10, (F10.binds fun _ _ _ _ _ _ us hl => match us, hl with | [_], _ => rfl), (ng_ok X G n_11), F11, (F11.binds fun _ _ _ _ _ _ us hl => match us, hl with | [_, _], _ => rfl), (ng_ok X G n_12), F12, (F12.binds fun _ _ _ _ _ _ us hl => match us, hl with | [_, _], _ => rfl), F13, (B13 _ fun _ _ _ _ _ _ _ us hl => match us, hl with | [_, _], _ => rfl), F14, (F14.binds fun _ _ _ _ _ _ us hl => match us, hl with | [_, _], _ => rfl), (ng_ok X G n_15), F15, (F15.binds fun _ _ _ _ _ _ us hl => match us, hl with | [_, _, _], _ => rfl), (ng_ok X G n_16), F16, (F16.binds fun _ _ _ _ _ _ us hl => match us, hl with | [_, _, _], _ => rfl), (ng_ok X G n_17), F17, (F17.binds fun _ _ _ _ _ _ us hl => match us, hl with | [_, _, _], _ => rfl), (ng_ok X G n_18), F18, (F18.binds fun _ _ _ _ _ _ us hl => match us, hl with | [_, _], _ => rfl), (ng_ok X G n_19), F19, (F19.binds fun _ _ _ _ _ _ us hl => match us, hl with | [_], _ => rfl), (cl_ok X G (all_of b_cls (by decide +kernel : ("LabelPattern" : Str) ∈ clsL))), (na_ok b_na_LabelPattern), (mk_ok b_mk_LabelPattern), (pr_ok (He.ba b_pp_LabelPattern_fixed).1), (pr_ok (He.ba b_pp_LabelPattern_has_gap).1), (mt_ok b_ni_LabelPattern), (mt_ok b_st_LabelPattern), x_BadPattern, (nn_ok X G (all_of b_zs (by decide +kernel : ("abs" : Str) ∈ zsL))), (nn_ok X G (all_of b_zs (by decide +kernel : ("any" : Str) ∈ zsL))), (nn_ok X G (all_of b_zs (by decide +kernel : ("enumerate" : Str) ∈ zsL))), (nn_ok X G (all_of b_zs (by decide +kernel : ("int" : Str) ∈ zsL))), (nn_ok X G (all_of b_zs (by decide +kernel : ("isinstance" : Str) ∈ zsL))), (nn_ok X G (all_of b_zs (by decide +kernel : ("len" : Str) ∈ zsL))), (nn_ok X G (all_of b_zs (by decide +kernel : ("list" : Str) ∈ zsL))), (nn_ok X G (all_of b_zs (by decide +kernel : ("max" : Str) ∈ zsL))), (nn_ok X G (all_of b_zs (by decide +kernel : ("min" : Str) ∈ zsL))), (nn_ok X G (all_of b_zs (by decide +kernel : ("range" : Str) ∈ zsL))), (nn_ok X G (all_of b_zs (by decide +kernel : ("repr" : Str) ∈ zsL))), (nn_ok X G (all_of b_zs (by decide +kernel : ("str" : Str) ∈ zsL))), (nn_ok X G (all_of b_zs (by decide +kernel : ("tuple" : Str) ∈ zsL))), (gs_ok X G b_g_CHARACTERS (by decide +kernel) (by decide)), (gs_ok X G b_g_LABEL (by decide +kernel) (by decide)), (gi_ok X G b_g_LONGEST_LABEL), (gi_ok X G b_g_LONGEST_TEXT)⟩
  exact ⟨_, fun s v => .of_eq rfl, fun base _ _ => g_law T⟩
end K06
open PySem PySem.W PyProof.Rows in
set_option maxRecDepth 100000 in
set_option maxHeartbeats 0 in
theorem PySem.Challenge.cw_offeredentry_k06_label_patterns_holds : PySem.Challenge.rw_offeredentry_k06_label_patterns.Holds := by
  refine K06.lawE fun said => ?_
  refine HandSHeadRun.head_any (r := OpenLaw.row PySem.Challenge.rw_offeredentry_k06_label_patterns) (q := view (OpenLaw.row PySem.Challenge.rw_offeredentry_k06_label_patterns).prog [26]) (H := DL.hookH K06.gxs K06.fss K06.fvs) (ob := DL.obH K06.gxs K06.fss) (M := 40000) (loose := K06.names) (d := HandSHeadRun.topDef (OpenLaw.row PySem.Challenge.rw_offeredentry_k06_label_patterns).prog 26) (kwd := []) DL.obH_eq
    (by kernel_rfl) (fun s => by kernel_rfl) K06.run (by kernel_rfl) (by kernel_rfl) (by kernel_rfl) (by rfl) (by first | assumption | decide +kernel) (by decide +kernel) K06.bareE ?hw ?hc
  case hw => w_witness2
  case hc =>
    refine DL.walk_gE (l := PySem.Challenge.rw_offeredentry_k06_label_patterns) (n := 63) (k := 5) (x := "_law_script") (g := FN.m_law_5d70) rfl (by decide) (by kernel_rfl) ⟨rfl, by decide, by decide⟩ ?F FN.law_5d70_true
    intro w mg fa h Y G hmg0
    obtain ⟨K, KX, ce, cf⟩ := Y
    have hmg : mg ("law" : PySem.Str) = some (.ref fa) := by
      have e : (HandSHeadRun.topDef (OpenLaw.row PySem.Challenge.rw_offeredentry_k06_label_patterns).prog 26).name = ("law" : PySem.Str) := by kernel_rfl
      rw [← e]
      exact hmg0
    letI : DL.TC := DL.tc0 w
    haveI : DL.WOk w := ⟨rfl⟩
    obtain ⟨fd, hb, hF⟩ := K06.facts KX G hmg (K06.gxs_all ce) cf (by first | rfl | decide +kernel | kernel_rfl)
    exact ⟨K, fd, KX, hb, fun base b1 b2 => hF base b1 b2⟩
