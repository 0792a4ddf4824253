import PyProof.Rows.All
import Wide.All
import OpenK.AllK
import Wide.FinOn
import HandS.ForMost
import HandS.ForExc
import HandS.Flow
import HandS.Wide
import HandS.Exc
import HandS.ExcOwn
import HandS.ExcCtx
import HandS.Star
import HandS.TupAny
import HandS.Deep
import HandS.Style
import HandS.IsInst
import KE.DataCmp
import HandS.Conv
import HandS.Ends
import HandS.TryOnly
import HandS.TryMany
import KE.KExcInit
import PyProof.ExcBaseAll.ValueError
import PyProof.ExcBaseAll.LookupError
import PyProof.ExcBaseAll.OverflowError
import PyProof.ExcBaseAll.RuntimeError
import HandS.More
import HandS.Zip
import KE.KExcIs
import HandS.ExcIs
import HandS.Property
import HandS.MakeKwOnly
import HandS.SlotsOwn
import PyProof.InstEq
import HandS.RaiseMore
import HandS.FStr
import HandS.Codes
import HandS.ClsMeth
import HandS.Replace
import PyProof.AssignAttr
import PyProof.ReprLen
import HandS.Text
import HandS.ReplaceLit
import HandS.ReplaceDef
import HandS.ReplaceList
import HandS.Nested
import KE.KSuper
import KE.KDictZip
import KE.KDictItemsList
import HandS.Zip0
import HandS.ListItems
import HandS.StrMore
import KE.GoesEnum
import HandS.Iter
import HandS.TupMul
import PyProof.EqAt
import PyProof.NeKinds
import HandS.HeadEnd
import HandS.HeadHook1
import HandS.HeadHook2
import HandS.Head0
import HandS.Head1
import HandS.Head2
import PyProof.ListStr
import KE.SortKeyHeap
import KE.SortData
import HandS.SortKw
import HandS.DictComp
import HandS.RaiseFrom
import HandS.SuiteRaise
import PyProof.RulesAs
import KE.KStar
import HandS.IterVal
import HandS.OwnIter
import HandS.Hot
import HandS.HotCalls
import PySem.Challenge.RW_offeredentry_k71_groups_refused
set_option Elab.async false
set_option linter.all false
set_option maxRecDepth 100000
set_option maxHeartbeats 4000000
namespace DL
open PySem L2
/-! ### data -/
inductive D where
  | non
  | bl (b : Bool)
  | int (i : Int)
  | str (s : List Nat)
  | tup (ds : List D)
  | lst (ds : List D)
  | dic (ks vs : List D)
  | ins (c : Str) (ns : List Str) (ds : List D)
  | scr (is : List Int)
  /-- a caught error: its object, its dict, its field -/
  | xc (a dd : Addr) (f : Str) (d : D)
instance : Inhabited D := ⟨.non⟩
structure Exn where
  c : Str
  f : Str
  d : D
/-! ### two monads -/
inductive R (α : Type) where
  | ok (a : α)
  | ex (e : Exn)
  | stuck
@[simp] def R.bd {α β : Type} : R α → (α → R β) → R β
  | .ok a, f => f a
  | .ex e, _ => .ex e
  | .stuck, _ => .stuck
instance : Monad R where
  pure := .ok
  bind := R.bd
@[simp] theorem R.pure_eq {α : Type} (a : α) : (pure a : R α) = .ok a := rfl
@[simp] theorem R.bind_eq {α β : Type} (x : R α) (f : α → R β) : (x >>= f) = x.bd f := rfl
/-- the bag's content -/
structure S where
  x : Int
  y : Int
  z : Int
  l : List Int
  w : Bool
inductive MO (α : Type) where
  | ok (a : α) (s : S)
  | ex (e : Exn) (s : S)
  | stuck
def M (α : Type) : Type := S → MO α
@[simp] def MO.bd {α β : Type} : MO α → (α → M β) → MO β
  | .ok a s, f => f a s
  | .ex e s, _ => .ex e s
  | .stuck, _ => .stuck
instance : Monad M where
  pure := fun a s => .ok a s
  bind := fun x f s => (x s).bd f
theorem M.bind_ap {α β : Type} (x : M α) (f : α → M β) (s : S) : (x >>= f) s = (x s).bd f := rfl
class Mo (m : Type → Type) extends Monad m where
  lift : {α : Type} → R α → m α
  wp : {α : Type} → m α → S → (α → S → Prop) → (Exn → S → Prop) → Prop
  wp_mono : ∀ {α : Type} {x : m α} {s : S} {Q Q' : α → S → Prop} {E E' : Exn → S → Prop}, wp x s Q E → (∀ a s, Q a s → Q' a s) → (∀ e s, E e s → E' e s) → wp x s Q' E'
  wp_pure : ∀ {α : Type} {a : α} {s : S} {Q : α → S → Prop} {E : Exn → S → Prop}, wp (pure a) s Q E → Q a s
  wp_bind : ∀ {α β : Type} {x : m α} {f : α → m β} {s : S} {Q : β → S → Prop} {E : Exn → S → Prop}, wp (x >>= f) s Q E → wp x s (fun a s' => wp (f a) s' Q E) E
  tryC : {α : Type} → m α → (Exn → m α) → m α
  wp_try : ∀ {α : Type} {x : m α} {h : Exn → m α} {s : S} {Q : α → S → Prop} {E : Exn → S → Prop}, wp (tryC x h) s Q E → wp x s Q (fun e s' => wp (h e) s' Q E)
  noex : {α : Type} → m α → m α
  wp_noex : ∀ {α : Type} {x : m α} {s : S} {Q : α → S → Prop} {E : Exn → S → Prop}, wp (noex x) s Q E → wp x s Q (fun _ _ => False)
  wp_lift : ∀ {α : Type} {r : R α} {s : S} {Q : α → S → Prop} {E : Exn → S → Prop}, wp (lift r) s Q E → (match r with | .ok a => Q a s | .ex e => E e s | .stuck => False)
def R.wp {α : Type} (x : R α) (s : S) (Q : α → S → Prop) (E : Exn → S → Prop) : Prop := match x with
  | .ok a => Q a s
  | .ex e => E e s
  | .stuck => False
def MO.wp {α : Type} (x : MO α) (Q : α → S → Prop) (E : Exn → S → Prop) : Prop := match x with
  | .ok a s => Q a s
  | .ex e s => E e s
  | .stuck => False
/-- an exception is none here -/
@[simp] def R.nx {α : Type} : R α → R α
  | .ok a => .ok a
  | .ex _ => .stuck
  | .stuck => .stuck
@[simp] def MO.nx {α : Type} : MO α → MO α
  | .ok a s => .ok a s
  | .ex _ _ => .stuck
  | .stuck => .stuck
def M.nx {α : Type} (x : M α) : M α := fun s => (x s).nx
@[simp] def R.tr {α : Type} : R α → (Exn → R α) → R α
  | .ok a, _ => .ok a
  | .ex e, h => h e
  | .stuck, _ => .stuck
@[simp] def MO.tr {α : Type} : MO α → (Exn → M α) → MO α
  | .ok a s, _ => .ok a s
  | .ex e s, h => h e s
  | .stuck, _ => .stuck
def M.tr {α : Type} (x : M α) (h : Exn → M α) : M α := fun s => (x s).tr h
instance : Mo R where
  tryC := R.tr
  wp_try := fun {α x h s Q E} w => by
    cases x with
    | ok a => exact w
    | ex e => exact w
    | stuck => exact w
  noex := R.nx
  wp_noex := fun {α x s Q E} h => by
    cases x with
    | ok a => exact h
    | ex e => exact h
    | stuck => exact h
  lift := fun x => x
  wp := R.wp
  wp_mono := fun {α x s Q Q' E E'} h hq he => by
    cases x with
    | ok a => exact hq _ _ h
    | ex e => exact he _ _ h
    | stuck => exact h
  wp_pure := fun h => h
  wp_bind := fun {α β x f s Q E} h => by
    cases x with
    | ok a => exact h
    | ex e => exact h
    | stuck => exact h
  wp_lift := fun {α r s Q E} h => by cases r <;> exact h
def liftM' {α : Type} (r : R α) : M α := fun s => match r with
  | .ok a => .ok a s
  | .ex e => .ex e s
  | .stuck => .stuck
instance : Mo M where
  tryC := M.tr
  wp_try := fun {α x h s Q E} w => by
    have w' : ((x s).tr h).wp Q E := w
    show (x s).wp _ _
    cases e : x s with
    | ok a s' => rw [e] at w'; exact w'
    | ex ee s' => rw [e] at w'; exact w'
    | stuck => rw [e] at w'; exact w'
  noex := M.nx
  wp_noex := fun {α x s Q E} h => by
    have h' : ((x s).nx).wp Q E := h
    show (x s).wp _ _
    cases e : x s with
    | ok a s' => rw [e] at h'; exact h'
    | ex ee s' => rw [e] at h'; exact h'
    | stuck => rw [e] at h'; exact h'
  lift := liftM'
  wp := fun x s Q E => (x s).wp Q E
  wp_mono := fun {α x s Q Q' E E'} h hq he => by
    show (x s).wp Q' E'
    have h' : (x s).wp Q E := h
    cases e : x s with
    | ok a s' => rw [e] at h'; exact hq _ _ h'
    | ex ee s' => rw [e] at h'; exact he _ _ h'
    | stuck => rw [e] at h'; exact h'
  wp_pure := fun h => h
  wp_bind := fun {α β x f s Q E} h => by
    have h' : ((x s).bd f).wp Q E := h
    show (x s).wp _ _
    cases e : x s with
    | ok a s' => rw [e] at h'; exact h'
    | ex ee s' => rw [e] at h'; exact h'
    | stuck => rw [e] at h'; exact h'
  wp_lift := fun {α r s Q E} h => by cases r <;> exact h
end DL
namespace DL
open PySem L2
/-! ### a datum stands at a value -/
def Sub (H H' : Hp) : Prop := ∀ a o, H a = some o → H' a = some o
theorem Sub.refl (H : Hp) : Sub H H := fun _ _ h => h
theorem Sub.trans {H H1 H2 : Hp} (a : Sub H H1) (b : Sub H1 H2) : Sub H H2 := fun x o h => b x o (a x o h)
theorem Sub.rd {H H' : Hp} {a : Addr} {u : HO} (e : Sub H H') (h : Rd H a u) : Rd H' a u := by
  rcases h with h | ⟨o, h⟩
  · exact .inl (e a _ h)
  · exact .inr ⟨o, e a _ h⟩
theorem Sub.sql {K : PySem.W.Frag} {H H' : Hp} {a : Addr} {xs : List V} (e : Sub H H') (h : SqL K H a xs) : SqL K H' a xs := by
  rcases h with h | h
  · exact .inl (e.rd h)
  · exact .inr h
theorem Sub.sqt {K : PySem.W.Frag} {H H' : Hp} {a : Addr} {xs : List V} (e : Sub H H') (h : SqT K H a xs) : SqT K H' a xs := by
  rcases h with h | h
  · exact .inl (e.rd h)
  · exact .inr h
/-- the script's list: frozen, or of the module (no list that a def has made) -/
def ScL (K : PySem.W.Frag) (H : Hp) (a : Addr) (xs : List V) : Prop := (∃ o, H a = some (.frz o (.lst xs))) ∨ ∃ (o : Obj) (its : Array Value) (n : Nat), K.lookup a = some o ∧ o.cls = .type "list" ∧ o.dict = none ∧ o.data = .seq its n ∧ its.size ≤ sizeLine ∧ Vals xs its.toList
theorem ScL.sq {K : PySem.W.Frag} {H : Hp} {a : Addr} {xs : List V} : ScL K H a xs → SqL K H a xs
  | .inl h => .inl (.inr h)
  | .inr h => .inr h
theorem Sub.scl {K : PySem.W.Frag} {H H' : Hp} {a : Addr} {xs : List V} (e : Sub H H') : ScL K H a xs → ScL K H' a xs
  | .inl ⟨o, h⟩ => .inl ⟨o, e _ _ h⟩
  | .inr h => .inr h
section
variable (K : PySem.W.Frag) (mg : Str → Option Value)
mutual
def Is (H : Hp) : D → V → Prop
  | .non, v => v = .non
  | .bl b, v => v = .bl b
  | .int i, v => v = .int i
  | .str s, v => v = .str ⟨s.toArray⟩ ∧ s.length ≤ sizeLine
  | .tup ds, v => ds.length ≤ sizeLine ∧ ∃ a vs, v = .ref a ∧ SqT K H a vs ∧ IsL H ds vs
  | .lst ds, v => ds.length ≤ sizeLine ∧ ∃ a vs, v = .ref a ∧ H a = some (.lst vs) ∧ IsL H ds vs
  | .dic ks ds, v => ∃ a kvs, v = .ref a ∧ Rd H a (.dK kvs) ∧ IsL H ks (kvs.map fun p => kV p.1) ∧ IsL H ds (kvs.map fun p => p.2)
  | .ins c ns ds, v => ∃ a C dx vs, v = .ref a ∧ mg c = some (.ref C) ∧ H a = some (.ins C dx (ns.zip vs)) ∧ ns.length = vs.length ∧ IsL H ds vs
  | .scr is, v => is.length ≤ sizeLine ∧ ∃ a, v = .ref a ∧ ScL K H a (is.map V.int)
  | .xc a dd f d, v => v = .ref a ∧ ∃ u, H dd = some (.xd [(f, u)]) ∧ Is H d u
def IsL (H : Hp) : List D → List V → Prop
  | [], vs => vs = []
  | d :: ds, vs => ∃ v r, vs = v :: r ∧ Is H d v ∧ IsL H ds r
end
end
section
variable {K : PySem.W.Frag} {mg : Str → Option Value}
mutual
theorem Is.mono {H H' : Hp} (s : Sub H H') : ∀ {d : D} {v : V}, Is K mg H d v → Is K mg H' d v
  | .non, _, h => h
  | .bl _, _, h => h
  | .int _, _, h => h
  | .str _, _, h => h
  | .tup ds, _, h => by
    obtain ⟨z, a, vs, e, t, l⟩ := h
    exact ⟨z, a, vs, e, s.sqt t, IsL.mono s l⟩
  | .lst ds, _, h => by
    obtain ⟨z, a, vs, e, t, l⟩ := h
    exact ⟨z, a, vs, e, s _ _ t, IsL.mono s l⟩
  | .dic ks ds, _, h => by
    obtain ⟨a, kvs, e, t, l, l'⟩ := h
    exact ⟨a, kvs, e, s.rd t, IsL.mono s l, IsL.mono s l'⟩
  | .ins c ns ds, _, h => by
    obtain ⟨a, C, dx, vs, e, m, t, n, l⟩ := h
    exact ⟨a, C, dx, vs, e, m, s _ _ t, n, IsL.mono s l⟩
  | .scr is, _, h => by
    obtain ⟨z, a, e, t⟩ := h
    exact ⟨z, a, e, s.scl t⟩
  | .xc a dd f d, _, h => by
    obtain ⟨e, u, q, i⟩ := h
    exact ⟨e, u, s _ _ q, Is.mono s i⟩
theorem IsL.mono {H H' : Hp} (s : Sub H H') : ∀ {ds : List D} {vs : List V}, IsL K mg H ds vs → IsL K mg H' ds vs
  | [], _, h => h
  | d :: ds, _, h => by
    obtain ⟨v, r, e, i, l⟩ := h
    exact ⟨v, r, e, Is.mono s i, IsL.mono s l⟩
end
theorem IsL.nil {H : Hp} : IsL K mg H [] [] := rfl
theorem IsL.cons {H : Hp} {d : D} {ds : List D} {v : V} {vs : List V} (h : Is K mg H d v) (l : IsL K mg H ds vs) : IsL K mg H (d :: ds) (v :: vs) := ⟨v, vs, rfl, h, l⟩
theorem IsL.len {H : Hp} : ∀ {ds : List D} {vs : List V}, IsL K mg H ds vs → ds.length = vs.length
  | [], _, h => by cases h; rfl
  | d :: ds, _, h => by
    obtain ⟨v, r, rfl, _, l⟩ := h
    simp [IsL.len l]
theorem IsL.app {H : Hp} : ∀ {ds es : List D} {vs ws : List V}, IsL K mg H ds vs → IsL K mg H es ws → IsL K mg H (ds ++ es) (vs ++ ws)
  | [], _, _, _, h, l => by cases h; exact l
  | d :: ds, _, _, _, h, l => by
    obtain ⟨v, r, rfl, i, t⟩ := h
    exact ⟨v, r ++ _, rfl, i, IsL.app t l⟩
theorem IsL.get {H : Hp} : ∀ {ds : List D} {vs : List V} {i : Nat} {d : D}, IsL K mg H ds vs → ds[i]? = some d → ∃ v, vs[i]? = some v ∧ Is K mg H d v
  | [], _, _, _, h, e => by simp at e
  | d :: ds, _, 0, _, h, e => by
    obtain ⟨v, r, rfl, i, t⟩ := h
    simp at e; subst e
    exact ⟨v, rfl, i⟩
  | d :: ds, _, i + 1, _, h, e => by
    obtain ⟨v, r, rfl, _, t⟩ := h
    simpa using IsL.get (i := i) t (by simpa using e)
theorem IsL.drop {H : Hp} : ∀ {ds : List D} {vs : List V} (n : Nat), IsL K mg H ds vs → IsL K mg H (ds.drop n) (vs.drop n)
  | _, _, 0, h => h
  | [], _, n + 1, h => by cases h; exact rfl
  | d :: ds, _, n + 1, h => by
    obtain ⟨v, r, rfl, _, t⟩ := h
    exact IsL.drop n t
theorem IsL.take {H : Hp} : ∀ {ds : List D} {vs : List V} (n : Nat), IsL K mg H ds vs → IsL K mg H (ds.take n) (vs.take n)
  | _, _, 0, h => rfl
  | [], _, n + 1, h => by cases h; exact rfl
  | d :: ds, _, n + 1, h => by
    obtain ⟨v, r, rfl, i, t⟩ := h
    exact ⟨v, _, rfl, i, IsL.take n t⟩
theorem IsL.set {H : Hp} {d' : D} {v' : V} (h' : Is K mg H d' v') : ∀ {ds : List D} {vs : List V} (n : Nat), IsL K mg H ds vs → IsL K mg H (ds.set n d') (vs.set n v')
  | [], _, _, h => by cases h; exact rfl
  | d :: ds, _, 0, h => by
    obtain ⟨v, r, rfl, _, t⟩ := h
    exact ⟨v', r, rfl, h', t⟩
  | d :: ds, _, n + 1, h => by
    obtain ⟨v, r, rfl, i, t⟩ := h
    exact ⟨v, _, rfl, i, IsL.set h' n t⟩
theorem IsL.reverse {H : Hp} : ∀ {ds : List D} {vs : List V}, IsL K mg H ds vs → IsL K mg H ds.reverse vs.reverse
  | [], _, h => by cases h; exact rfl
  | d :: ds, _, h => by
    obtain ⟨v, r, rfl, i, t⟩ := h
    rw [List.reverse_cons, List.reverse_cons]
    exact (IsL.reverse t).app (.cons i .nil)
end
/-! ### the state -/
/-- the bag's content stands -/
def BagAt (bag : List Addr) (H : Hp) (s : S) : Prop := match bag with
  | [] => True
  | [b] => s.w = false ∧ H b = some (.lst [.int s.x, .int s.y])
  | b :: c :: _ => s.w = true ∧ b ≠ c ∧ H b = some (.lst [.ref c, .int s.y, .int s.z]) ∧ H c = some (.lst (s.l.map V.int))
structure Ste (bag : List Addr) (Hf H Hf' H' : Hp) : Prop where
  sub : Sub Hf Hf'
  top : Sub Hf' H'
  keep : ∀ a o, H a = some o → a ∉ bag → H' a = some o
  dom : ∀ a, H a ≠ none → H' a ≠ none
  fresh : ∀ a o, Hf' a = some o → Hf a = some o ∨ H a = none
theorem Ste.refl {bag : List Addr} {Hf H : Hp} (h : Sub Hf H) : Ste bag Hf H Hf H := ⟨.refl _, h, fun _ _ e _ => e, fun _ e => e, fun _ _ e => .inl e⟩
theorem Ste.trans {bag : List Addr} {Hf H Hf1 H1 Hf2 H2 : Hp} (a : Ste bag Hf H Hf1 H1) (b : Ste bag Hf1 H1 Hf2 H2) : Ste bag Hf H Hf2 H2 :=
  ⟨a.sub.trans b.sub, b.top, fun x o e n => b.keep x o (a.keep x o e n) n, fun x e => b.dom x (a.dom x e), fun x o e => by
    rcases b.fresh x o e with h | h
    · exact a.fresh x o h
    · refine .inr ?_
      cases q : H x with
      | none => rfl
      | some u => exact absurd h (a.dom x (by rw [q]; simp))⟩
theorem Ste.wide {bag : List Addr} {Hf H Hf' H' : Hp} (a : Ste [] Hf H Hf' H') : Ste bag Hf H Hf' H' :=
  ⟨a.sub, a.top, fun x o e _ => a.keep x o e (by simp), a.dom, a.fresh⟩
theorem Ste.bag {bag : List Addr} {Hf H Hf' H' : Hp} {s : S} (a : Ste [] Hf H Hf' H') (h : BagAt bag H s) : BagAt bag H' s := by
  match bag, h with
  | [], _ => trivial
  | [b], ⟨hw, h⟩ => exact ⟨hw, a.keep _ _ h (by simp)⟩
  | b :: c :: _, ⟨hw, h0, h1, h2⟩ => exact ⟨hw, h0, a.keep _ _ h1 (by simp), a.keep _ _ h2 (by simp)⟩
/-- a new object, frozen at once -/
theorem Ste.new {bag : List Addr} {Hf H : Hp} {p : Addr} {o : HO} (h : Sub Hf H) (hp : H p = none) : Ste bag Hf H (upd Hf p o) (upd H p o) := by
  have hf : Hf p = none := by
    cases q : Hf p with
    | none => rfl
    | some u => rw [h _ _ q] at hp; cases hp
  refine ⟨fun a u e => ?_, fun a u e => ?_, fun a u e _ => ?_, fun a e => ?_, fun a u e => ?_⟩
  · rw [upd_ne (ne_of_none e hf)]; exact e
  · by_cases q : a = p
    · subst q; rw [upd_same] at e ⊢; exact e
    · rw [upd_ne q] at e ⊢; exact h _ _ e
  · rw [upd_ne (ne_of_none e hp)]; exact e
  · by_cases q : a = p
    · subst q; exact absurd hp e
    · rw [upd_ne q]; exact e
  · by_cases q : a = p
    · subst q; exact .inr hp
    · rw [upd_ne q] at e; exact .inl e
/-- a new object, not frozen -/
theorem Ste.new' {bag : List Addr} {Hf H : Hp} {p : Addr} {o : HO} (h : Sub Hf H) (hp : H p = none) : Ste bag Hf H Hf (upd H p o) := by
  refine ⟨.refl _, fun a u e => ?_, fun a u e _ => ?_, fun a e => ?_, fun a u e => .inl e⟩
  · have : H a = some u := h _ _ e
    rw [upd_ne (ne_of_none this hp)]; exact this
  · rw [upd_ne (ne_of_none e hp)]; exact e
  · by_cases q : a = p
    · subst q; exact absurd hp e
    · rw [upd_ne q]; exact e
theorem Sub.none {Hf H : Hp} (h : Sub Hf H) {p : Addr} (hp : H p = none) : Hf p = none := by
  cases q : Hf p with
  | none => rfl
  | some u => rw [h _ _ q] at hp; cases hp
/-- a slot: forgotten, a datum, a list of the frame's own, the bag -/
inductive Sl where
  | un
  | im (d : D)
  | ow (ds : List D)
  | bg
  /-- a dict of the frame's own -/
  | od (ks ds : List D)
  /-- the object that is being made -/
  | ob (ns : List Str) (ds : List D)
structure Fx where
  bag : List Addr
  H0 : Hp
  Hf0 : Hp
  W : WX
  /-- what stands of the slots where an exception leaves -/
  gx : Option (List Sl)
  /-- the def's answers are new lists -/
  nr : Bool
  /-- the object that is being made -/
  me : List Addr
  /-- its attributes' names -/
  nas : List Str
section
variable (K : PySem.W.Frag) (mg : Str → Option Value)
def SlOk (fx : Fx) (Hf H : Hp) (o : Option (Option V)) : Sl → Prop
  | .un => True
  | .im d => ∃ v, o = some (some v) ∧ Is K mg Hf d v
  | .ow ds => ∃ p vs, o = some (some (.ref p)) ∧ H p = some (.lst vs) ∧ Hf p = none ∧ fx.H0 p = none ∧ p ∉ fx.bag ∧ IsL K mg Hf ds vs ∧ ds.length ≤ sizeLine
  | .bg => ∃ b r, fx.bag = b :: r ∧ o = some (some (.ref b))
  | .od ks ds => ∃ p kvs, o = some (some (.ref p)) ∧ H p = some (.dK kvs) ∧ Hf p = none ∧ fx.H0 p = none ∧ p ∉ fx.bag ∧ IsL K mg Hf ks (kvs.map fun p => kV p.1) ∧ IsL K mg Hf ds (kvs.map fun p => p.2) ∧ ks.length ≤ sizeLine
  | .ob ns ds => ∃ p C dx vs, o = some (some (.ref p)) ∧ H p = some (.ins C dx (ns.zip vs)) ∧ Hf p = none ∧ (p ∈ fx.me ∧ ∃ f0, fx.H0 p = some (.ins C dx f0)) ∧ p ∉ fx.bag ∧ (Cls K C ∧ ∀ f ∈ fx.nas, NoAttr K C f) ∧ ns.length = vs.length ∧ IsL K mg Hf ds vs
/-- how a def's answer stands: a datum, or a new list of its own -/
def RtOk : Bool → Hp → Hp → Hp → D → V → Prop
  | false, _, Hf', _, d, v => Is K mg Hf' d v
  | true, H0, Hf', H', d, v => ∃ p vs ds, d = .lst ds ∧ v = .ref p ∧ H' p = some (.lst vs) ∧ Hf' p = none ∧ H0 p = none ∧ IsL K mg Hf' ds vs ∧ ds.length ≤ sizeLine
def isOw : Sl → Bool
  | .ow _ => true
  | .od _ _ => true
  | .ob _ _ => true
  | _ => false
structure StS (fx : Fx) (Hf H : Hp) (σ : L2.St) (G : List Sl) (s : S) : Prop where
  ste : Ste (fx.me ++ fx.bag) fx.Hf0 fx.H0 Hf H
  bag : BagAt fx.bag H s
  bagg : ∀ b ∈ fx.me ++ fx.bag, Hf b = none ∧ H b ≠ none ∧ (b ∈ fx.me → fx.H0 b ≠ none)
  len : σ.length = G.length
  sl : ∀ (i : Nat) (x : Sl), G[i]? = some x → SlOk K mg fx Hf H σ[i]? x
  dis : ∀ (i j : Nat) (x y : Sl) (p : Addr), i ≠ j → G[i]? = some x → G[j]? = some y → isOw x = true → isOw y = true → σ[i]? = some (some (.ref p)) → σ[j]? = some (some (.ref p)) → False
end
section
variable {K : PySem.W.Frag} {mg : Str → Option Value} {fx : Fx} {Hf H Hf' H' : Hp} {σ : L2.St} {G G' : List Sl} {s s' : S}
theorem StS.bagf (st : StS K mg fx Hf H σ G s) : ∀ b ∈ fx.bag, Hf b = none ∧ H b ≠ none := fun b m => ⟨(st.bagg b (List.mem_append_right _ m)).1, (st.bagg b (List.mem_append_right _ m)).2.1⟩
/-- an own place is not of the bag, nor the object's that is made -/
theorem StS.owNb (st : StS K mg fx Hf H σ G s) {p : Addr} (h0 : fx.H0 p = none) (nb : p ∉ fx.bag) : p ∉ fx.me ++ fx.bag := fun m => by
  rcases List.mem_append.mp m with q | q
  · exact (st.bagg p m).2.2 q h0
  · exact nb q
theorem Ste.wider {bag bag' : List Addr} {Hf H Hf' H' : Hp} (a : Ste bag Hf H Hf' H') : Ste (bag' ++ bag) Hf H Hf' H' :=
  ⟨a.sub, a.top, fun x o e n => a.keep x o e fun z => n (List.mem_append_right _ z), a.dom, a.fresh⟩
theorem StS.top (st : StS K mg fx Hf H σ G s) : Sub Hf H := st.ste.top
theorem Ste.stayNone {bag : List Addr} {Hf H Hf' H' : Hp} (a : Ste bag Hf H Hf' H') {p : Addr} (hf : Hf p = none) (h : H p ≠ none) : Hf' p = none := by
  cases q : Hf' p with
  | none => rfl
  | some u =>
    rcases a.fresh _ _ q with z | z
    · rw [hf] at z; cases z
    · exact absurd z h
theorem SlOk.step {o : Option (Option V)} (a : Ste fx.bag Hf H Hf' H') : ∀ {x : Sl}, SlOk K mg fx Hf H o x → SlOk K mg fx Hf' H' o x
  | .un, _ => trivial
  | .im d, ⟨v, e, i⟩ => ⟨v, e, i.mono a.sub⟩
  | .ow ds, ⟨p, vs, e, h, hf, h0, nb, l, z⟩ => ⟨p, vs, e, a.keep _ _ h nb, a.stayNone hf (by rw [h]; simp), h0, nb, l.mono a.sub, z⟩
  | .bg, h => h
  | .od ks ds, ⟨p, vs, e, h, hf, h0, nb, l, l', z⟩ => ⟨p, vs, e, a.keep _ _ h nb, a.stayNone hf (by rw [h]; simp), h0, nb, l.mono a.sub, l'.mono a.sub, z⟩
  | .ob ns ds, ⟨p, C, dx, vs, e, h, hf, h0, nb, c, hn, l⟩ => ⟨p, C, dx, vs, e, a.keep _ _ h nb, a.stayNone hf (by rw [h]; simp), h0, nb, c, hn, l.mono a.sub⟩
theorem StS.step (st : StS K mg fx Hf H σ G s) (a : Ste fx.bag Hf H Hf' H') (hb : BagAt fx.bag H' s') : StS K mg fx Hf' H' σ G s' :=
  ⟨st.ste.trans a.wider, hb, fun b m => ⟨a.stayNone (st.bagg b m).1 (st.bagg b m).2.1, a.dom _ (st.bagg b m).2.1, (st.bagg b m).2.2⟩, st.len, fun i x e => (st.sl i x e).step a, st.dis⟩
/-- weaker slots -/
def Wk : List Sl → List Sl → Prop
  | [], [] => True
  | x :: xs, y :: ys => (x = y ∨ y = .un) ∧ Wk xs ys
  | _, _ => False
theorem Wk.len : ∀ {G G' : List Sl}, Wk G G' → G.length = G'.length
  | [], [], _ => rfl
  | _ :: _, _ :: _, h => by simp [Wk.len h.2]
  | [], _ :: _, h => h.elim
  | _ :: _, [], h => h.elim
theorem Wk.get : ∀ {G G' : List Sl} {i : Nat} {y : Sl}, Wk G G' → G'[i]? = some y → ∃ x, G[i]? = some x ∧ (x = y ∨ y = .un)
  | [], [], _, _, _, e => by simp at e
  | x :: _, y :: _, 0, _, h, e => by simp at e; subst e; exact ⟨x, rfl, h.1⟩
  | _ :: _, _ :: _, i + 1, _, h, e => by simpa using Wk.get (i := i) h.2 (by simpa using e)
  | [], _ :: _, _, _, h, _ => h.elim
  | _ :: _, [], _, _, h, _ => h.elim
theorem Wk.refl : ∀ (G : List Sl), Wk G G
  | [] => trivial
  | x :: xs => ⟨.inl rfl, Wk.refl xs⟩
theorem StS.weak (st : StS K mg fx Hf H σ G s) (w : Wk G G') : StS K mg fx Hf H σ G' s :=
  ⟨st.ste, st.bag, st.bagg, st.len.trans w.len, fun i y e => by
    obtain ⟨x, ex, h⟩ := w.get e
    rcases h with rfl | rfl
    · exact st.sl i x ex
    · trivial, fun i j x y p hij ex ey ox oy => by
    obtain ⟨x', ex', hx⟩ := w.get ex
    obtain ⟨y', ey', hy⟩ := w.get ey
    rcases hx with rfl | rfl
    · rcases hy with rfl | rfl
      · exact st.dis i j _ _ p hij ex' ey' ox oy
      · cases oy
    · cases ox⟩
/-- a datum is stored -/
theorem StS.set {i : Nat} {d : D} {v : V} (st : StS K mg fx Hf H σ G s) (h : Is K mg Hf d v) : StS K mg fx Hf H (σ.set i (some v)) (G.set i (.im d)) s := by
  refine ⟨st.ste, st.bag, st.bagg, by simpa using st.len, fun j x e => ?_, fun j k x y p hjk ex ey ox oy e1 e2 => ?_⟩
  · by_cases q : i = j
    · subst q
      have hi : i < G.length := by
        have := (List.getElem?_eq_some_iff.mp e).1
        simpa using this
      rw [List.getElem?_set_self hi] at e
      cases e
      exact ⟨v, List.getElem?_set_self (by rw [st.len]; exact hi), h⟩
    · rw [List.getElem?_set_ne q] at e
      rw [List.getElem?_set_ne q]
      exact st.sl j x e
  · have nj : i ≠ j := by
      rintro rfl
      have hi : i < G.length := by
        have := (List.getElem?_eq_some_iff.mp ex).1
        simpa using this
      rw [List.getElem?_set_self hi] at ex
      cases ex; cases ox
    have nk : i ≠ k := by
      rintro rfl
      have hi : i < G.length := by
        have := (List.getElem?_eq_some_iff.mp ey).1
        simpa using this
      rw [List.getElem?_set_self hi] at ey
      cases ey; cases oy
    rw [List.getElem?_set_ne nj] at ex e1
    rw [List.getElem?_set_ne nk] at ey e2
    exact st.dis j k x y p hjk ex ey ox oy e1 e2
/-- a new list of one's own is stored -/
theorem StS.setOw {i : Nat} {ds : List D} {p : Addr} {vs : List V} (st : StS K mg fx Hf H σ G s) (hn : ∀ (j : Nat) (q : Addr), σ[j]? = some (some (.ref q)) → (∀ x, G[j]? = some x → isOw x = true → q ≠ p)) (h : H p = some (.lst vs)) (hf : Hf p = none) (h0 : fx.H0 p = none) (nb : p ∉ fx.bag) (l : IsL K mg Hf ds vs) (hz : ds.length ≤ sizeLine) :
    StS K mg fx Hf H (σ.set i (some (.ref p))) (G.set i (.ow ds)) s := by
  refine ⟨st.ste, st.bag, st.bagg, by simpa using st.len, fun j x e => ?_, fun j k x y q hjk ex ey ox oy e1 e2 => ?_⟩
  · by_cases q : i = j
    · subst q
      have hi : i < G.length := by
        have := (List.getElem?_eq_some_iff.mp e).1
        simpa using this
      rw [List.getElem?_set_self hi] at e
      cases e
      exact ⟨p, vs, List.getElem?_set_self (by rw [st.len]; exact hi), h, hf, h0, nb, l, hz⟩
    · rw [List.getElem?_set_ne q] at e
      rw [List.getElem?_set_ne q]
      exact st.sl j x e
  · have hi : ∀ {z : Sl}, (G.set i (.ow ds))[i]? = some z → i < σ.length := fun e => by
      have := (List.getElem?_eq_some_iff.mp e).1
      rw [st.len]
      simpa using this
    by_cases a : i = j
    · subst a
      rw [List.getElem?_set_self (hi ex)] at e1
      have hk : i ≠ k := hjk
      rw [List.getElem?_set_ne hk] at ey e2
      cases e1
      exact hn k p e2 y ey oy rfl
    · rw [List.getElem?_set_ne a] at ex e1
      by_cases b : i = k
      · subst b
        rw [List.getElem?_set_self (hi ey)] at e2
        cases e2
        exact hn j p e1 x ex ox rfl
      · rw [List.getElem?_set_ne b] at ey e2
        exact st.dis j k x y q hjk ex ey ox oy e1 e2
end
theorem BagAt.upd {bag : List Addr} {H : Hp} {s : S} {p : Addr} {o : HO} (h : BagAt bag H s) (nb : p ∉ bag) : BagAt bag (L2.upd H p o) s := by
  match bag, h, nb with
  | [], _, _ => trivial
  | [b], h, nb =>
    have e : H b = some (.lst [.int s.x, .int s.y]) := h.2
    refine ⟨h.1, ?_⟩
    rw [upd_ne (fun z => nb (by simp [z]))]
    exact e
  | b :: c :: r, ⟨hw, h0, h1, h2⟩, nb =>
    refine ⟨hw, h0, ?_, ?_⟩
    · rw [upd_ne (fun z => nb (by simp [z]))]; exact h1
    · rw [upd_ne (fun z => nb (by simp [z]))]; exact h2
section
variable {K : PySem.W.Frag} {mg : Str → Option Value} {fx : Fx} {Hf H : Hp} {σ : L2.St} {G : List Sl} {s : S}
theorem SlOk.ref {o : Option (Option V)} : ∀ {x : Sl}, isOw x = true → SlOk K mg fx Hf H o x → ∃ p, o = some (some (.ref p)) ∧ H p ≠ none ∧ Hf p = none ∧ p ∉ fx.bag ∧ (fx.H0 p = none ∨ p ∈ fx.me)
  | .un, h, _ => by cases h
  | .im d, h, _ => by cases h
  | .bg, h, _ => by cases h
  | .ow ds, _, ⟨p, vs, e, h, hf, h0, nb, l, z⟩ => ⟨p, e, by rw [h]; simp, hf, nb, .inl h0⟩
  | .od ks ds, _, ⟨p, vs, e, h, hf, h0, nb, l, l', z⟩ => ⟨p, e, by rw [h]; simp, hf, nb, .inl h0⟩
  | .ob ns ds, _, ⟨p, C, dx, vs, e, h, hf, h0, nb, c, hn, l⟩ => ⟨p, e, by rw [h]; simp, hf, nb, .inr h0.1⟩
theorem SlOk.upd {o : Option (Option V)} {p : Addr} {u : HO} : ∀ {x : Sl}, (∀ q, isOw x = true → o = some (some (.ref q)) → q ≠ p) → SlOk K mg fx Hf H o x → SlOk K mg fx Hf (L2.upd H p u) o x
  | .un, _, _ => trivial
  | .im d, _, h => h
  | .bg, _, h => h
  | .ow ds, w, ⟨q, vs, e, h, hf, h0, nb, l, z⟩ => ⟨q, vs, e, by rw [upd_ne (w q rfl e)]; exact h, hf, h0, nb, l, z⟩
  | .od ks ds, w, ⟨q, vs, e, h, hf, h0, nb, l, l', z⟩ => ⟨q, vs, e, by rw [upd_ne (w q rfl e)]; exact h, hf, h0, nb, l, l', z⟩
  | .ob ns ds, w, ⟨q, C, dx, vs, e, h, hf, h0, nb, c, hn, l⟩ => ⟨q, C, dx, vs, e, by rw [upd_ne (w q rfl e)]; exact h, hf, h0, nb, c, hn, l⟩
theorem SlOk.frz {o : Option (Option V)} {p : Addr} {u : HO} (sb : Sub Hf (L2.upd Hf p u)) : ∀ {x : Sl}, (∀ q, isOw x = true → o = some (some (.ref q)) → q ≠ p) → SlOk K mg fx Hf H o x → SlOk K mg fx (L2.upd Hf p u) H o x
  | .un, _, _ => trivial
  | .im d, _, ⟨v, a, b⟩ => ⟨v, a, b.mono sb⟩
  | .bg, _, h => h
  | .ow ds, w, ⟨q, vs, e, h, hf, h0, nb, l, z⟩ => ⟨q, vs, e, h, by rw [upd_ne (w q rfl e)]; exact hf, h0, nb, l.mono sb, z⟩
  | .od ks ds, w, ⟨q, vs, e, h, hf, h0, nb, l, l', z⟩ => ⟨q, vs, e, h, by rw [upd_ne (w q rfl e)]; exact hf, h0, nb, l.mono sb, l'.mono sb, z⟩
  | .ob ns ds, w, ⟨q, C, dx, vs, e, h, hf, h0, nb, c, hn, l⟩ => ⟨q, C, dx, vs, e, h, by rw [upd_ne (w q rfl e)]; exact hf, h0, nb, c, hn, l.mono sb⟩
/-- the own thing of slot i is changed -/
theorem StS.updAt {i : Nat} {x x' : Sl} {p : Addr} {u : HO} (st : StS K mg fx Hf H σ G s) (hG : G[i]? = some x) (ox : isOw x = true) (hp : σ[i]? = some (some (.ref p))) (ox' : isOw x' = true) (new : SlOk K mg fx Hf (upd H p u) (some (some (.ref p))) x') :
    StS K mg fx Hf (upd H p u) σ (G.set i x') s := by
  obtain ⟨q, e, h, hf, nb, h0⟩ := (st.sl i _ hG).ref ox
  have eq : q = p := by rw [hp] at e; cases e; rfl
  subst eq
  have hi : i < G.length := (List.getElem?_eq_some_iff.mp hG).1
  clear e
  refine ⟨⟨st.ste.sub, fun a o e => ?_, fun a o e n => ?_, fun a n => ?_, st.ste.fresh⟩, st.bag.upd nb, fun b m => ⟨(st.bagg b m).1, ?_, (st.bagg b m).2.2⟩, by simpa using st.len, fun j x ex => ?_, fun j k x y r hjk ex ey ox oy e1 e2 => ?_⟩
  · have ne : a ≠ q := fun z => by rw [z, hf] at e; cases e
    rw [upd_ne ne]
    exact st.top a o e
  · have ne : a ≠ q := fun z => by
      rcases h0 with y | y
      · rw [z, y] at e; cases e
      · exact n (List.mem_append_left _ (z ▸ y))
    rw [upd_ne ne]
    exact st.ste.keep a o e n
  · by_cases ne : a = q
    · rw [ne, upd_same]; simp
    · rw [upd_ne ne]; exact st.ste.dom a n
  · by_cases ne : b = q
    · rw [ne, upd_same]; simp
    · rw [upd_ne ne]
      exact (st.bagg b m).2.1
  · by_cases c : i = j
    · subst c
      rw [List.getElem?_set_self hi] at ex
      cases ex
      rw [hp]
      exact new
    · rw [List.getElem?_set_ne c] at ex
      exact (st.sl j x ex).upd fun q2 o2 e2 z => st.dis i j _ _ q c hG ex ox o2 hp (by rw [e2, z])
  · have get : ∀ {n : Nat} {z : Sl}, (G.set i x')[n]? = some z → isOw z = true → ∃ z', G[n]? = some z' ∧ isOw z' = true := fun {n z} e o => by
      by_cases c : i = n
      · subst c; exact ⟨_, hG, by assumption⟩
      · rw [List.getElem?_set_ne c] at e; exact ⟨z, e, o⟩
    obtain ⟨x1, ex', ox1⟩ := get ex ox
    obtain ⟨y1, ey', oy1⟩ := get ey oy
    exact st.dis j k x1 y1 r hjk ex' ey' ox1 oy1 e1 e2
/-- the own list of slot i is changed -/
theorem StS.updOw {i : Nat} {ds ds' : List D} {p : Addr} {vs' : List V} (st : StS K mg fx Hf H σ G s) (hG : G[i]? = some (.ow ds)) (hp : σ[i]? = some (some (.ref p))) (l : IsL K mg Hf ds' vs') (hz : ds'.length ≤ sizeLine) :
    StS K mg fx Hf (upd H p (.lst vs')) σ (G.set i (.ow ds')) s := by
  obtain ⟨q, vs, e, h, hf, h0, nb, l0, z0⟩ := st.sl i _ hG
  have eq : q = p := by rw [hp] at e; cases e; rfl
  subst eq
  exact st.updAt hG rfl hp rfl ⟨q, vs', rfl, upd_same, hf, h0, nb, l, hz⟩
/-- a slot's own thing becomes a datum -/
theorem StS.freezeAt {i : Nat} {x : Sl} {d : D} {p : Addr} {u : HO} (st : StS K mg fx Hf H σ G s) (hG : G[i]? = some x) (ox : isOw x = true) (hp : σ[i]? = some (some (.ref p))) (hu : H p = some u) (h0 : fx.H0 p = none) (is : ∀ Hf', Sub Hf Hf' → Hf' p = some u → Is K mg Hf' d (.ref p)) :
    ∃ Hf', (Sub Hf Hf' ∧ ∀ a o, Hf' a = some o → Hf a = some o ∨ o = u) ∧ StS K mg fx Hf' H σ (G.set i (.im d)) s := by
  obtain ⟨q, e, h, hf, nb, _⟩ := (st.sl i _ hG).ref ox
  have eq : q = p := by rw [hp] at e; cases e; rfl
  subst eq
  have hi : i < G.length := (List.getElem?_eq_some_iff.mp hG).1
  have sb : Sub Hf (upd Hf q u) := fun a o z => by
    have ne : a ≠ q := fun y => by rw [y, hf] at z; cases z
    rw [upd_ne ne]; exact z
  refine ⟨upd Hf q u, ⟨sb, fun a o z => by
    by_cases c : a = q
    · subst c; rw [upd_same] at z; cases z; exact .inr rfl
    · rw [upd_ne c] at z; exact .inl z⟩, ⟨st.ste.sub.trans sb, fun a o z => ?_, st.ste.keep, st.ste.dom, fun a o z => ?_⟩, st.bag, fun b m => ⟨?_, (st.bagg b m).2⟩, by simpa using st.len, fun j x ex => ?_, fun j k x y r hjk ex ey ox oy e1 e2 => ?_⟩
  · by_cases c : a = q
    · subst c; rw [upd_same] at z; cases z; exact hu
    · rw [upd_ne c] at z; exact st.top a o z
  · by_cases c : a = q
    · subst c; exact .inr h0
    · rw [upd_ne c] at z; exact st.ste.fresh a o z
  · have ne : b ≠ q := fun z => st.owNb h0 nb (z ▸ m)
    rw [upd_ne ne]; exact (st.bagg b m).1
  · by_cases c : i = j
    · subst c
      rw [List.getElem?_set_self hi] at ex
      cases ex
      exact ⟨_, e, is _ sb upd_same⟩
    · rw [List.getElem?_set_ne c] at ex
      exact (st.sl j x ex).frz sb fun q2 o2 e2 z => st.dis i j _ _ q c hG ex ox o2 hp (by rw [e2, z])
  · have nx : i ≠ j := fun z => by subst z; rw [List.getElem?_set_self hi] at ex; cases ex; cases ox
    have ny : i ≠ k := fun z => by subst z; rw [List.getElem?_set_self hi] at ey; cases ey; cases oy
    rw [List.getElem?_set_ne nx] at ex
    rw [List.getElem?_set_ne ny] at ey
    exact st.dis j k x y r hjk ex ey ox oy e1 e2
/-- a slot's own list becomes a datum -/
theorem StS.freeze {i : Nat} {ds : List D} (st : StS K mg fx Hf H σ G s) (hG : G[i]? = some (.ow ds)) : ∃ Hf', Sub Hf Hf' ∧ StS K mg fx Hf' H σ (G.set i (.im (.lst ds))) s := by
  obtain ⟨p, vs, e, h, hf, h0, nb, l0, z0⟩ := st.sl i _ hG
  obtain ⟨Hf', ⟨sb, _⟩, st'⟩ := st.freezeAt (d := .lst ds) hG rfl e h h0 fun Hf' sb z => ⟨z0, p, vs, rfl, z, l0.mono sb⟩
  exact ⟨Hf', sb, st'⟩
/-- the same, and what is new is a list -/
theorem StS.freeze2 {i : Nat} {ds : List D} (st : StS K mg fx Hf H σ G s) (hG : G[i]? = some (.ow ds)) : ∃ Hf', Sub Hf Hf' ∧ (∀ a o, Hf' a = some o → Hf a = some o ∨ ∃ vs, o = .lst vs) ∧ StS K mg fx Hf' H σ (G.set i (.im (.lst ds))) s := by
  obtain ⟨p, vs, e, h, hf, h0, nb, l0, z0⟩ := st.sl i _ hG
  obtain ⟨Hf', ⟨sb, nw⟩, st'⟩ := st.freezeAt (d := .lst ds) hG rfl e h h0 fun Hf' sb z => ⟨z0, p, vs, rfl, z, l0.mono sb⟩
  exact ⟨Hf', sb, fun a o z => (nw a o z).imp id fun e => ⟨_, e⟩, st'⟩
/-- an address that the heap does not know is not of the entry, nor the bag's -/
theorem StS.new0 (st : StS K mg fx Hf H σ G s) {p : Addr} (h : H p = none) : fx.H0 p = none ∧ p ∉ fx.bag ∧ Hf p = none := by
  refine ⟨?_, fun m => (st.bagf p m).2 h, st.top.none h⟩
  cases q : fx.H0 p with
  | none => rfl
  | some o => exact absurd h (st.ste.dom p (by rw [q]; simp))
theorem StS.owNe (st : StS K mg fx Hf H σ G s) {p : Addr} (h : H p = none) : ∀ (j : Nat) (q : Addr), σ[j]? = some (some (.ref q)) → (∀ x, G[j]? = some x → isOw x = true → q ≠ p) := fun j q e x ex ox z => by
  obtain ⟨q2, e2, h2, _⟩ := (st.sl j _ ex).ref ox
  rw [e] at e2
  cases e2
  rw [z] at h2
  exact h2 h
end
end DL
namespace DL
open PySem L2
/-! ### judgements -/
section
variable (K : PySem.W.Frag) (mg : Str → Option Value) (fx : Fx)
def ExIs (Hf H : Hp) (e : Exn) (cls : Value) (dd : Option Addr) : Prop :=
  ∃ C a v, mg e.c = some (.ref C) ∧ cls = .ref C ∧ dd = some a ∧ Hf a = some (.xd [(e.f, v)]) ∧ Is K mg Hf e.d v
/-- what is wanted of an exception -/
def EX (G : List Sl) (σ : L2.St) : Exn → S → Prop := fun e s' => ∀ cls dd Hf' H', StS K mg fx Hf' H' σ G s' → ExIs K mg Hf' H' e cls dd → fx.W cls dd σ H'
variable {m : Type → Type} [Mo m] {α β : Type}
def tX (G : List Sl) (rl : Hp → α → β → Prop) (x : m α) (Hf : Hp) (s : S) (σ : L2.St) (H : Hp) (Q : β → Hp → Prop) : Prop :=
  StS K mg fx Hf H σ G s ∧ Mo.wp x s (fun a s' => ∀ b Hf' H', Ste fx.bag Hf H Hf' H' → BagAt fx.bag H' s' → rl Hf' a b → Q b H') (EX K mg fx G σ)
def tG (G : List Sl) (rl : Hp → α → β → Prop) (x : m α) : L2.St → Hp → (β → Hp → Prop) → Prop := fun σ H Q => ∃ Hf s, tX K mg fx G rl x Hf s σ H Q
abbrev tE (G : List Sl) (x : m D) : TE := tG K mg fx G (fun H d v => Is K mg H d v) x
abbrev tT (G : List Sl) (x : m Bool) : TT := tG K mg fx G (fun _ a b => b = a) x
abbrev tA (G : List Sl) (x : m (List D)) : TA := tG K mg fx G (fun H d v => IsL K mg H d v) x
end
section
variable {K : PySem.W.Frag} {mg : Str → Option Value} {fx : Fx} {m : Type → Type} [Mo m] {α β γ δ : Type} {G : List Sl} {rl : Hp → α → β → Prop} {rm : Hp → γ → δ → Prop}
theorem tX.mono {x : m α} {Hf : Hp} {s : S} {σ : L2.St} {H : Hp} {Q Q' : β → Hp → Prop} (h : tX K mg fx G rl x Hf s σ H Q) (q : ∀ b H', Q b H' → Q' b H') : tX K mg fx G rl x Hf s σ H Q' :=
  ⟨h.1, Mo.wp_mono h.2 (fun a s' k b Hf' H' e bg r => q b H' (k b Hf' H' e bg r)) fun e s' k => k⟩
theorem tX.bind {x : m α} {k : α → m γ} {Hf : Hp} {s : S} {σ : L2.St} {H : Hp} {Q : δ → Hp → Prop} (h : tX K mg fx G rm (x >>= k) Hf s σ H Q) :
    tX K mg fx G rl x Hf s σ H (fun b H1 => ∃ a Hf1 s1, Sub Hf Hf1 ∧ rl Hf1 a b ∧ tX K mg fx G rm (k a) Hf1 s1 σ H1 Q) :=
  ⟨h.1, Mo.wp_mono (Mo.wp_bind h.2) (fun a s1 h1 b Hf1 H1 ste bag r => ⟨a, Hf1, s1, ste.sub, r, h.1.step ste bag,
      Mo.wp_mono h1 (fun c s2 h2 d Hf2 H2 ste2 bag2 r2 => h2 d Hf2 H2 (ste.trans ste2) bag2 r2) fun e s2 h2 => h2⟩)
    fun e s' k => k⟩
theorem tX.pure {a : α} {Hf : Hp} {s : S} {σ : L2.St} {H : Hp} {Q : β → Hp → Prop} (h : tX K mg fx G rl (Pure.pure a : m α) Hf s σ H Q) {b : β} (r : rl Hf a b) : Q b H :=
  (Mo.wp_pure h.2) b Hf H (.refl h.1.top) h.1.bag r
theorem tX.to {x : m α} {Hf : Hp} {s : S} {σ : L2.St} {H : Hp} {Q : β → Hp → Prop} (h : tX K mg fx G rl x Hf s σ H Q) : tG K mg fx G rl x σ H Q := ⟨Hf, s, h⟩
end
/-- a question with an answer or none -/
def ask {m : Type → Type} [Mo m] {α : Type} (o : Option α) : m α := Mo.lift (match o with | some a => .ok a | none => .stuck)
@[simp] theorem ask_some {α : Type} (a : α) : (ask (some a) : R α) = .ok a := rfl
@[simp] theorem ask_none {α : Type} : (ask (none : Option α) : R α) = .stuck := rfl
@[simp] theorem askM_some {α : Type} (a : α) (s : S) : (ask (some a) : M α) s = .ok a s := rfl
@[simp] theorem askM_none {α : Type} (s : S) : (ask (none : Option α) : M α) s = .stuck := rfl
section
variable {K : PySem.W.Frag} {mg : Str → Option Value} {fx : Fx} {m : Type → Type} [Mo m] {α β : Type} {G : List Sl} {rl : Hp → α → β → Prop}
/-- what follows from an answer -/
theorem tX.ask {o : Option α} {Hf : Hp} {s : S} {σ : L2.St} {H : Hp} {Q : β → Hp → Prop} (h : tX K mg fx G rl (DL.ask o : m α) Hf s σ H Q) :
    ∃ a, o = some a ∧ ∀ b Hf' H', Ste [] Hf H Hf' H' → rl Hf' a b → Q b H' := by
  have h2 := Mo.wp_lift h.2
  cases o with
  | none => exact h2.elim
  | some a => exact ⟨a, rfl, fun b Hf' H' e r => h2 b Hf' H' e.wide (e.bag h.1.bag) r⟩
end
section
variable {X : Cx}
theorem peI {e : Expr} {t t' : TE} (h : PE X e t) (w : ∀ σ H Q, t' σ H Q → t σ H Q) : PE X e t' := ⟨fun pins s σ H Q I q => h.run pins s σ H Q I (w _ _ _ q)⟩
theorem ptI {e : Expr} {t t' : TT} (h : PT X e t) (w : ∀ σ H Q, t' σ H Q → t σ H Q) : PT X e t' := ⟨fun pins s σ H Q I q => h.run pins s σ H Q I (w _ _ _ q)⟩
theorem pwI {e : Expr} {t t' : TT} (h : PW X e t) (w : ∀ σ H Q, t' σ H Q → t σ H Q) : PW X e t' := ⟨fun wh pins s σ H Q I q => h.run wh pins s σ H Q I (w _ _ _ q)⟩
theorem paI {e : List Expr} {t t' : TA} (h : PA X e t) (w : ∀ σ H Q, t' σ H Q → t σ H Q) : PA X e t' := ⟨fun pos pins s σ H Q I q => h.run pos pins s σ H Q I (w _ _ _ q)⟩
theorem pssI {e : List Stmt} {t t' : TS} (h : PSs X e t) (w : ∀ D σ H, t' D σ H → t D σ H) : PSs X e t' := ⟨fun pins s σ H D I q => h.run pins s σ H D I (w _ _ _ q)⟩
theorem psI {e : Stmt} {t t' : TS} (h : PS X e t) (w : ∀ D σ H, t' D σ H → t D σ H) : PS X e t' := ⟨fun pins s σ H D I q => h.run pins s σ H D I (w _ _ _ q)⟩
end
/-! ### operators by data -/
section
variable (K : PySem.W.Frag) (mg : Str → Option Value)
/-- a function of data, of two values -/
def rD2 (f : D → D → Option D) : R2 := fun x y H Q => ∃ Hf dx dy d, Sub Hf H ∧ Is K mg Hf dx x ∧ Is K mg Hf dy y ∧ f dx dy = some d ∧ ∀ u Hf' H', Ste [] Hf H Hf' H' → Is K mg Hf' d u → Q u H'
def rDs (f : List D → Option D) : List V → Hp → VK → Prop := fun xs H Q => ∃ Hf ds d, Sub Hf H ∧ IsL K mg Hf ds xs ∧ f ds = some d ∧ ∀ u Hf' H', Ste [] Hf H Hf' H' → Is K mg Hf' d u → Q u H'
end
section
variable {X : Cx} {fx : Fx} {m : Type → Type} [Mo m] {G : List Sl} {a b c : Expr} {es : List Expr} {pos : Pos} {x y z : m D} {ys : m (List D)} {f : D → D → Option D}
theorem de_op {op : Operator} (ho : OpR X (binaryOp op) (rD2 X.K X.mg f)) (ha : PE X a (tE X.K X.mg fx G x)) (hb : PE X b (tE X.K X.mg fx G y)) :
    PE X (.BinOp a op b pos) (tE X.K X.mg fx G (do let u ← x; let v ← y; ask (f u v))) := peI (pe_op ho ha hb) fun σ H Q ⟨Hf, s, h⟩ =>
  (h.bind.mono fun v1 H1 ⟨d1, Hf1, s1, sb1, r1, h1⟩ => (h1.bind.mono fun v2 H2 ⟨d2, Hf2, s2, sb2, r2, h2⟩ => by
    obtain ⟨d, e, q⟩ := h2.ask
    exact ⟨Hf2, d1, d2, d, h2.1.top, r1.mono sb2, r2, e, q⟩).to).to
theorem de_cmp {op : CmpOp} (ho : OpR X (compareOp op) (rD2 X.K X.mg f)) (ha : PE X a (tE X.K X.mg fx G x)) (hb : PE X b (tE X.K X.mg fx G y)) (hm : behindInMarks op b = false) :
    PE X (.Compare a [op] [b] pos) (tE X.K X.mg fx G (do let u ← x; let v ← y; ask (f u v))) := peI (pe_cmpR ho ha hb hm) fun σ H Q ⟨Hf, s, h⟩ =>
  (h.bind.mono fun v1 H1 ⟨d1, Hf1, s1, sb1, r1, h1⟩ => (h1.bind.mono fun v2 H2 ⟨d2, Hf2, s2, sb2, r2, h2⟩ => by
    obtain ⟨d, e, q⟩ := h2.ask
    exact ⟨Hf2, d1, d2, d, h2.1.top, r1.mono sb2, r2, e, q⟩).to).to
/-- a truth value as a test -/
def bOf : D → Option Bool
  | .bl b => some b
  | _ => none
theorem dt_cmp {op : CmpOp} (ho : OpR X (compareOp op) (rD2 X.K X.mg f)) (ha : PE X a (tE X.K X.mg fx G x)) (hb : PE X b (tE X.K X.mg fx G y)) (hm : behindInMarks op b = false) :
    PT X (.Compare a [op] [b] pos) (tT X.K X.mg fx G (do let u ← x; let v ← y; ask ((f u v).bind bOf))) := ptI (pt_cmpR ho ha hb hm) fun σ H Q ⟨Hf, s, h⟩ =>
  (h.bind.mono fun v1 H1 ⟨d1, Hf1, s1, sb1, r1, h1⟩ => (h1.bind.mono fun v2 H2 ⟨d2, Hf2, s2, sb2, r2, h2⟩ => by
    obtain ⟨k, e, q⟩ := h2.ask
    cases e' : f d1 d2 with
    | none => rw [e'] at e; cases e
    | some d =>
      rw [e'] at e
      cases d with
      | bl b' =>
        have : b' = k := Option.some.inj e
        subst this
        exact ⟨Hf2, d1, d2, _, h2.1.top, r1.mono sb2, r2, e', fun u Hf' H' st i => ⟨b', i, q b' Hf' H' st rfl⟩⟩
      | _ => cases e).to).to
theorem da_nil : PA X [] (tA X.K X.mg fx G (pure [] : m (List D))) := paI pa_nil fun σ H Q ⟨Hf, s, h⟩ => h.pure rfl
theorem da_cons (ha : PE X a (tE X.K X.mg fx G x)) (hr : PA X es (tA X.K X.mg fx G ys)) (hs : starEach (a :: es) X.env = (false, eval a X.env) :: starEach es X.env := by rfl) :
    PA X (a :: es) (tA X.K X.mg fx G (do let d ← x; let ds ← ys; pure (d :: ds))) := paI (pa_cons ha hr hs) fun σ H Q ⟨Hf, s, h⟩ =>
  (h.bind.mono fun v1 H1 ⟨d1, Hf1, s1, sb1, r1, h1⟩ => (h1.bind.mono fun v2 H2 ⟨d2, Hf2, s2, sb2, r2, h2⟩ => h2.pure (IsL.cons (r1.mono sb2) r2)).to).to
theorem de_callB {g : List D → Option D} {id : String} {n : Str} {p : Pos} {e : Expr} (hc : CallR X (.builtin id) (rDs X.K X.mg g)) (hg : Gl X n) (hm : X.mg n = none) (hv : bootBuiltins n = some (.builtin id)) (ha : PA X (e :: es) (tA X.K X.mg fx G ys))
    (hn : n ≠ "__name__" := by decide) (hdb : (n == ("__debug__" : Str)) = false := by decide) (he : starEach (e :: es) X.env = (false, eval e X.env) :: starEach es X.env := by rfl) (hpl : (backTo pos (starEach es X.env)).any (·.1) = false := by rfl) :
    PE X (.Call (.Name n p) (e :: es) [] pos) (tE X.K X.mg fx G (do let ds ← ys; ask (g ds))) := peI (pe_callB hc hg hm hv ha hn hdb he hpl) fun σ H Q ⟨Hf, s, h⟩ =>
  (h.bind.mono fun v1 H1 ⟨d1, Hf1, s1, sb1, r1, h1⟩ => by
    obtain ⟨d, e, q⟩ := h1.ask
    exact ⟨Hf1, d1, d, h1.1.top, r1, e, q⟩).to
theorem de_callTy {g : List D → Option D} {T : String} {n : Str} {p : Pos} {e : Expr} (hc : CallR X (.type T) (rDs X.K X.mg g)) (hg : Gl X n) (hm : X.mg n = none) (hv : bootBuiltins n = some (.type T)) (ha : PA X (e :: es) (tA X.K X.mg fx G ys))
    (hn : n ≠ "__name__" := by decide) (hdb : (n == ("__debug__" : Str)) = false := by decide) (he : starEach (e :: es) X.env = (false, eval e X.env) :: starEach es X.env := by rfl) (hpl : (backTo pos (starEach es X.env)).any (·.1) = false := by rfl) :
    PE X (.Call (.Name n p) (e :: es) [] pos) (tE X.K X.mg fx G (do let ds ← ys; ask (g ds))) := peI (pe_callTy hc hg hm hv ha hn hdb he hpl) fun σ H Q ⟨Hf, s, h⟩ =>
  (h.bind.mono fun v1 H1 ⟨d1, Hf1, s1, sb1, r1, h1⟩ => by
    obtain ⟨d, e, q⟩ := h1.ask
    exact ⟨Hf1, d1, d, h1.1.top, r1, e, q⟩).to
theorem de_var (i : Nat) {d : D} {n : Str} (hG : G[i]? = some (.im d) := by rfl) (hN : X.N[i]? = some n := by rfl) (hv : Vis X.env.scope n := by first | exact Or.inl rfl | exact Or.inr (Or.inl rfl) | exact Or.inr (Or.inr rfl))
    (hd : (n == ("__debug__" : Str)) = false := by decide) (hcd : (n == ("__classdict__" : Str)) = false := by decide) : PE X (.Name n pos) (tE X.K X.mg fx G (pure d : m D)) :=
  peI (pe_var hN hv hd hcd) fun σ H Q ⟨Hf, s, h⟩ => by
    obtain ⟨v, e, i⟩ := h.1.sl i _ hG
    exact ⟨v, e, h.pure i⟩
theorem de_int {j : Nat} {i : Int} : PE X (.Constant (.int i) j pos) (tE X.K X.mg fx G (pure (.int i) : m D)) := peI pe_int fun σ H Q ⟨Hf, s, h⟩ => h.pure (by rw [Is])
theorem de_bl {j : Nat} {i : Bool} : PE X (.Constant (.bool i) j pos) (tE X.K X.mg fx G (pure (.bl i) : m D)) := peI pe_bl fun σ H Q ⟨Hf, s, h⟩ => h.pure (by rw [Is])
theorem de_non {j : Nat} : PE X (.Constant .none j pos) (tE X.K X.mg fx G (pure .non : m D)) := peI pe_non fun σ H Q ⟨Hf, s, h⟩ => h.pure (by rw [Is])
theorem de_str {j : Nat} {t : Str} (l : List Nat) (ht : t = ⟨l.toArray⟩ := by first | rfl | decide +kernel) (hl : l.length ≤ 1000 := by decide) : PE X (.Constant (.str t) j pos) (tE X.K X.mg fx G (pure (.str l) : m D)) :=
  peI pe_str fun σ H Q ⟨Hf, s, h⟩ => h.pure (by rw [Is, ht]; exact ⟨rfl, Nat.le_of_lt (small1000 hl)⟩)
/-- a global constant -/
theorem de_glob {n : Str} {u : Value} {v : V} {d : D} (hg : Gl X n) (hm : X.mg n = some u) (r : RelV v u) (hi : Is X.K X.mg (fun _ => none) d v) (hd : (n == ("__debug__" : Str)) = false := by decide) : PE X (.Name n pos) (tE X.K X.mg fx G (pure d : m D)) :=
  peI (pe_glob hg hm r hd) fun σ H Q ⟨Hf, s, h⟩ => h.pure (hi.mono fun a o e => by cases e)
end
end DL
/-! ### exceptions: those of the class that a suite may turn into others bear no context -/
namespace DL
open PySem PySem.Spec PyProof.Rows L2
/-- every class but the one whose errors are raised in a suite: they are made where nothing is handled -/
def Cool (mg : Str → Option Value) (cls : Value) : Prop := mg "BadRule" ≠ some cls
def CXm (P : Program) (w : World) (mg : Str → Option Value) : CXT := fun outer H s E u s' =>
  L2.CX P w outer H s (fun cls d H' => E cls d H' ∧ ¬ Cool mg cls) u s' ∨ L2N.CX P w outer H s E u s'
structure Takes (X : Cx) (W : WX) : Prop where
  hot : L2.Takes X fun cls d σ H => W cls d σ H ∧ ¬ Cool X.mg cls
  new : L2N.Takes X W
section
variable {X : Cx} {W : WX} {E : XK}
theorem takes_of (hs : X.stack = X.env :: X.outer) (hf : X.env.frame = some X.env.locals) (hex : X.ex = []) {E₁ : Value → Shared → Prop}
    (hx : X.xe = fun e s' => wpAny (model X.prog X.w) X.A (leaving X.env e) (fun _ s'' => CXm X.prog X.w X.mg X.outer X.H_0 X.s_0 E e s'') E₁ s') : Takes X (fun cls d _ H => E cls d H) := by
  refine ⟨fun u s' x => ?_, fun u s' x => ?_⟩
  · rw [hx]
    exact wpAny_mono (L2.XE.leave (W := fun cls d _ H => E cls d H ∧ ¬ Cool X.mg cls) (E := fun cls d H => E cls d H ∧ ¬ Cool X.mg cls) hs hf hex (fun _ _ _ _ h => h) x) (fun _ _ h => .inl h) fun _ _ h => h
  · rw [hx]
    exact wpAny_mono (L2N.XE.leave (W := fun cls d _ H => E cls d H) (E := E) hs hf hex (fun _ _ _ _ h => h) x) (fun _ _ h => .inr h) fun _ _ h => h
theorem passAt (tk : Takes X W) (σ : L2.St) : PassesAt (CXm X.prog X.w X.mg) X σ (WE W σ) := fun pins H s e s' I c => by
  rcases c with c | c
  · exact tk.hot e s' (L2.XE.of_call (E := fun cls d H' => WE W σ cls d H' ∧ ¬ Cool X.mg cls) I (fun _ _ _ h => h) c)
  · exact tk.new e s' (L2N.XE.of_call I (fun _ _ _ h => h) c)
theorem cxm_false {P : Program} {w : World} {mg : Str → Option Value} {outer : List Env} {H : Hp} {s s' : Shared} {e : Value} (h : CXm P w mg outer H s (fun _ _ _ => False) e s') : False := by
  rcases h with h | h
  · obtain ⟨_, _, _, _, _, _, _, _, _, _, _, _, z⟩ := h
    exact z.1
  · obtain ⟨_, _, _, _, _, _, _, _, _, _, _, _, z⟩ := h
    exact z
/-- an exception in the air, what is kept of it: Z -/
def XEZ (Z : Value → Option Addr → Obj → Prop) (X : Cx) (W : WX) (u : Value) (s' : Shared) : Prop :=
  ∃ (a : Addr) (B : Heap) (sI : Shared) (pins : List (Addr × Obj)) (σ : L2.St) (H : Hp) (cls : Value) (d : Option Addr),
    u = .ref a ∧ L2.Inv X pins σ H sI ∧ (∀ b o, sI.heap.get? b = some o → b ∉ frs X.stack → B.get? b = some o) ∧ sI.heap.UpToSlots s'.heap ∧
      L2.Sky B X.stack a (Z cls d) X.env.locals s'.heap ∧ H a = none ∧ s'.os = sI.os ∧ AllBare s'.gens ∧ W cls d σ H
theorem zc_steady1 {cls : Value} {d : Option Addr} : PXN.Steady1 (Zc cls d) := fun o v h => ⟨PXN.steady_cls o v h.1, PXN.steady_dict o v h.2⟩
section
variable {X : Cx} {W : WX} {E : XK}
theorem ub_after {fs : List Addr} {H H2 H' : Hp} {h h2 B h' : Heap} (un : Un fs [] H H2 h h2) (kp : ∀ b o, h.get? b = some o → h2.get? b = some o) (ub : UB fs H2 H' h2 B h') : UB fs H H' h B h' where
  keep b o at_ no out := ub.keep b o (kp b o at_) (un.free b o at_ no List.not_mem_nil) out
  slot b o at_ out := ub.slot b o (kp b o at_) out
  free b o at_ no := ub.free b o (kp b o at_) (un.free b o at_ no List.not_mem_nil)
  there b o at_ out := ub.there b o (kp b o at_) out
  tups b xs t := ub.tups b xs (un.tups b xs t)
  frzs b o xs t := ub.frzs b o xs (un.frzs b o xs t)
  tbls b ps t :=
    let ⟨m1, t1⟩ := un.tbls b ps t
    let ⟨m2, t2⟩ := ub.tbls b (ps ++ m1) t1
    ⟨m1 ++ m2, t2.trans (by rw [Array.append_assoc])⟩
theorem cxUpN {P : Program} {w : World} : StX.CXUp (L2N.CX P w) := fun _ _ _ _ _ _ _ _ un kp same ⟨a, B, H', cls, d, e, fl, ok, ub, no, os, bare, want⟩ => ⟨a, B, H', cls, d, e, fl, ok, ub_after un kp ub, no, os.trans same, bare, want⟩
end
theorem cxUp {P : Program} {w : World} {mg : Str → Option Value} : StX.CXUp (CXm P w mg) := fun outer s H s2 H2 E e s' un kp ho h => by
  rcases h with h | h
  · exact .inl (StX.cxUp outer s H s2 H2 _ e s' un kp ho h)
  · exact .inr (cxUpN outer s H s2 H2 _ e s' un kp ho h)
end
end DL
namespace DL
open PySem L2
/-! ### statements -/
inductive Fl (α β : Type) where
  | nx (a : α)
  | rt (d : D)
  | bk (b : β)
  | ct (b : β)
section
variable {m : Type → Type} [Mo m] {α β γ : Type}
def seqF (x : m (Fl α β)) (k : α → m (Fl γ β)) : m (Fl γ β) := do
  match ← x with
  | .nx a => k a
  | .rt d => pure (.rt d)
  | .bk b => pure (.bk b)
  | .ct b => pure (.ct b)
def forF (u : D → Option γ) (xb : α → γ → m (Fl α α)) : List D → α → m (Fl α β)
  | [], a => pure (.nx a)
  | d :: ds, a => do
    let c ← ask (u d)
    match ← xb a c with
    | .nx a' => forF u xb ds a'
    | .ct a' => forF u xb ds a'
    | .bk a' => pure (.nx a')
    | .rt d => pure (.rt d)
end
section
variable (K : PySem.W.Frag) (mg : Str → Option Value) (fx : Fx)
def GxOk (G : List Sl) : Prop := match fx.gx with
  | none => True
  | some g => Wk G g
/-- where an exception leaves a statement -/
def XSt (Hf H : Hp) (σ : L2.St) (s : S) : Prop := match fx.gx with
  | none => Ste (fx.me ++ fx.bag) fx.Hf0 fx.H0 Hf H ∧ BagAt fx.bag H s
  | some g => StS K mg fx Hf H σ g s
def EXS : Exn → S → Prop := fun e s' => ∀ cls dd σ' Hf' H', XSt K mg fx Hf' H' σ' s' → ExIs K mg Hf' H' e cls dd → fx.W cls dd σ' H'
variable {α β : Type}
def FP (Hf : Hp) (ex : α → List Sl) (exb : β → List Sl) (De : Ends) : Fl α β → S → Prop := fun f s' => match f with
  | .nx a => ∀ Hf' H' σ', Sub Hf Hf' → StS K mg fx Hf' H' σ' (ex a) s' → De.nx σ' H'
  | .rt d => ∀ v Hf' H', Ste (fx.me ++ fx.bag) fx.Hf0 fx.H0 Hf' H' → BagAt fx.bag H' s' → RtOk K mg fx.nr fx.H0 Hf' H' d v → De.rt v H'
  | .bk b => ∀ Hf' H' σ', Sub Hf Hf' → StS K mg fx Hf' H' σ' (exb b) s' → De.bk σ' H'
  | .ct b => ∀ Hf' H' σ', Sub Hf Hf' → StS K mg fx Hf' H' σ' (exb b) s' → De.ct σ' H'
variable {m : Type → Type} [Mo m]
def tSX (G : List Sl) (ex : α → List Sl) (exb : β → List Sl) (x : m (Fl α β)) (Hf : Hp) (s : S) (De : Ends) (σ : L2.St) (H : Hp) : Prop :=
  StS K mg fx Hf H σ G s ∧ Mo.wp x s (FP K mg fx Hf ex exb De) (EXS K mg fx)
def tS (G : List Sl) (ex : α → List Sl) (exb : β → List Sl) (x : m (Fl α β)) : TS := fun De σ H => ∃ Hf s, tSX K mg fx G ex exb x Hf s De σ H
end
section
variable {K : PySem.W.Frag} {mg : Str → Option Value} {fx : Fx} {m : Type → Type} [Mo m] {α β γ δ ε : Type} {G G' : List Sl} {ex : α → List Sl} {exb : β → List Sl} {rm : Hp → γ → δ → Prop}
theorem exs_ex {σ : L2.St} {e : Exn} {s : S} (hx : GxOk fx G) (h : EXS K mg fx e s) : EX K mg fx G σ e s := fun cls dd Hf' H' st xi => by
  refine h cls dd σ Hf' H' ?_ xi
  unfold XSt
  unfold GxOk at hx
  cases q : fx.gx with
  | none => exact ⟨st.ste, st.bag⟩
  | some g =>
    rw [q] at hx
    exact st.weak hx
theorem FP.up {Hf Hf1 : Hp} {De : Ends} {f : Fl α β} {s : S} (sb : Sub Hf Hf1) (h : FP K mg fx Hf ex exb De f s) : FP K mg fx Hf1 ex exb De f s := by
  cases f with
  | nx a => exact fun Hf' H' σ' sb' => h Hf' H' σ' (sb.trans sb')
  | rt d => exact h
  | bk b => exact fun Hf' H' σ' sb' => h Hf' H' σ' (sb.trans sb')
  | ct b => exact fun Hf' H' σ' sb' => h Hf' H' σ' (sb.trans sb')
theorem tSX.to {x : m (Fl α β)} {Hf : Hp} {s : S} {σ : L2.St} {H : Hp} {De : Ends} (h : tSX K mg fx G ex exb x Hf s De σ H) : tS K mg fx G ex exb x De σ H := ⟨Hf, s, h⟩
theorem tSX.bind {x : m γ} {k : γ → m (Fl α β)} {Hf : Hp} {s : S} {σ : L2.St} {H : Hp} {De : Ends} (h : tSX K mg fx G ex exb (x >>= k) Hf s De σ H) (hx : GxOk fx G) :
    tX K mg fx G rm x Hf s σ H (fun b H1 => ∃ a Hf1 s1, Sub Hf Hf1 ∧ rm Hf1 a b ∧ tSX K mg fx G ex exb (k a) Hf1 s1 De σ H1) :=
  ⟨h.1, Mo.wp_mono (Mo.wp_bind h.2) (fun a s1 h1 b Hf1 H1 ste bag r => ⟨a, Hf1, s1, ste.sub, r, h.1.step ste bag, Mo.wp_mono h1 (fun f s2 h2 => h2.up ste.sub) fun e s' k => k⟩) fun e s' k => exs_ex hx k⟩
theorem tSX.weak {x : m (Fl α β)} {Hf : Hp} {s : S} {σ : L2.St} {H : Hp} {De : Ends} (h : tSX K mg fx G ex exb x Hf s De σ H) (w : Wk G G') : tSX K mg fx G' ex exb x Hf s De σ H := ⟨h.1.weak w, h.2⟩
theorem tSX.seq {exA : ε → List Sl} {x : m (Fl ε β)} {k : ε → m (Fl α β)} {Hf : Hp} {s : S} {σ : L2.St} {H : Hp} {De : Ends} (h : tSX K mg fx G ex exb (seqF x k) Hf s De σ H) :
    tSX K mg fx G exA exb x Hf s { De with nx := fun σ' H' => ∃ a, tS K mg fx (exA a) ex exb (k a) De σ' H' } σ H :=
  ⟨h.1, Mo.wp_mono (Mo.wp_bind h.2) (fun f s1 h1 => by
    cases f with
    | nx a => exact fun Hf' H' σ' sb st => ⟨a, Hf', s1, st, Mo.wp_mono h1 (fun f s2 h2 => h2.up sb) fun e s' k => k⟩
    | rt d => have z := Mo.wp_pure h1; exact z
    | bk b => have z := Mo.wp_pure h1; exact z
    | ct b => have z := Mo.wp_pure h1; exact z) fun e s' k => k⟩
end
section
variable {X : Cx}
theorem pss_ex {ι : Type} {sts : List Stmt} {t : ι → TS} (h : ∀ i, PSs X sts (t i)) : PSs X sts (fun D σ H => ∃ i, t i D σ H) := ⟨fun pins s σ H D I ⟨i, q⟩ => (h i).run pins s σ H D I q⟩
/-- what a context bears -/
structure Cok (X : Cx) (fx : Fx) (k : Nat) : Prop where
  calm : X.calm = true
  hp : X.stack = X.env :: X.outer → PassesOwn (model X.prog X.w) X.A X.env X.xe
  tk : Takes X fx.W
  rm : Room k X.A
  nd : X.N.Nodup
  gd : X.A.guards = some []
end
section
variable {X : Cx} {fx : Fx} {m : Type → Type} [Mo m] {α β γ δ ε : Type} {G G' : List Sl} {ex : α → List Sl} {exb : β → List Sl} {exA : ε → List Sl} {rest A B : List Stmt} {pos : Pos} {kk : Nat} {x : m D} {k : D → m (Fl α β)} {e : Expr} {i : Nat}
theorem dss_nil {a : α} (w : Wk G (ex a)) : PSs X [] (tS X.K X.mg fx G ex exb (pure (.nx a) : m (Fl α β))) := pssI pss_nil fun D σ H ⟨Hf, s, h⟩ =>
  (Mo.wp_pure h.2) Hf H σ (.refl _) (h.1.weak w)
/-- x = e -/
theorem dss_asg (C : Cok X fx kk) {n : Str} {pos' : Pos} (i : Nat) (he : PE X e (tE X.K X.mg fx G x)) (hr : ∀ d, PSs X rest (tS X.K X.mg fx (G.set i (.im d)) ex exb (k d))) (hi : X.N[i]? = some n := by rfl) (hx : Loc X.env.scope n := by first | exact Or.inl rfl | exact Or.inr rfl)
    (hs : swapsWith e (some (.Name n pos')) pos.line X.env = pure false := by rfl) (hf : X.fn n = true ∨ X.env.scope.names.lookup n = some .local := by first | exact .inl rfl | exact .inr rfl) (hg : GxOk fx G := by first | exact True.intro | repeat' (first | exact True.intro | exact Or.inl rfl | exact Or.inr rfl | refine And.intro ?_ ?_)) :
    PSs X (.Assign [.Name n pos'] e pos :: rest) (tS X.K X.mg fx G ex exb (x >>= k)) := pssI (pss_cons (ps_set C.nd hi hx he hs hf) (pss_ex hr)) fun D σ H ⟨Hf, s, h⟩ =>
  ((h.bind hg).mono fun v H1 ⟨d, Hf1, s1, sb, r, h1⟩ => ⟨d, Hf1, s1, h1.1.set r, h1.2⟩).to
/-- return e -/
theorem dss_ret (he : PE X e (tE X.K X.mg fx G x)) (hnr : fx.nr = false := by rfl) (hg : GxOk fx G := by first | exact True.intro | repeat' (first | exact True.intro | exact Or.inl rfl | exact Or.inr rfl | refine And.intro ?_ ?_)) : PSs X (.Return (some e) pos :: rest) (tS X.K X.mg fx G ex exb (do let d ← x; pure (.rt d))) := pssI (pss_cons (ps_ret he) pss_never) fun D σ H ⟨Hf, s, h⟩ =>
  ((h.bind hg).mono fun v H1 ⟨d, Hf1, s1, sb, r, h1⟩ => (Mo.wp_pure h1.2) v Hf1 H1 h1.1.ste h1.1.bag (by rw [hnr]; exact r)).to
/-- if -/
theorem dss_if {c : Expr} {xc : m Bool} {xa xb : m (Fl ε β)} {k : ε → m (Fl α β)} (hc : PT X c (tT X.K X.mg fx G xc)) (ha : PSs X A (tS X.K X.mg fx G exA exb xa)) (hb : PSs X B (tS X.K X.mg fx G exA exb xb)) (hr : ∀ a, PSs X rest (tS X.K X.mg fx (exA a) ex exb (k a))) (hg : GxOk fx G := by first | exact True.intro | repeat' (first | exact True.intro | exact Or.inl rfl | exact Or.inr rfl | refine And.intro ?_ ?_)) :
    PSs X (.If c A B pos :: rest) (tS X.K X.mg fx G ex exb (do let t ← xc; seqF (if t = true then xa else xb) k)) := pssI (pss_cons (ps_if hc ha hb) (pss_ex hr)) fun D σ H ⟨Hf, s, h⟩ =>
  ((h.bind hg).mono fun v H1 ⟨d, Hf1, s1, sb, r, h1⟩ => by
    cases r
    cases v with
    | true => exact h1.seq.to
    | false => exact h1.seq.to).to
end
/-! ### what is walked -/
section
variable (K : PySem.W.Frag) (mg : Str → Option Value)
def Yl (J : It) (Hf0 : Hp) (ds : List D) : Prop := ds.length ≤ sizeLine ∧ ∀ Hf H, Sub Hf0 Hf → Sub Hf H → ∀ i : Nat,
  (∀ d, ds[i]? = some d → J.go i H ∧ ∀ x H', J.yld i H x H' → ∃ Hf', Ste [] Hf H Hf' H' ∧ Is K mg Hf' d x) ∧ (ds.length ≤ i → J.stop i H)
abbrev tI (fx : Fx) (G : List Sl) {m : Type → Type} [Mo m] (x : m (List D)) : TI := tG K mg fx G (fun Hf ds J => Yl K mg J Hf ds) x
end
section
variable {X : Cx} {fx : Fx} {m : Type → Type} [Mo m] {α β γ : Type} {G G' : List Sl} {ex : α → List Sl} {exb : β → List Sl} {rest body : List Stmt} {pos : Pos} {kk : Nat}
/-- a target: it takes c of the datum (u), and sets slots (st) -/
def PGd (X : Cx) (fx : Fx) (tg : Expr) (g : TG) (u : D → Option γ) (st : List Sl → γ → List Sl) (is : List Nat) : Prop :=
  PG X tg g ∧ ∀ {G : List Sl} {Hf : Hp} {d : D} {v : V} {σ : L2.St} {H : Hp} {s : S} {c : γ} {Q : L2.St → Hp → Prop}, StS X.K X.mg fx Hf H σ G s → Is X.K X.mg Hf d v → u d = some c → (∀ σ', (∀ j, j ∉ is → σ'[j]? = σ[j]?) → σ'.length = σ.length → StS X.K X.mg fx Hf H σ' (st G c) s → Q σ' H) → g v σ H Q
theorem pgd_name (C : Cok X fx kk) (i : Nat) {n : Str} (hi : X.N[i]? = some n := by rfl) (hx : Loc X.env.scope n := by first | exact Or.inl rfl | exact Or.inr rfl) (hf : X.fn n = true ∨ X.env.scope.names.lookup n = some .local := by first | exact .inl rfl | exact .inr rfl) :
    PGd X fx (.Name n pos) (gName i) (fun d => some d) (fun G d => G.set i (.im d)) [i] :=
  ⟨pg_name C.nd hi hx hf, fun {G Hf d v σ H s c Q} st r e q => by
    cases e
    exact q _ (fun j hj => List.getElem?_set_ne (fun z => hj (by simp [z]))) (by simp) (st.set r)⟩
theorem dss_for {ε : Type} {exl : ε → List Sl} {tg iter : Expr} {g : TG} {u : D → Option γ} {st : List Sl → γ → List Sl} {xi : m (List D)} {xb : ε → γ → m (Fl ε ε)} {k : ε → m (Fl α β)} {is : List Nat} (a0 : ε) (C : Cok X fx kk) (hi : PI X tg iter (tI X.K X.mg fx G xi)) (hg : PGd X fx tg g u st is)
    (w : Wk G (exl a0)) (hb : ∀ a c, PSs X body (tS X.K X.mg fx (st (exl a) c) exl exl (xb a c))) (hr : ∀ a, PSs X rest (tS X.K X.mg fx (exl a) ex exb (k a))) (hs : ∀ x, foldedSetIterable iter X.env x = pure x := by intro _; rfl) (hst : X.stack = X.env :: X.outer := by rfl) (hx : GxOk fx G := by first | exact True.intro | repeat' (first | exact True.intro | exact Or.inl rfl | exact Or.inr rfl | refine And.intro ?_ ?_)) :
    PSs X (.For tg iter body [] pos :: rest) (tS X.K X.mg fx G ex exb (do let ds ← xi; seqF (forF u xb ds a0) k)) := by
  refine pssI (pss_cons (ps_for (C.hp hst) C.calm hi hg.1 (pss_ex (ι := ε × γ) (t := fun p => tS X.K X.mg fx (st (exl p.1) p.2) exl exl (xb p.1 p.2)) fun p => hb p.1 p.2) hs) (pss_ex hr)) fun D σ H ⟨Hf, s, h⟩ => ?_
  refine ((h.bind hx).mono fun J H1 ⟨ds, Hf1, s1, sb, yl, h1⟩ => ?_).to
  have h2 := h1.seq (exA := exl)
  obtain ⟨st1, w1⟩ := h2
  refine ⟨fun i m σ H => m = ds.length - i ∧ i ≤ ds.length ∧ ∃ a Hf s, Sub Hf1 Hf ∧ StS X.K X.mg fx Hf H σ (exl a) s ∧
    Mo.wp (forF (β := β) u xb (ds.drop i) a) s (FP X.K X.mg fx Hf exl exb { D with nx := fun σ' H' => ∃ a, tS X.K X.mg fx (exl a) ex exb (k a) D σ' H' }) (EXS X.K X.mg fx), ⟨ds.length, by simp, Nat.zero_le _, a0, Hf1, s1, .refl _, st1.weak w, w1⟩, ?_⟩
  rintro i m σ H ⟨rfl, hi, a, Hf2, s2, sb2, st2, w2⟩
  obtain ⟨y1, y2⟩ := yl.2 Hf2 H sb2 st2.top i
  by_cases hlt : i < ds.length
  · obtain ⟨go, yd⟩ := y1 ds[i] (List.getElem?_eq_getElem hlt)
    rw [List.drop_eq_getElem_cons hlt] at w2
    have w3 := Mo.wp_bind w2
    have w4 := Mo.wp_lift w3
    refine .inr ⟨go, fun σ' H' => i + 1 ≤ ds.length ∧ ∃ a Hf s, Sub Hf1 Hf ∧ StS X.K X.mg fx Hf H' σ' (exl a) s ∧
      Mo.wp (forF (β := β) u xb (ds.drop (i + 1)) a) s (FP X.K X.mg fx Hf exl exb { D with nx := fun σ' H' => ∃ a, tS X.K X.mg fx (exl a) ex exb (k a) D σ' H' }) (EXS X.K X.mg fx), fun σ' H' q => ⟨ds.length - (i + 1), by omega, rfl, q⟩, fun x H' y => ?_⟩
    obtain ⟨Hf3, e3, is3⟩ := yd x H' y
    cases q : u ds[i] with
    | none => rw [q] at w4; exact w4.elim
    | some c =>
      rw [q] at w4
      have st3 := st2.step e3.wide (e3.bag st2.bag)
      refine hg.2 st3 is3 q fun σ' _ _ st4 => ?_
      refine ⟨(a, c), Hf3, s2, st4, ?_⟩
      refine Mo.wp_mono (Mo.wp_bind w4) (fun f s5 h5 => ?_) fun e s' k => k
      cases f with
      | nx a' => exact fun Hf' H' σ' sb' st' => ⟨hlt, a', Hf', s5, (sb2.trans e3.sub).trans sb', st', Mo.wp_mono h5 (fun f s2 h2 => h2.up (e3.sub.trans sb')) fun e s' k => k⟩
      | ct a' => exact fun Hf' H' σ' sb' st' => ⟨hlt, a', Hf', s5, (sb2.trans e3.sub).trans sb', st', Mo.wp_mono h5 (fun f s2 h2 => h2.up (e3.sub.trans sb')) fun e s' k => k⟩
      | bk a' => have z := Mo.wp_pure h5; exact fun Hf' H' σ' sb' => z Hf' H' σ' (e3.sub.trans sb')
      | rt d => have z := Mo.wp_pure h5; exact z
  · have e : i = ds.length := by omega
    subst e
    refine .inl ⟨y2 (Nat.le_refl _), ?_⟩
    rw [List.drop_length] at w2
    exact (Mo.wp_pure w2) Hf2 H σ (.refl _) st2
end
end DL
namespace DL
open PySem L2
/-! ### defs -/
def runR (nr : Bool) : R (Fl Unit Empty) → R D
  | .ok (.nx _) => if nr = true then .stuck else .ok .non
  | .ok (.rt d) => .ok d
  | .ok (.bk b) => b.elim
  | .ok (.ct b) => b.elim
  | .ex e => .ex e
  | .stuck => .stuck
def runM (nr : Bool) (x : M (Fl Unit Empty)) : M D := fun s => match x s with
  | .ok (.nx _) s => if nr = true then .stuck else .ok .non s
  | .ok (.rt d) s => .ok d s
  | .ok (.bk b) _ => b.elim
  | .ok (.ct b) _ => b.elim
  | .ex e s => .ex e s
  | .stuck => .stuck
def unG (N : List Str) : List Sl := N.map fun _ => .un
def G0 (N : List Str) (ds : List D) : List Sl := ds.map Sl.im ++ List.replicate (N.length - ds.length) .un
def G1 (N : List Str) (ds : List D) : List Sl := .bg :: (ds.map Sl.im ++ List.replicate (N.length - ds.length - 1) .un)
abbrev fxE (bag : List Addr) (nr : Bool) (H Hf : Hp) (E : XK) : Fx := ⟨bag, H, Hf, fun cls d _ H' => E cls d H', none, nr, [], []⟩
section
variable (K : PySem.W.Frag) (mg : Str → Option Value)
def spR (nr : Bool) (n : Nat) (g : List D → R D) : Sp := fun vs H Q E => vs.length = n ∧ ∃ Hf ds, Sub Hf H ∧ IsL K mg Hf ds vs ∧ (match g ds with
  | .ok d => ∀ v Hf' H', Ste [] Hf H Hf' H' → RtOk K mg nr H Hf' H' d v → Q v H'
  | .ex e => ∀ cls dd Hf' H', Ste [] Hf H Hf' H' → ExIs K mg Hf' H' e cls dd → E cls dd H'
  | .stuck => False)
def spM (nr : Bool) (n : Nat) (g : List D → M D) : Sp := fun vs H Q E => vs.length = n ∧ ∃ bag b r Hf ds vs' s, bag = b :: r ∧ vs = .ref b :: vs' ∧ Sub Hf H ∧ (∀ b ∈ bag, Hf b = none ∧ H b ≠ none) ∧ BagAt bag H s ∧ IsL K mg Hf ds vs' ∧ (match g ds s with
  | .ok d s' => ∀ v Hf' H', Ste bag Hf H Hf' H' → BagAt bag H' s' → RtOk K mg nr H Hf' H' d v → Q v H'
  | .ex e s' => ∀ cls dd Hf' H', Ste bag Hf H Hf' H' → BagAt bag H' s' → ExIs K mg Hf' H' e cls dd → E cls dd H'
  | .stuck => False)
end
theorem start_at {N : List Str} {vs : List V} {i : Nat} {v : V} (h : vs[i]? = some v) : (start N vs)[i]? = some (some v) := by
  unfold L2.start
  have hl : i < vs.length := (List.getElem?_eq_some_iff.mp h).1
  rw [List.getElem?_append_left (by simpa using hl), List.getElem?_map, h]
  rfl
theorem start_len {N : List Str} {vs : List V} (h : vs.length ≤ N.length) : (start N vs).length = N.length := by
  unfold L2.start
  simp
  omega
theorem isOw_im {ds : List D} {n i : Nat} {x : Sl} (h : (ds.map Sl.im ++ List.replicate n .un)[i]? = some x) (o : isOw x = true) : False := by
  have hm := List.mem_of_getElem? h
  rcases List.mem_append.mp hm with hm | hm
  · obtain ⟨d, _, rfl⟩ := List.mem_map.mp hm
    cases o
  · have := List.eq_of_mem_replicate hm
    subst this
    cases o
section
variable {K : PySem.W.Frag} {mg : Str → Option Value}
theorem slOk_G0 {fx : Fx} {Hf H : Hp} {ds : List D} {vs : List V} {N : List Str} {n : Nat} (l : IsL K mg Hf ds vs) {i : Nat} {x : Sl} (e : (ds.map Sl.im ++ List.replicate n .un)[i]? = some x) : SlOk K mg fx Hf H (vs[i]?.map some) x := by
  by_cases h : i < ds.length
  · rw [List.getElem?_append_left (by simpa using h), List.getElem?_map, List.getElem?_eq_getElem h] at e
    cases e
    obtain ⟨v, hv, hi⟩ := l.get (List.getElem?_eq_getElem h)
    exact ⟨v, by rw [hv]; rfl, hi⟩
  · rw [List.getElem?_append_right (by simpa using Nat.le_of_not_lt h)] at e
    have := List.eq_of_mem_replicate (List.mem_of_getElem? e)
    subst this
    trivial
theorem StS.init0 {nr : Bool} {Hf H : Hp} {E : XK} {ds : List D} {vs : List V} {N : List Str} {s : S} (sb : Sub Hf H) (l : IsL K mg Hf ds vs) (hn : vs.length ≤ N.length) : StS K mg (fxE [] nr H Hf E) Hf H (start N vs) (G0 N ds) s := by
  refine ⟨.refl sb, trivial, fun b hb => (by cases hb), ?_, fun i x e => ?_, fun i j x y p _ ex _ ox _ => (isOw_im ex ox).elim⟩
  · rw [start_len hn]
    unfold G0
    have := l.len
    simp
    omega
  · have q := slOk_G0 (fx := fxE [] nr H Hf E) (H := H) (N := N) l e
    cases x with
    | un => trivial
    | im d =>
      obtain ⟨v, hv, hi⟩ := q
      refine ⟨v, ?_, hi⟩
      cases h : vs[i]? with
      | none => rw [h] at hv; cases hv
      | some w => rw [h] at hv; cases hv; exact start_at h
    | ow ds => exact (isOw_im e rfl).elim
    | od ks ds => exact (isOw_im e rfl).elim
    | ob ns ds => exact (isOw_im e rfl).elim
    | bg =>
      obtain ⟨b, r, e, _⟩ := q
      cases e
theorem StS.init1 {nr : Bool} {Hf H : Hp} {E : XK} {ds : List D} {vs : List V} {N : List Str} {s : S} {bag : List Addr} {b : Addr} {r : List Addr} (eb : bag = b :: r) (sb : Sub Hf H) (hb : ∀ b ∈ bag, Hf b = none ∧ H b ≠ none) (bg : BagAt bag H s) (l : IsL K mg Hf ds vs) (hn : vs.length + 1 ≤ N.length) :
    StS K mg (fxE bag nr H Hf E) Hf H (start N (.ref b :: vs)) (G1 N ds) s := by
  refine ⟨.refl sb, bg, fun b m => ⟨(hb b m).1, (hb b m).2, fun z => nomatch z⟩, ?_, fun i x e => ?_, fun i j x y p _ ex _ ox _ => ?_⟩
  · rw [start_len (by simpa using hn)]
    unfold G1
    have := l.len
    simp
    omega
  · cases i with
    | zero =>
      cases e
      exact ⟨b, r, eb, start_at rfl⟩
    | succ i =>
      have e' : (ds.map Sl.im ++ List.replicate (N.length - ds.length - 1) .un)[i]? = some x := e
      have q := slOk_G0 (fx := fxE bag nr H Hf E) (H := H) (N := N) l e'
      cases x with
      | un => trivial
      | im d =>
        obtain ⟨v, hv, hi⟩ := q
        refine ⟨v, ?_, hi⟩
        cases h : vs[i]? with
        | none => rw [h] at hv; cases hv
        | some w => rw [h] at hv; cases hv; exact start_at (by simpa using h)
      | ow ds => exact (isOw_im e' rfl).elim
      | od ks ds => exact (isOw_im e' rfl).elim
      | ob ns ds => exact (isOw_im e' rfl).elim
      | bg =>
        have hm := List.mem_of_getElem? e'
        rcases List.mem_append.mp hm with hm | hm
        · obtain ⟨d, _, z⟩ := List.mem_map.mp hm
          cases z
        · have := List.eq_of_mem_replicate hm
          cases this
  · cases i with
    | zero => cases ex; cases ox
    | succ i => exact (isOw_im (n := N.length - ds.length - 1) (ds := ds) (i := i) ex ox).elim
end
/-- a def's promise where no repr is under way -/
structure FnG (P : Program) (w : World) (K : PySem.W.Frag) (mg : Str → Option Value) (base : Heap) (k : Nat) (f : Addr) (fd : FuncData) (ps : List Str) (sp : Sp) : Prop where
  len : ∀ vs H Q E, sp vs H Q E → vs.length = ps.length
  run : ∀ (A : Around) (outer : List Env) (s : Shared) (H : Hp) (args : Args) (us : List Value) (vs : List V) (Q : VK) (E : XK), A.guards = some [] → Room k A → Env0 P w K mg base A outer s H → BindsTo s fd args (ps.zip us) → Vals vs us → sp vs H Q E →
    codeAny (model P w) A (.call (.ref f) args) (CR (CXm P w mg) outer P w H s Q E) s
/-- a call's end, for the caller -/
theorem ends_call {X : Cx} {pins : List (Addr × Obj)} {σ : L2.St} {H : Hp} {s s' : Shared} {Q : VK} {E : XK} {r : PySem.Result} (I : Inv X pins σ H s) (hx : PassesAt (CXm X.prog X.w X.mg) X σ E) (hq : CR (CXm X.prog X.w X.mg) X.stack X.prog X.w H s Q E r s') :
    match r with
    | .ok (.ret u) => EP X pins σ Q u s'
    | .ok _ => False
    | .error e => X.xe e s' := by
  cases r with
  | error e => exact hx pins H s e s' I hq
  | ok fl => cases fl <;> first | exact I.after hq | exact hq
theorem run_g {X : Cx} {k : Nat} {f : Addr} {fd : FuncData} {ps : List Str} {sp : Sp} {dvs : List V} {ds : List Value} {E : L2.St → XK} {pins : List (Addr × Obj)} {σ : L2.St} {H : Hp} {s : Shared} {Q : VK} {us : List Value} {vs : List V} (F : FnG X.prog X.w X.K X.mg X.base k f fd ps sp) (hg : X.A.guards = some []) (hr : Room k X.A) (hb : Binds X.K fd ps ds) (hd : Vals dvs ds)
    (hx : PassesAt (CXm X.prog X.w X.mg) X σ (E σ)) (I : Inv X pins σ H s) (r : Vals vs us) (h : sp (vs ++ dvs) H Q (E σ)) : wpAny (model X.prog X.w) X.A (call (.ref f) us) (EP X pins σ Q) X.xe s := by
  have ra := r.append hd
  have hl := F.len _ _ _ _ h
  rw [ra.length] at hl
  refine wpAny_call (codeAny_mono (F.run X.A X.stack s H ⟨us, []⟩ (us ++ ds) (vs ++ dvs) Q (E σ) hg hr I.env0 (hb s us I.kIn hl) ra h) fun r s' hq => ?_)
  have z := ends_call I hx hq
  cases r with
  | error e => exact z
  | ok fl => cases fl <;> first | exact z | exact z.elim
theorem pe_callG {X : Cx} {k : Nat} {f : Addr} {fd : FuncData} {ps : List Str} {sp : Sp} {dvs : List V} {ds : List Value} {E : L2.St → XK} {x : Str} {p pos : Pos} {e : Expr} {es : List Expr} {t : TA} (F : FnG X.prog X.w X.K X.mg X.base k f fd ps sp) (hgd : X.A.guards = some []) (hr : Room k X.A) (hg : Gl X x) (hm : X.mg x = some (.ref f)) (hk : PySem.W.keepIn X.K (.ref f) = true) (hb : Binds X.K fd ps ds) (hd : Vals dvs ds)
    (hx : ∀ σ, PassesAt (CXm X.prog X.w X.mg) X σ (E σ)) (ha : PA X (e :: es) t) (hdb : (x == ("__debug__" : Str)) = false := by decide) (he : starEach (e :: es) X.env = (false, eval e X.env) :: starEach es X.env := by rfl) (hpl : (backTo pos (starEach es X.env)).any (·.1) = false := by rfl) :
    PE X (.Call (.Name x p) (e :: es) [] pos) (fun σ H Q => t σ H fun vs H1 => sp (vs ++ dvs) H1 Q (E σ)) := ⟨fun pins s σ H Q I h =>
  wpAny_Call_Name_kw (ld_glob I hg hm (PySem.W.callWith_K (h₀ := X.base) I.ok.mod.kin hk (thn (ha.run pos pins s σ H _ I h) fun us s1 ⟨vs, H1, I1, r, q⟩ => ⟨I1.kIn, run_g F hgd hr hb hd (hx σ) I1 r q⟩) he hpl) hdb)⟩
section
variable {P : Program} {w : World} {K : PySem.W.Frag} {mg : Str → Option Value} {base : Heap}
open PyProof.Rows PySem.Spec in
/-- a def by its body -/
theorem fn_g {x qual : Str} {st : Stmt} {f : Addr} {fd : FuncData} {N ps : List Str} {k : Nat} {sp : Sp} (F : Fun K x qual st f fd) (Sc : FnScope N ps (defScope st)) (len : ∀ vs H Q E, sp vs H Q E → vs.length = ps.length)
    (hbody : ∀ (cdv : Value) (A : Around) (outer : List Env) (s : Shared) (H : Hp) (vs : List V) (Q : VK) (E : XK), A.guards = some [] → Room k (A.deeper (envOfC qual (defScope st) s.heap.objs.size f cdv)) → sp vs H Q E →
      ∃ t, PSs (cxOf (CXm P w mg) P w K mg base N qual (defScope st) f cdv A outer s H E) (defBody st) t ∧ t { nx := fun _ H' => Q .non H', rt := Q } (start N vs) H) : FnG P w K mg base (k + 1) f fd ps sp := by
  refine ⟨len, fun A outer s H args us vs Q E gd hr e0 hb r hsp => ?_⟩
  obtain ⟨oc, od, kV, doc, pm, an, cdv, ct, osl, rfl, lk, hcd⟩ := F.ex
  have kp := fun b o e => (e0.bs b o e).1
  have hk : ∀ y ∈ ps.zip us, (defScope st).names.lookup y.1 = some .local ∨ ((defScope st).names.lookup y.1 = some .cell ∧ ((cellsFrom (s.heap.objs.size + 1) (defScope st).names []).lookup y.1).isSome = true) := fun y hy =>
    (Sc.par y.1 (List.of_mem_zip (a := y.1) (b := y.2) hy).1).imp (fun q => q) fun q => ⟨q, PySem.W.cellsFrom_some _ _ _ (.inl q)⟩
  refine codeAny_call_function hr.depth (e0.mod.kin.keeps kp _ _ lk) rfl Sc.co Sc.gen rfl (PySem.W.codeRec_of (e0.mod.kin.keeps kp) hcd) (hb _ _ _ _ (wpAny_newFunctionEnv_cells Sc.kind hk fun env he s1 x => ?_))
  subst he
  obtain ⟨t, ht, hq⟩ := hbody cdv A outer s H vs Q E gd (hr.deeper _) hsp
  have I : Inv (cxOf (CXm P w mg) P w K mg base N qual (defScope st) f cdv A outer s H E) [] (start N vs) H s1 := inv_start Sc hr.hd e0 (len _ _ _ _ hsp) r x
  refine ⟨(e0.mod.nolimit.keeps kp).keeps x.toInCall.keep, codeAny_func (wpAny_mono (ht.run [] s1 (start N vs) H _ I hq) (fun fl s' hs => ?_) fun e s' hs => hs)⟩
  cases fl with
  | ret u =>
    obtain ⟨v, σ', H', J, rv, q⟩ := hs
    exact ⟨v, H', J.os, J.bare, J.base, J.hok, rv, q⟩
  | next =>
    obtain ⟨σ', H', J, q⟩ := hs
    exact ⟨.non, H', J.os, J.bare, J.base, J.hok, rfl, q⟩
  | brk => exact hs.elim fun _ h => h.elim fun _ h => h.2.elim
  | cont => exact hs.elim fun _ h => h.elim fun _ h => h.2.elim
/-- a def without a bag -/
theorem fnR {nr : Bool} {x qual : Str} {st : Stmt} {f : Addr} {fd : FuncData} {N ps : List Str} {k n : Nat} {g : List D → R D} (F : Fun K x qual st f fd) (Sc : FnScope N ps (defScope st)) (hn : ps.length = n) (hN : n ≤ N.length)
    (hb : ∀ (cdv : Value) (A : Around) (outer : List Env) (s : Shared) (H Hf : Hp) (E : XK) (ds : List D), Cok (cxOf (CXm P w mg) P w K mg base N qual (defScope st) f cdv A outer s H E) (fxE [] nr H Hf E) k → ds.length = n →
      ∃ body : R (Fl Unit Empty), PSs (cxOf (CXm P w mg) P w K mg base N qual (defScope st) f cdv A outer s H E) (defBody st)
        (tS (cxOf (CXm P w mg) P w K mg base N qual (defScope st) f cdv A outer s H E).K (cxOf (CXm P w mg) P w K mg base N qual (defScope st) f cdv A outer s H E).mg (fxE [] nr H Hf E) (G0 N ds) (fun _ => unG N) Empty.elim body) ∧ g ds = runR nr body) :
    FnG P w K mg base (k + 1) f fd ps (spR K mg nr n g) := by
  refine fn_g F Sc (fun vs H Q E h => h.1.trans hn.symm) (fun cdv A outer s H vs Q E gd hr h => ?_)
  obtain ⟨hl, Hf, ds, sb, l, q⟩ := h
  have C : Cok (cxOf (CXm P w mg) P w K mg base N qual (defScope st) f cdv A outer s H E) (fxE [] nr H Hf E) k := ⟨rfl, fun _ => passes_of rfl, takes_of rfl rfl rfl rfl, hr, Sc.nd, gd⟩
  obtain ⟨body, hp, hg⟩ := hb cdv A outer s H Hf E ds C (l.len.trans hl)
  refine ⟨_, hp, Hf, ⟨0, 0, 0, [], false⟩, .init0 sb l (by omega), ?_⟩
  rw [hg] at q
  show R.wp body _ _ _
  cases body with
  | ok f =>
    cases f with
    | nx a =>
      cases nr with
      | true => exact (show False from q).elim
      | false => exact fun Hf' H' σ' _ st => q .non Hf' H' st.ste (rfl : V.non = V.non)
    | rt d => exact fun v Hf' H' st _ i => q v Hf' H' st i
    | bk b => exact b.elim
    | ct b => exact b.elim
  | ex e => exact fun cls dd σ' Hf' H' st x => q cls dd Hf' H' st.1 x
  | stuck => exact q
theorem fnM {nr : Bool} {x qual : Str} {st : Stmt} {f : Addr} {fd : FuncData} {N ps : List Str} {k n : Nat} {g : List D → M D} (F : Fun K x qual st f fd) (Sc : FnScope N ps (defScope st)) (hn : ps.length = n + 1) (hN : n + 1 ≤ N.length)
    (hb : ∀ (cdv : Value) (A : Around) (outer : List Env) (s : Shared) (H Hf : Hp) (bag : List Addr) (E : XK) (ds : List D), Cok (cxOf (CXm P w mg) P w K mg base N qual (defScope st) f cdv A outer s H E) (fxE bag nr H Hf E) k → ds.length = n →
      ∃ body : M (Fl Unit Empty), PSs (cxOf (CXm P w mg) P w K mg base N qual (defScope st) f cdv A outer s H E) (defBody st)
        (tS (cxOf (CXm P w mg) P w K mg base N qual (defScope st) f cdv A outer s H E).K (cxOf (CXm P w mg) P w K mg base N qual (defScope st) f cdv A outer s H E).mg (fxE bag nr H Hf E) (G1 N ds) (fun _ => unG N) Empty.elim body) ∧ g ds = runM nr body) :
    FnG P w K mg base (k + 1) f fd ps (spM K mg nr (n + 1) g) := by
  refine fn_g F Sc (fun vs H Q E h => h.1.trans hn.symm) (fun cdv A outer s H vs Q E gd hr h => ?_)
  obtain ⟨hl, bag, b, r, Hf, ds, vs', s0, eb, rfl, sb, hbb, bg, l, q⟩ := h
  have C : Cok (cxOf (CXm P w mg) P w K mg base N qual (defScope st) f cdv A outer s H E) (fxE bag nr H Hf E) k := ⟨rfl, fun _ => passes_of rfl, takes_of rfl rfl rfl rfl, hr, Sc.nd, gd⟩
  have hl' : vs'.length = n := by simpa using hl
  obtain ⟨body, hp, hg⟩ := hb cdv A outer s H Hf bag E ds C (l.len.trans hl')
  refine ⟨_, hp, Hf, s0, .init1 eb sb hbb bg l (by omega), ?_⟩
  rw [hg] at q
  show (body s0).wp _ _
  have e : runM nr body s0 = (match body s0 with
    | .ok (.nx _) s => if nr = true then .stuck else .ok .non s
    | .ok (.rt d) s => .ok d s
    | .ok (.bk b) _ => b.elim
    | .ok (.ct b) _ => b.elim
    | .ex e s => .ex e s
    | .stuck => .stuck) := rfl
  rw [e] at q
  cases z : body s0 with
  | ok f s1 =>
    rw [z] at q
    cases f with
    | nx a =>
      cases nr with
      | true => exact (show False from q).elim
      | false => exact fun Hf' H' σ' _ st => q .non Hf' H' st.ste st.bag (rfl : V.non = V.non)
    | rt d => exact fun v Hf' H' st bg i => q v Hf' H' st bg i
    | bk b => exact b.elim
    | ct b => exact b.elim
  | ex e s1 => rw [z] at q; exact fun cls dd σ' Hf' H' st x => q cls dd Hf' H' st.1 st.2 x
  | stuck => rw [z] at q; exact q
end
section
variable {X : Cx} {fx : Fx} {m : Type → Type} [Mo m] {G : List Sl} {es : List Expr} {pos : Pos} {ys : m (List D)} {kk j n : Nat} {g : List D → R D} {f : Addr} {fd : FuncData} {ps : List Str} {nm : Str} {p : Pos} {e : Expr}
/-- a call of a def without a bag -/
theorem fn_core {vs : List V} {ds : List D} {Hf : Hp} {s : S} {σ : L2.St} {H : Hp} {Q : VK} (hn : vs.length = n) (r : IsL X.K X.mg Hf ds vs) (h : tX X.K X.mg fx G (fun H d v => Is X.K X.mg H d v) (Mo.lift (g ds) : m D) Hf s σ H Q) : spR X.K X.mg false n g vs H Q (WE fx.W σ) := by
  have w := Mo.wp_lift h.2
  refine ⟨hn, Hf, ds, h.1.top, r, ?_⟩
  cases z : g ds with
  | ok d => rw [z] at w; exact fun v Hf' H' st i => w v Hf' H' st.wide (st.bag h.1.bag) i
  | ex e => rw [z] at w; exact fun cls dd Hf' H' st x => w cls dd Hf' H' (h.1.step st.wide (st.bag h.1.bag)) x
  | stuck => rw [z] at w; exact w
theorem de_fn (C : Cok X fx kk) (F : FnG X.prog X.w X.K X.mg X.base j f fd ps (spR X.K X.mg false n g)) (hm : X.mg nm = some (.ref f)) (hk : PySem.W.keepIn X.K (.ref f) = true) (hb : Binds X.K fd ps []) (ha : PA X (e :: es) (tA X.K X.mg fx G ys)) (hn : ∀ ds : List D, g ds ≠ .stuck → ds.length = n)
    (hj : j ≤ kk := by decide) (hg : Gl X nm := by rfl) (hdb : (nm == ("__debug__" : Str)) = false := by decide) (he : starEach (e :: es) X.env = (false, eval e X.env) :: starEach es X.env := by rfl) (hpl : (backTo pos (starEach es X.env)).any (·.1) = false := by rfl) :
    PE X (.Call (.Name nm p) (e :: es) [] pos) (tE X.K X.mg fx G (do let ds ← ys; Mo.lift (g ds))) := peI (pe_callG (E := WE fx.W) F C.gd (C.rm.mono hj) hg hm hk hb .nil (fun σ => passAt C.tk σ) ha hdb he hpl) fun σ H Q ⟨Hf, s, h⟩ =>
  (h.bind.mono fun vs H1 ⟨ds, Hf1, s1, sb, r, h1⟩ => by
    rw [List.append_nil]
    exact fn_core (by
    have w := Mo.wp_lift h1.2
    rw [← r.len]
    refine hn ds fun z => ?_
    rw [z] at w
    exact w) r h1).to
end
section
variable {X : Cx} {fx : Fx} {G : List Sl} {es : List Expr} {pos : Pos} {ys : M (List D)} {kk j n : Nat} {g : List D → M D} {f : Addr} {fd : FuncData} {ps : List Str} {nm bn : Str} {p bp : Pos}
/-- a call of a def with the bag -/
theorem de_fnM (C : Cok X fx kk) (i : Nat) (F : FnG X.prog X.w X.K X.mg X.base j f fd ps (spM X.K X.mg false (n + 1) g)) (hm : X.mg nm = some (.ref f)) (hk : PySem.W.keepIn X.K (.ref f) = true) (hb : Binds X.K fd ps []) (ha : PA X es (tA X.K X.mg fx G ys)) (hn : ∀ ds s, g ds s ≠ .stuck → ds.length = n)
    (hG : G[i]? = some .bg := by rfl) (hN : X.N[i]? = some bn := by rfl) (hv : Vis X.env.scope bn := by first | exact Or.inl rfl | exact Or.inr (Or.inl rfl) | exact Or.inr (Or.inr rfl))
    (hj : j ≤ kk := by decide) (hg : Gl X nm := by rfl) (hdb : (nm == ("__debug__" : Str)) = false := by decide) (he : starEach (.Name bn bp :: es) X.env = (false, eval (.Name bn bp) X.env) :: starEach es X.env := by rfl) (hpl : (backTo pos (starEach es X.env)).any (·.1) = false := by rfl)
    (hd : (bn == ("__debug__" : Str)) = false := by decide) (hcd : (bn == ("__classdict__" : Str)) = false := by decide) :
    PE X (.Call (.Name nm p) (.Name bn bp :: es) [] pos) (tE X.K X.mg fx G (do let ds ← ys; g ds)) :=
  peI (pe_callG (E := WE fx.W) F C.gd (C.rm.mono hj) hg hm hk hb .nil (fun σ => passAt C.tk σ) (pa_cons (pe_var hN hv hd hcd) ha he) hdb he hpl) fun σ H Q ⟨Hf, s, h⟩ => by
    obtain ⟨b, r, eb, ev⟩ := h.1.sl i _ hG
    refine ⟨.ref b, ev, (h.bind.mono fun vs H1 ⟨ds, Hf1, s1, sb, rl, h1⟩ => ?_).to⟩
    show spM X.K X.mg false (n + 1) g ((.ref b :: vs) ++ []) H1 Q (WE fx.W σ)
    rw [List.append_nil]
    have w : (g ds s1).wp _ _ := h1.2
    have hlen : ds.length = n := hn ds s1 fun z => by rw [z] at w; exact w
    refine ⟨by rw [List.length_cons, ← rl.len, hlen], fx.bag, b, r, Hf1, ds, vs, s1, eb, rfl, h1.1.top, h1.1.bagf, h1.1.bag, rl, ?_⟩
    cases z : g ds s1 with
    | ok d s' => rw [z] at w; exact fun v Hf' H' st bg i => w v Hf' H' st bg i
    | ex e s' => rw [z] at w; exact fun cls dd Hf' H' st bg x => w cls dd Hf' H' (h1.1.step st bg) x
    | stuck => rw [z] at w; exact w
end
end DL
namespace DL
open PySem L2
/-! ### plain data -/
mutual
def toPy : D → Option PyData
  | .non => some .none
  | .bl b => some (.bool b)
  | .int i => some (.int i)
  | .str s => some (.str ⟨s.toArray⟩)
  | .tup ds => (toPyL ds).map .tuple
  | .lst ds => (toPyL ds).map .list
  | _ => none
def toPyL : List D → Option (List PyData)
  | [] => some []
  | d :: ds => do
    let x ← toPy d
    let xs ← toPyL ds
    return x :: xs
end
section
variable {K : PySem.W.Frag} {mg : Str → Option Value}
mutual
theorem Is.dp {H : Hp} : ∀ {d : D} {v : V} {p : PyData}, Is K mg H d v → toPy d = some p → Dp K H v p
  | .non, _, _, h, e => by cases e; cases h; exact .non
  | .bl b, _, _, h, e => by cases e; cases h; exact .bl b
  | .int i, _, _, h, e => by cases e; cases h; exact .int i
  | .str s, _, _, h, e => by cases e; cases h.1; exact .str _
  | .tup ds, _, _, h, e => by
    obtain ⟨_, a, vs, rfl, t, l⟩ := h
    unfold toPy at e
    cases q : toPyL ds with
    | none => rw [q] at e; cases e
    | some ps => rw [q] at e; cases e; exact .tup t (IsL.dp l q)
  | .lst ds, _, _, h, e => by
    obtain ⟨_, a, vs, rfl, t, l⟩ := h
    unfold toPy at e
    cases q : toPyL ds with
    | none => rw [q] at e; cases e
    | some ps => rw [q] at e; cases e; exact .lst (.inl (.inl t)) (IsL.dp l q)
  | .dic _ _, _, _, h, e => by unfold toPy at e; cases e
  | .ins _ _ _, _, _, h, e => by unfold toPy at e; cases e
  | .scr _, _, _, h, e => by unfold toPy at e; cases e
  | .xc _ _ _ _, _, _, h, e => by unfold toPy at e; cases e
theorem IsL.dp {H : Hp} : ∀ {ds : List D} {vs : List V} {ps : List PyData}, IsL K mg H ds vs → toPyL ds = some ps → DpAll K H vs ps
  | [], _, _, h, e => by cases h; unfold toPyL at e; cases e; exact .nil
  | d :: ds, _, _, h, e => by
    obtain ⟨v, r, rfl, i, l⟩ := h
    unfold toPyL at e
    cases q : toPy d with
    | none => rw [q] at e; cases e
    | some x =>
      cases q2 : toPyL ds with
      | none => rw [q, q2] at e; cases e
      | some xs => rw [q, q2] at e; cases e; exact .cons (Is.dp i q) (IsL.dp l q2)
end
end
/-- == of plain data -/
def eqS (a b : D) : Option Bool := match toPy a, toPy b with
  | some x, some y => if SeqAt.shaped x && SeqAt.shaped y then some (PyData.eqv x y) else none
  | _, _ => none
def eqP : D → D → Option Bool
  | .str x, .str y => some (decide (x = y))
  | .int x, .int y => some (decide (x = y))
  | .bl x, .bl y => some (decide (x = y))
  | .non, .non => some true
  | a, b => eqS a b
def eqD (a b : D) : Option D := (eqP a b).map .bl
def neD (a b : D) : Option D := (eqP a b).map fun x => .bl (!x)
def addD : D → D → Option D
  | .int i, .int j => some (.int (i + j))
  | .str a, .str b => if a.length + b.length ≤ sizeLine then some (.str (a ++ b)) else none
  | .lst a, .lst b => if a.length + b.length ≤ sizeLine then some (.lst (a ++ b)) else none
  | .tup a, .tup b => if a.length + b.length ≤ sizeLine then some (.tup (a ++ b)) else none
  | _, _ => none
def subD : D → D → Option D
  | .int i, .int j => some (.int (i - j))
  | _, _ => none
def mulD : D → D → Option D
  | .int i, .int j => if i.natAbs.log2 + j.natAbs.log2 < 1000000 then some (.int (i * j)) else none
  | .str a, .int k => if 0 ≤ k ∧ k < 1000000 ∧ a.length * k.toNat ≤ 1000000 then some (.str (List.replicate k.toNat a).flatten) else none
  | .lst a, .int k => if 0 ≤ k ∧ k < 1000000 ∧ a.length * k.toNat ≤ 1000000 then some (.lst (List.replicate k.toNat a).flatten) else none
  | _, _ => none
def fdivD : D → D → Option D
  | .int i, .int j => if 0 < j ∧ j.natAbs.log2 < 9000 then some (.int (i / j)) else none
  | _, _ => none
def modD : D → D → Option D
  | .int i, .int j => if 0 < j then some (.int (i % j)) else none
  | _, _ => none
/-- < of data that are alike -/
def ltP (a b : D) : Option Bool := match toPy a, toPy b with
  | some x, some y => if PySem.W.alike x y && decide (x.depth ≤ 60) && (isNonP x == false) then some (PySem.W.dataLt x y) else none
  | _, _ => none
where isNonP : PyData → Bool
  | .none => true
  | _ => false
def ltD : D → D → Option D
  | .int i, .int j => some (.bl (decide (i < j)))
  | .str a, .str b => some (.bl (decide (a < b)))
  | a, b => (ltP a b).map .bl
def leD : D → D → Option D
  | .int i, .int j => some (.bl (decide (i ≤ j)))
  | a, b => (leP a b).map .bl
where leP (a b : D) : Option Bool := match toPy a, toPy b with
  | some x, some y => if PySem.W.alike x y && decide (x.depth ≤ 60) && (ltP.isNonP x == false) then some (!PySem.W.dataLt y x) else none
  | _, _ => none
def gtD : D → D → Option D
  | .int i, .int j => some (.bl (decide (j < i)))
  | a, b => (gtP a b).map .bl
where gtP (a b : D) : Option Bool := match toPy a, toPy b with
  | some x, some y => if PySem.W.alike x y && decide (x.depth ≤ 60) && (ltP.isNonP x == false) then some (PySem.W.dataLt y x) else none
  | _, _ => none
def geD : D → D → Option D
  | .int i, .int j => some (.bl (decide (j ≤ i)))
  | a, b => (geP a b).map .bl
where geP (a b : D) : Option Bool := match toPy a, toPy b with
  | some x, some y => if PySem.W.alike x y && decide (x.depth ≤ 60) && (ltP.isNonP x == false) then some (!PySem.W.dataLt x y) else none
  | _, _ => none
def isNone : D → Option Bool
  | .non => some true
  | .bl _ => some false
  | .int _ => some false
  | .str _ => some false
  | .tup _ => some false
  | .lst _ => some false
  | .dic _ _ => some false
  | .ins _ _ _ => some false
  | .scr _ => some false
  | .xc _ _ _ _ => some false
/-- is: of None, of truth values -/
def isD : D → D → Option D
  | a, .non => (isNone a).map .bl
  | .bl a, .bl b => some (.bl (decide (a = b)))
  | _, _ => none
def isNotD : D → D → Option D
  | a, .non => (isNone a).map fun x => .bl (!x)
  | .bl a, .bl b => some (.bl (!decide (a = b)))
  | _, _ => none
/-- x in y -/
def inP : D → D → Option Bool
  | .str [c], .str z => some (decide (c ∈ z))
  | d, .lst ds => match toPy d, toPy (.lst ds) with
    | some x, some (.list ys) => if SeqAt.shaped x && SeqAt.shaped (.list ys) then some (ys.any fun z => PyData.eqv z x) else none
    | _, _ => none
  | d, .tup ds => match toPy d, toPy (.tup ds) with
    | some x, some (.tuple ys) => if SeqAt.shaped x && SeqAt.shaped (.tuple ys) then some (ys.any fun z => PyData.eqv z x) else none
    | _, _ => none
  | _, _ => none
def inD (a b : D) : Option D := (inP a b).map .bl
def notInD (a b : D) : Option D := (inP a b).map fun x => .bl (!x)
section
variable {X : Cx}
theorem str_tl (s : List Nat) : (⟨s.toArray⟩ : Str).cps.toList = s := by simp
theorem str_len (s : List Nat) : (⟨s.toArray⟩ : Str).length = s.length := by
  show s.toArray.size = s.length
  simp
theorem str_app (a b : List Nat) : (⟨a.toArray⟩ ++ ⟨b.toArray⟩ : Str) = ⟨(a ++ b).toArray⟩ := by
  show (⟨a.toArray ++ b.toArray⟩ : Str) = _
  simp
theorem dec_str {a b : List Nat} : decide (V.str ⟨a.toArray⟩ = V.str ⟨b.toArray⟩) = decide (a = b) := by
  by_cases h : a = b
  · subst h; simp
  · rw [decide_eq_false h, decide_eq_false]
    intro z
    apply h
    have z1 : (⟨a.toArray⟩ : Str) = ⟨b.toArray⟩ := V.str.inj z
    have z2 : a.toArray = b.toArray := Str.mk.inj z1
    simpa using z2
theorem eq_core (hu : X.A.units + 64 < cLine) {pins : List (Addr × Obj)} {s : Shared} {σ : L2.St} {H : Hp} {x y : V} {v u : Value} (I : Inv X pins σ H s) (rx : RelV x v) (ry : RelV y u) {Hf : Hp} {dx dy : D} {b : Bool} (sb : Sub Hf H) (ix : Is X.K X.mg Hf dx x) (iy : Is X.K X.mg Hf dy y) (e : eqP dx dy = some b) :
    (∀ Q : VK, Q (.bl b) H → wpAny (model X.prog X.w) X.A (compareOp .Eq v u) (EP X pins σ Q) X.xe s) ∧ (∀ Q : VK, Q (.bl (!b)) H → wpAny (model X.prog X.w) X.A (compareOp .NotEq v u) (EP X pins σ Q) X.xe s) := by
  unfold eqP at e
  split at e
  · obtain ⟨rfl, _⟩ := ix
    obtain ⟨rfl, _⟩ := iy
    cases e
    exact ⟨fun Q q => op_eq pins s σ H _ _ v u Q I rx ry ⟨rfl, by rw [dec_str]; exact q⟩, fun Q q => op_ne pins s σ H _ _ v u Q I rx ry ⟨rfl, by rw [dec_str]; exact q⟩⟩
  · cases ix; cases iy; cases e
    refine ⟨fun Q q => op_eq pins s σ H _ _ v u Q I rx ry ⟨rfl, ?_⟩, fun Q q => op_ne pins s σ H _ _ v u Q I rx ry ⟨rfl, ?_⟩⟩ <;> simpa using q
  · cases ix; cases iy; cases e
    refine ⟨fun Q q => op_eq pins s σ H _ _ v u Q I rx ry ⟨rfl, ?_⟩, fun Q q => op_ne pins s σ H _ _ v u Q I rx ry ⟨rfl, ?_⟩⟩ <;> simpa using q
  · cases ix; cases iy; cases e
    exact ⟨fun Q q => op_eq pins s σ H _ _ v u Q I rx ry ⟨rfl, by simpa using q⟩, fun Q q => op_ne pins s σ H _ _ v u Q I rx ry ⟨rfl, by simpa using q⟩⟩
  · unfold eqS at e
    cases e1 : toPy dx with
    | none => rw [e1] at e; cases e
    | some p1 =>
      cases e2 : toPy dy with
      | none => rw [e1, e2] at e; cases e
      | some p2 =>
        rw [e1, e2] at e
        by_cases c : (SeqAt.shaped p1 && SeqAt.shaped p2) = true
        · simp only [c, if_true, Option.some.injEq] at e
          subst e
          rw [Bool.and_eq_true] at c
          exact ⟨fun Q q => op_eqD hu pins s σ H x y v u Q I rx ry ⟨p1, p2, (ix.mono sb).dp e1, (iy.mono sb).dp e2, c.1, c.2, q⟩, fun Q q => op_neD hu pins s σ H x y v u Q I rx ry ⟨p1, p2, (ix.mono sb).dp e1, (iy.mono sb).dp e2, c.1, c.2, q⟩⟩
        · simp only [c, if_false] at e
          cases e
theorem od_eq (hu : X.A.units + 64 < cLine) : OpR X (compareOp .Eq) (rD2 X.K X.mg eqD) := by
  intro pins s σ H x y v u Q I rx ry h
  obtain ⟨Hf, dx, dy, d, sb, ix, iy, e, q⟩ := h
  unfold eqD at e
  cases e1 : eqP dx dy with
  | none => rw [e1] at e; cases e
  | some b => rw [e1] at e; cases e; exact (eq_core hu I rx ry sb ix iy e1).1 Q (q _ Hf H (.refl sb) (by cases b <;> rw [Is]))
theorem od_ne (hu : X.A.units + 64 < cLine) : OpR X (compareOp .NotEq) (rD2 X.K X.mg neD) := by
  intro pins s σ H x y v u Q I rx ry h
  obtain ⟨Hf, dx, dy, d, sb, ix, iy, e, q⟩ := h
  unfold neD at e
  cases e1 : eqP dx dy with
  | none => rw [e1] at e; cases e
  | some b => rw [e1] at e; cases e; exact (eq_core hu I rx ry sb ix iy e1).2 Q (q _ Hf H (.refl sb) (by cases b <;> rw [Is]))
theorem od_add : OpR X (binaryOp .Add) (rD2 X.K X.mg addD) := by
  intro pins s σ H x y v u Q I rx ry h
  obtain ⟨Hf, dx, dy, d, sb, ix, iy, e, q⟩ := h
  unfold addD at e
  split at e
  · cases e; cases ix; cases iy
    exact op_add pins s σ H _ _ v u Q I rx ry ⟨_, _, rfl, rfl, q _ Hf H (.refl sb) (by rw [Is])⟩
  · split at e
    · rename_i a b hz
      cases e; cases ix.1; cases iy.1
      exact op_add_str pins s σ H _ _ v u Q I rx ry ⟨_, _, rfl, rfl, by rw [str_len, str_len]; exact hz, q _ Hf H (.refl sb) (by rw [Is, str_app]; exact ⟨rfl, by rw [List.length_append]; exact hz⟩)⟩
    · cases e
  · split at e
    · rename_i a b hz
      cases e
      obtain ⟨z1, p1, v1, rfl, h1, l1⟩ := ix
      obtain ⟨z2, p2, v2, rfl, h2, l2⟩ := iy
      refine op_cat pins s σ H _ _ v u Q I rx ry ⟨_, _, _, _, rfl, rfl, sb _ _ h1, sb _ _ h2, by rw [← l1.len, ← l2.len]; exact hz, fun p hp => q _ _ _ (.new sb hp) ?_⟩
      exact ⟨by rw [List.length_append]; exact hz, p, _, rfl, upd_same, (l1.app l2).mono (Ste.new (bag := []) sb hp).sub⟩
    · cases e
  · split at e
    · rename_i a b hz
      cases e
      obtain ⟨z1, p1, v1, rfl, h1, l1⟩ := ix
      obtain ⟨z2, p2, v2, rfl, h2, l2⟩ := iy
      refine op_catA pins s σ H _ _ v u Q I rx ry ⟨_, _, _, _, rfl, rfl, sb.sqt h1, sb.sqt h2, by rw [← l1.len, ← l2.len]; exact hz, fun z => ?_, fun z3 z4 => ?_, fun _ _ p hp => q _ _ _ (.new sb hp) ?_⟩
      · subst z
        have := l1.len
        have ea : a = [] := List.eq_nil_of_length_eq_zero (by simpa using this)
        subst ea
        exact q _ _ _ (.refl sb) ⟨z2, p2, v2, rfl, h2, l2⟩
      · subst z4
        have := l2.len
        have eb : b = [] := List.eq_nil_of_length_eq_zero (by simpa using this)
        subst eb
        rw [List.append_nil] at q
        exact q _ _ _ (.refl sb) ⟨z1, p1, v1, rfl, h1, l1⟩
      · exact ⟨by rw [List.length_append]; exact hz, p, _, rfl, .inl (.inl upd_same), (l1.app l2).mono (Ste.new (bag := []) sb hp).sub⟩
    · cases e
  · cases e
theorem od_sub : OpR X (binaryOp .Sub) (rD2 X.K X.mg subD) := by
  intro pins s σ H x y v u Q I rx ry h
  obtain ⟨Hf, dx, dy, d, sb, ix, iy, e, q⟩ := h
  unfold subD at e
  split at e
  · cases e; cases ix; cases iy
    exact op_sub pins s σ H _ _ v u Q I rx ry ⟨_, _, rfl, rfl, q _ Hf H (.refl sb) (by rw [Is])⟩
  · cases e
theorem od_fdiv : OpR X (binaryOp .FloorDiv) (rD2 X.K X.mg fdivD) := by
  intro pins s σ H x y v u Q I rx ry h
  obtain ⟨Hf, dx, dy, d, sb, ix, iy, e, q⟩ := h
  unfold fdivD at e
  split at e
  · split at e
    · rename_i hz
      cases e; cases ix; cases iy
      exact op_fdivW pins s σ H _ _ v u Q I rx ry ⟨_, _, rfl, rfl, hz, q _ Hf H (.refl sb) (by rw [Is])⟩
    · cases e
  · cases e
theorem od_mod : OpR X (binaryOp .Mod) (rD2 X.K X.mg modD) := by
  intro pins s σ H x y v u Q I rx ry h
  obtain ⟨Hf, dx, dy, d, sb, ix, iy, e, q⟩ := h
  unfold modD at e
  split at e
  · split at e
    · rename_i hz
      cases e; cases ix; cases iy
      exact op_mod pins s σ H _ _ v u Q I rx ry ⟨_, _, rfl, rfl, hz, q _ Hf H (.refl sb) (by rw [Is])⟩
    · cases e
  · cases e
theorem od_lt (hu : X.A.units + 64 < cLine) : OpR X (compareOp .Lt) (rD2 X.K X.mg ltD) := by
  intro pins s σ H x y v u Q I rx ry h
  obtain ⟨Hf, dx, dy, d, sb, ix, iy, e, q⟩ := h
  unfold ltD at e
  split at e
  · cases e; cases ix; cases iy
    exact op_lt pins s σ H _ _ v u Q I rx ry ⟨_, _, rfl, rfl, q _ Hf H (.refl sb) (by rw [Is])⟩
  · cases e; cases ix.1; cases iy.1
    refine op_lt_str pins s σ H _ _ v u Q I rx ry ⟨_, _, rfl, rfl, ?_⟩
    rw [str_tl, str_tl]
    exact q _ Hf H (.refl sb) (by rw [Is])
  · cases e1 : ltP dx dy with
    | none => rw [e1] at e; cases e
    | some b =>
      rw [e1] at e; cases e
      unfold ltP at e1
      split at e1
      · rename_i p1 p2 f1 f2
        split at e1
        · rename_i hc
          cases e1
          simp only [Bool.and_eq_true, decide_eq_true_eq, beq_iff_eq] at hc
          obtain ⟨as, r1⟩ := Dp.reads I p1 x v ((ix.mono sb).dp f1) rx
          obtain ⟨bs, r2⟩ := Dp.reads I p2 y u ((iy.mono sb).dp f2) ry
          have hm : X.A.units + min p1.depth p2.depth < cLine := by
            have := Nat.min_le_left p1.depth p2.depth
            omega
          exact PySem.W.lt_data r1 r2 hc.1.1 (fun z => by rw [z] at hc; exact Bool.noConfusion hc.2) hm ⟨.bl _, H, I, rfl, q _ Hf H (.refl sb) (by cases (PySem.W.dataLt p1 p2) <;> cases (PySem.W.dataLt p2 p1) <;> rw [Is])⟩
        · cases e1
      · cases e1
theorem od_le (hu : X.A.units + 64 < cLine) : OpR X (compareOp .LtE) (rD2 X.K X.mg leD) := by
  intro pins s σ H x y v u Q I rx ry h
  obtain ⟨Hf, dx, dy, d, sb, ix, iy, e, q⟩ := h
  unfold leD at e
  split at e
  · cases e; cases ix; cases iy
    exact op_le pins s σ H _ _ v u Q I rx ry ⟨_, _, rfl, rfl, q _ Hf H (.refl sb) (by rw [Is])⟩
  · cases e1 : leD.leP dx dy with
    | none => rw [e1] at e; cases e
    | some b =>
      rw [e1] at e; cases e
      unfold leD.leP at e1
      split at e1
      · rename_i p1 p2 f1 f2
        split at e1
        · rename_i hc
          cases e1
          simp only [Bool.and_eq_true, decide_eq_true_eq, beq_iff_eq] at hc
          obtain ⟨as, r1⟩ := Dp.reads I p1 x v ((ix.mono sb).dp f1) rx
          obtain ⟨bs, r2⟩ := Dp.reads I p2 y u ((iy.mono sb).dp f2) ry
          have hm : X.A.units + min p1.depth p2.depth < cLine := by
            have := Nat.min_le_left p1.depth p2.depth
            omega
          exact PySem.W.le_data r1 r2 hc.1.1 (fun z => by rw [z] at hc; exact Bool.noConfusion hc.2) hm ⟨.bl _, H, I, rfl, q _ Hf H (.refl sb) (by cases (PySem.W.dataLt p1 p2) <;> cases (PySem.W.dataLt p2 p1) <;> rw [Is])⟩
        · cases e1
      · cases e1
theorem od_gt (hu : X.A.units + 64 < cLine) : OpR X (compareOp .Gt) (rD2 X.K X.mg gtD) := by
  intro pins s σ H x y v u Q I rx ry h
  obtain ⟨Hf, dx, dy, d, sb, ix, iy, e, q⟩ := h
  unfold gtD at e
  split at e
  · cases e; cases ix; cases iy
    exact op_gt pins s σ H _ _ v u Q I rx ry ⟨_, _, rfl, rfl, q _ Hf H (.refl sb) (by rw [Is])⟩
  · cases e1 : gtD.gtP dx dy with
    | none => rw [e1] at e; cases e
    | some b =>
      rw [e1] at e; cases e
      unfold gtD.gtP at e1
      split at e1
      · rename_i p1 p2 f1 f2
        split at e1
        · rename_i hc
          cases e1
          simp only [Bool.and_eq_true, decide_eq_true_eq, beq_iff_eq] at hc
          obtain ⟨as, r1⟩ := Dp.reads I p1 x v ((ix.mono sb).dp f1) rx
          obtain ⟨bs, r2⟩ := Dp.reads I p2 y u ((iy.mono sb).dp f2) ry
          have hm : X.A.units + min p1.depth p2.depth < cLine := by
            have := Nat.min_le_left p1.depth p2.depth
            omega
          exact PySem.W.gt_data r1 r2 hc.1.1 (fun z => by rw [z] at hc; exact Bool.noConfusion hc.2) hm ⟨.bl _, H, I, rfl, q _ Hf H (.refl sb) (by cases (PySem.W.dataLt p1 p2) <;> cases (PySem.W.dataLt p2 p1) <;> rw [Is])⟩
        · cases e1
      · cases e1
theorem od_ge (hu : X.A.units + 64 < cLine) : OpR X (compareOp .GtE) (rD2 X.K X.mg geD) := by
  intro pins s σ H x y v u Q I rx ry h
  obtain ⟨Hf, dx, dy, d, sb, ix, iy, e, q⟩ := h
  unfold geD at e
  split at e
  · cases e; cases ix; cases iy
    exact op_ge pins s σ H _ _ v u Q I rx ry ⟨_, _, rfl, rfl, q _ Hf H (.refl sb) (by rw [Is])⟩
  · cases e1 : geD.geP dx dy with
    | none => rw [e1] at e; cases e
    | some b =>
      rw [e1] at e; cases e
      unfold geD.geP at e1
      split at e1
      · rename_i p1 p2 f1 f2
        split at e1
        · rename_i hc
          cases e1
          simp only [Bool.and_eq_true, decide_eq_true_eq, beq_iff_eq] at hc
          obtain ⟨as, r1⟩ := Dp.reads I p1 x v ((ix.mono sb).dp f1) rx
          obtain ⟨bs, r2⟩ := Dp.reads I p2 y u ((iy.mono sb).dp f2) ry
          have hm : X.A.units + min p1.depth p2.depth < cLine := by
            have := Nat.min_le_left p1.depth p2.depth
            omega
          exact PySem.W.ge_data r1 r2 hc.1.1 (fun z => by rw [z] at hc; exact Bool.noConfusion hc.2) hm ⟨.bl _, H, I, rfl, q _ Hf H (.refl sb) (by cases (PySem.W.dataLt p1 p2) <;> cases (PySem.W.dataLt p2 p1) <;> rw [Is])⟩
        · cases e1
      · cases e1
end
end DL
namespace DL
open PySem L2
/-! ### a new list -/
section
variable (K : PySem.W.Frag) (mg : Str → Option Value) (fx : Fx)
def FrQ (Hf H : Hp) (Q : VK) : List D → S → Prop := fun ds s' => ∀ p vs Hf' H', Ste fx.bag Hf H Hf' H' → BagAt fx.bag H' s' → H' p = some (.lst vs) → Hf' p = none → H p = none → IsL K mg Hf' ds vs → ds.length ≤ sizeLine → Q (.ref p) H'
def tF (G : List Sl) {m : Type → Type} [Mo m] (x : m (List D)) : TE := fun σ H Q => ∃ Hf s, StS K mg fx Hf H σ G s ∧ Mo.wp x s (FrQ K mg fx Hf H Q) (EX K mg fx G σ)
end
def mkL {m : Type → Type} [Mo m] (x : m (List D)) : m D := do
  let ds ← x
  pure (.lst ds)
/-- not too long -/
def szL (ds : List D) : Option (List D) := if ds.length ≤ sizeLine then some ds else none
theorem Ste.upd {bag : List Addr} {Hf H Hf' H' : Hp} (e : Ste bag Hf H Hf' H') {p : Addr} {o : HO} (hp : H p = none) (hf : Hf' p = none) : Ste bag Hf H Hf' (L2.upd H' p o) := by
  refine ⟨e.sub, fun a u q => ?_, fun a u q n => ?_, fun a n => ?_, e.fresh⟩
  · have ne : a ≠ p := fun z => by rw [z, hf] at q; cases q
    rw [upd_ne ne]; exact e.top a u q
  · have ne : a ≠ p := fun z => by rw [z, hp] at q; cases q
    rw [upd_ne ne]; exact e.keep a u q n
  · by_cases c : a = p
    · rw [c, upd_same]; simp
    · rw [upd_ne c]; exact e.dom a n
section
variable {K : PySem.W.Frag} {mg : Str → Option Value} {fx : Fx} {Hf H : Hp} {σ : L2.St} {G : List Sl} {s : S}
theorem StS.other (st : StS K mg fx Hf H σ G s) {p : Addr} {o : HO} (hf : Hf p = none) (h0 : fx.H0 p = none) (nb : p ∉ fx.bag) (no : ∀ (j : Nat) (q : Addr), σ[j]? = some (some (.ref q)) → (∀ x, G[j]? = some x → isOw x = true → q ≠ p)) : StS K mg fx Hf (upd H p o) σ G s := by
  refine ⟨st.ste.upd h0 hf, st.bag.upd nb, fun b m => ⟨(st.bagg b m).1, ?_, (st.bagg b m).2.2⟩, st.len, fun j x ex => ?_, st.dis⟩
  · have ne : b ≠ p := fun z => st.owNb h0 nb (z ▸ m)
    rw [upd_ne ne]; exact (st.bagg b m).2.1
  · exact (st.sl j x ex).upd fun q o e => no j q e x ex o
end
section
variable {X : Cx} {fx : Fx} {m : Type → Type} [Mo m] {G : List Sl} {e : Expr}
theorem de_frz {x : m (List D)} (h : PE X e (tF X.K X.mg fx G x)) : PE X e (tE X.K X.mg fx G (mkL x)) := peI h fun σ H Q ⟨Hf, s, st, w⟩ =>
  ⟨Hf, s, st, Mo.wp_mono (Mo.wp_bind w) (fun ds s' k p vs Hf' H' e bg hp hf hn l hz => by
    have k' := Mo.wp_pure k
    have sb : Sub Hf' (upd Hf' p (.lst vs)) := fun a o q => by
      have ne : a ≠ p := fun z => by rw [z, hf] at q; cases q
      rw [upd_ne ne]; exact q
    refine k' (.ref p) (upd Hf' p (.lst vs)) H' ⟨e.sub.trans sb, fun a o q => ?_, e.keep, e.dom, fun a o q => ?_⟩ bg ⟨hz, p, vs, rfl, upd_same, l.mono sb⟩
    · by_cases c : a = p
      · subst c; rw [upd_same] at q; cases q; exact hp
      · rw [upd_ne c] at q; exact e.top a o q
    · by_cases c : a = p
      · subst c; exact .inr hn
      · rw [upd_ne c] at q; exact e.fresh a o q) fun e s' k => k⟩
/-- what a new list's rule wants -/
theorem frq_new {Hf H : Hp} {σ : L2.St} {s : S} {ds : List D} {vs : List V} {Q : VK} (st : StS X.K X.mg fx Hf H σ G s) {Hf0 H0 : Hp} (e : Ste fx.bag Hf0 H0 Hf H) (h : FrQ X.K X.mg fx Hf0 H0 Q ds s) (l : IsL X.K X.mg Hf ds vs) (hz : ds.length ≤ sizeLine) (p : Addr) (hp : H p = none) : Q (.ref p) (upd H p (.lst vs)) := by
  have hn : H0 p = none := by
    cases q : H0 p with
    | none => rfl
    | some o => exact absurd hp (e.dom p (by rw [q]; simp))
  obtain ⟨_, nb, hf⟩ := st.new0 hp
  exact h p vs Hf _ (e.upd hn hf) (st.bag.upd nb) upd_same hf hn l hz
/-- [a, b, ..] -/
theorem df_list {es : List Expr} {pos : Pos} {ys : m (List D)} (h : PA X es (tA X.K X.mg fx G ys)) : PE X (.List es pos) (tF X.K X.mg fx G (do let ds ← ys; ask (szL ds))) := peI (pe_lst h) fun σ H Q ⟨Hf, s, st, w⟩ =>
  ⟨Hf, s, st, Mo.wp_mono (Mo.wp_bind w) (fun ds s1 k vs Hf1 H1 e bg l => by
    have k' := Mo.wp_lift k
    by_cases hz : ds.length ≤ sizeLine
    · have e1 : szL ds = some ds := if_pos hz
      rw [e1] at k'
      exact ⟨by rw [← l.len]; exact hz, fun p hp => frq_new (st.step e bg) e k' l hz p hp⟩
    · have e1 : szL ds = none := if_neg hz
      rw [e1] at k'
      exact k'.elim) fun e s' k => k⟩
/-- (a, b, ..) -/
theorem de_tup {es : List Expr} {pos : Pos} {x1 : Nat} {ys : m (List D)} (h : PA X es (tA X.K X.mg fx G ys)) : PE X (.Tuple es x1 pos) (tE X.K X.mg fx G (do let ds ← ys; let ds ← ask (szL ds); pure (.tup ds))) := peI (pe_tup h) fun σ H Q ⟨Hf, s, h⟩ =>
  (h.bind.mono fun vs H1 ⟨ds, Hf1, s1, sb, l, h1⟩ => by
    have k' := Mo.wp_lift (Mo.wp_bind h1.2)
    by_cases hz : ds.length ≤ sizeLine
    · have e1 : szL ds = some ds := if_pos hz
      rw [e1] at k'
      refine ⟨by rw [← l.len]; exact hz, fun p hp => (Mo.wp_pure k') _ _ _ (.new h1.1.top hp) (h1.1.bag.upd (h1.1.new0 hp).2.1) ?_⟩
      exact ⟨hz, p, vs, rfl, .inl (.inl upd_same), l.mono (Ste.new (bag := []) h1.1.top hp).sub⟩
    · have e1 : szL ds = none := if_neg hz
      rw [e1] at k'
      exact k'.elim).to
end
/-! ### truth, and, or, not -/
def truD : D → Option Bool
  | .non => some false
  | .bl b => some b
  | .int i => some (i != 0)
  | .str s => some (!s.isEmpty)
  | .tup ds => some (!ds.isEmpty)
  | .lst ds => some (!ds.isEmpty)
  | _ => none
theorem isEmpty_len {α β : Type} {a : List α} {b : List β} (h : a.length = b.length) : a.isEmpty = b.isEmpty := by
  cases a <;> cases b <;> simp at h ⊢
section
variable {K : PySem.W.Frag} {mg : Str → Option Value}
theorem is_bl {H : Hp} (b : Bool) : Is K mg H (.bl b) (.bl b) := by
  cases b <;> rw [Is]
theorem is_int {H : Hp} (b : Int) : Is K mg H (.int b) (.int b) := by rw [Is]
theorem tru_is {Hf H : Hp} (sb : Sub Hf H) {d : D} {v : V} {b : Bool} (i : Is K mg Hf d v) (e : truD d = some b) : TruV K v H b := by
  cases d with
  | non => cases i; cases e; exact rfl
  | bl c => cases i; cases e; exact rfl
  | int c => cases i; cases e; exact rfl
  | str c =>
    obtain ⟨rfl, hz⟩ := i
    cases e
    refine ⟨by rw [str_len]; exact hz, ?_⟩
    rw [str_len]
    cases c with
    | nil => rfl
    | cons x r =>
      show (!(x :: r).isEmpty) = ((((x :: r).length : Nat) : Int) != 0)
      simp
      omega
  | tup ds =>
    obtain ⟨_, a, vs, rfl, t, l⟩ := i
    cases e
    exact .inr (.inl ⟨vs, sb.sqt t, by rw [isEmpty_len l.len]⟩)
  | lst ds =>
    obtain ⟨_, a, vs, rfl, t, l⟩ := i
    cases e
    exact .inl ⟨vs, .inl (.inl (sb _ _ t)), by rw [isEmpty_len l.len]⟩
  | dic _ _ => cases e
  | ins _ _ _ => cases e
  | scr _ => cases e
  | xc _ _ _ _ => cases e
end
section
variable {X : Cx} {fx : Fx} {m : Type → Type} [Mo m] {G : List Sl} {a b c : Expr} {rest : List Expr} {pos : Pos} {x y : m D} {t u : m Bool}
def andM (t u : m Bool) : m Bool := do
  let b ← t
  if b = true then u else pure false
def orM (t u : m Bool) : m Bool := do
  let b ← t
  if b = true then pure true else u
def notM (t : m Bool) : m Bool := do
  let b ← t
  pure (!b)
def iteM {α : Type} (t : m Bool) (x y : m α) : m α := do
  let b ← t
  if b = true then x else y
def andV (x y : m D) : m D := do
  let d ← x
  let b ← ask (truD d)
  if b = true then y else pure d
def notV (x : m D) : m D := do
  let d ← x
  let b ← ask (truD d)
  pure (.bl (!b))
/-- a value's truth -/
theorem dt_tru (ha : PE X a (tE X.K X.mg fx G x)) (he : ∀ whole, isTrue a X.env whole = (do let v ← whole; standAt a.pos; holding [v] (truthy v)) := by intro _; rfl) :
    PT X a (tT X.K X.mg fx G (do let d ← x; ask (truD d))) := ptI (pt_truth ha he) fun σ H Q ⟨Hf, s, h⟩ =>
  (h.bind.mono fun v H1 ⟨d, Hf1, s1, sb, r, h1⟩ => by
    obtain ⟨k, e, q⟩ := h1.ask
    exact ⟨k, tru_is h1.1.top r e, q k Hf1 H1 (.refl h1.1.top) rfl⟩).to
theorem dw_and1 (ha : PT X a (tT X.K X.mg fx G t)) : PW X (.BoolOp .And [a] pos) (tT X.K X.mg fx G t) := pw_and1 ha
theorem dw_or1 (ha : PT X a (tT X.K X.mg fx G t)) : PW X (.BoolOp .Or [a] pos) (tT X.K X.mg fx G t) := pw_or1 ha
theorem dw_and (ha : PT X a (tT X.K X.mg fx G t)) (hb : PW X (.BoolOp .And (b :: rest) pos) (tT X.K X.mg fx G u)) : PW X (.BoolOp .And (a :: b :: rest) pos) (tT X.K X.mg fx G (andM t u)) := pwI (pw_and ha hb) fun σ H Q ⟨Hf, s, h⟩ =>
  (h.bind.mono fun v H1 ⟨d, Hf1, s1, sb, r, h1⟩ => by
    subst r
    cases v with
    | true => exact h1.to
    | false => exact h1.pure rfl).to
theorem dw_or (ha : PT X a (tT X.K X.mg fx G t)) (hb : PW X (.BoolOp .Or (b :: rest) pos) (tT X.K X.mg fx G u)) : PW X (.BoolOp .Or (a :: b :: rest) pos) (tT X.K X.mg fx G (orM t u)) := pwI (pw_or ha hb) fun σ H Q ⟨Hf, s, h⟩ =>
  (h.bind.mono fun v H1 ⟨d, Hf1, s1, sb, r, h1⟩ => by
    subst r
    cases v with
    | true => exact h1.pure rfl
    | false => exact h1.to).to
theorem dt_not (ha : PT X a (tT X.K X.mg fx G t)) : PT X (.UnaryOp .Not a pos) (tT X.K X.mg fx G (notM t)) := ptI (pt_not ha) fun σ H Q ⟨Hf, s, h⟩ =>
  (h.bind.mono fun v H1 ⟨d, Hf1, s1, sb, r, h1⟩ => by
    subst r
    exact h1.pure rfl).to
theorem de_not (ha : PE X a (tE X.K X.mg fx G x)) : PE X (.UnaryOp .Not a pos) (tE X.K X.mg fx G (notV x)) := peI (pe_notT ha) fun σ H Q ⟨Hf, s, h⟩ =>
  (h.bind.mono fun v H1 ⟨d, Hf1, s1, sb, r, h1⟩ => by
    have h2 := h1.bind (rl := fun _ a b => b = a) (β := Bool)
    have k := Mo.wp_lift (Mo.wp_bind h1.2)
    cases e : truD d with
    | none => rw [e] at k; exact k.elim
    | some b =>
      rw [e] at k
      exact ⟨b, tru_is h1.1.top r e, (Mo.wp_pure k) _ Hf1 H1 (.refl h1.1.top) h1.1.bag (is_bl _)⟩).to
theorem de_and (ha : PE X a (tE X.K X.mg fx G x)) (hb : PE X (.BoolOp .And (b :: rest) pos) (tE X.K X.mg fx G y)) : PE X (.BoolOp .And (a :: b :: rest) pos) (tE X.K X.mg fx G (andV x y)) := peI (pe_andT ha hb) fun σ H Q ⟨Hf, s, h⟩ =>
  (h.bind.mono fun v H1 ⟨d, Hf1, s1, sb, r, h1⟩ => by
    have k := Mo.wp_lift (Mo.wp_bind h1.2)
    cases e : truD d with
    | none => rw [e] at k; exact k.elim
    | some b =>
      rw [e] at k
      refine ⟨b, tru_is h1.1.top r e, ?_⟩
      cases b with
      | true => exact ⟨Hf1, s1, h1.1, k⟩
      | false => exact (Mo.wp_pure k) _ Hf1 H1 (.refl h1.1.top) h1.1.bag r).to
theorem de_one {op : BoolOp} (ha : PE X a (tE X.K X.mg fx G x)) : PE X (.BoolOp op [a] pos) (tE X.K X.mg fx G x) := pe_one ha
theorem de_ifExp (hc : PT X c (tT X.K X.mg fx G t)) (ha : PE X a (tE X.K X.mg fx G x)) (hb : PE X b (tE X.K X.mg fx G y)) : PE X (.IfExp c a b pos) (tE X.K X.mg fx G (iteM t x y)) := peI (pe_ifExp hc ha hb) fun σ H Q ⟨Hf, s, h⟩ =>
  (h.bind.mono fun v H1 ⟨d, Hf1, s1, sb, r, h1⟩ => by
    subst r
    cases v with
    | true => exact h1.to
    | false => exact h1.to).to
/-- a < b < c -/
def chainM (f g : D → D → Option D) (x y z : m D) : m D := do
  let u ← x
  let v ← y
  let p ← ask ((f u v).bind bOf)
  if p = true then do
    let w ← z
    ask (g v w)
  else pure (.bl false)
theorem chain_read {op op' : CmpOp} {f g : D → D → Option D} {z : m D} {σ : L2.St} {H : Hp} {Q : VK} (h : tE X.K X.mg fx G (chainM f g x y z) σ H Q) :
    tChain (rD2 X.K X.mg f) (rD2 X.K X.mg g) (tE X.K X.mg fx G x) (tE X.K X.mg fx G y) (tE X.K X.mg fx G z) σ H Q := by
  obtain ⟨Hf, s, h⟩ := h
  refine (h.bind.mono fun v1 H1 ⟨d1, Hf1, s1, sb1, r1, h1⟩ => (h1.bind.mono fun v2 H2 ⟨d2, Hf2, s2, sb2, r2, h2⟩ => ?_).to).to
  have k := Mo.wp_lift (Mo.wp_bind h2.2)
  cases e : f d1 d2 with
  | none => rw [e] at k; exact k.elim
  | some d =>
    cases d with
    | bl p =>
      rw [e] at k
      have k' : Mo.wp (if p = true then (do let w ← z; ask (g d2 w)) else pure (.bl false) : m D) s2 _ _ := k
      refine ⟨Hf2, d1, d2, .bl p, h2.1.top, r1.mono sb2, r2, e, fun u Hf3 H3 e3 i3 => ⟨p, i3, ?_⟩⟩
      have st3 := h2.1.step e3.wide (e3.bag h2.1.bag)
      cases p with
      | true =>
        have h3 : tX X.K X.mg fx G (fun H d v => Is X.K X.mg H d v) (do let w ← z; ask (g d2 w) : m D) Hf3 s2 σ H3 Q :=
          ⟨st3, Mo.wp_mono k' (fun a s' q b Hf' H' e bg i => q b Hf' H' (e3.wide.trans e) bg i) fun e s' q => q⟩
        show tE X.K X.mg fx G z σ H3 _
        exact (h3.bind.mono fun v4 H4 ⟨d4, Hf4, s4, sb4, r4, h4⟩ => by
          obtain ⟨d, e, q⟩ := h4.ask
          exact ⟨Hf4, d2, d4, d, h4.1.top, (r2.mono e3.sub).mono sb4, r4, e, q⟩).to
      | false => exact (Mo.wp_pure k') _ Hf3 H3 e3.wide (e3.bag h2.1.bag) (is_bl _)
    | _ => rw [e] at k; exact k.elim
theorem test_read {x : m D} {Hf : Hp} {s : S} {σ : L2.St} {H : Hp} {Q : Bool → Hp → Prop} (h : tX X.K X.mg fx G (fun _ a b => b = a) (do let d ← x; ask (bOf d)) Hf s σ H Q) : tE X.K X.mg fx G x σ H fun v H' => ∃ k, v = .bl k ∧ Q k H' :=
  (h.bind.mono fun v H1 ⟨d, Hf1, s1, sb, r, h1⟩ => by
    obtain ⟨k, e, q⟩ := h1.ask
    cases d with
    | bl b =>
      cases e
      exact ⟨_, r, q _ Hf1 H1 (.refl h1.1.top) rfl⟩
    | _ => cases e).to
theorem dt_chain {op op' : CmpOp} {f g : D → D → Option D} {z : m D} (ho : OpR X (compareOp op) (rD2 X.K X.mg f)) (ho' : OpR X (compareOp op') (rD2 X.K X.mg g)) (ha : PE X a (tE X.K X.mg fx G x)) (hb : PE X b (tE X.K X.mg fx G y)) (hc : PE X c (tE X.K X.mg fx G z))
    (hm : lastMarks [op, op'] [b, c] = false := by with_unfolding_all rfl) : PT X (.Compare a [op, op'] [b, c] pos) (tT X.K X.mg fx G (do let d ← chainM f g x y z; ask (bOf d))) := ptI (pt_chain ho ho' ha hb hc hm) fun σ H Q ⟨Hf, s, h⟩ => chain_read (op := op) (op' := op') (test_read h)
end
end DL
namespace DL
open PySem L2
/-! ### what is walked -/
section
variable {X : Cx} {tg l : Expr} {tl : TE}
theorem piI {it : Expr} {t t' : TI} (h : PI X tg it t) (w : ∀ σ H Q, t' σ H Q → t σ H Q) : PI X tg it t' := ⟨fun pins s σ H Q I q => h.run pins s σ H Q I (w _ _ _ q)⟩
end
def sqOf : D → Option (List D)
  | .lst ds => some ds
  | .tup ds => some ds
  | _ => none
def intOf : D → Option Int
  | .int i => some i
  | _ => none
def rangeL (lo : Int) (n : Nat) : List D := (List.range n).map fun (k : Nat) => .int (lo + (k : Int))
def enumL (ds : List D) : List D := ds.mapIdx fun i d => .tup [.int (i : Int), d]
section
variable {K : PySem.W.Frag} {mg : Str → Option Value}
theorem yl_list {Hf : Hp} {ds : List D} {a : Addr} {vs : List V} (hz : ds.length ≤ sizeLine) (h : Hf a = some (.lst vs)) (l : IsL K mg Hf ds vs) : Yl K mg (Itl K a) Hf ds := ⟨hz, fun Hf2 H s1 s2 i => by
  have hq : SqL K H a vs := .inl (.inl (s2 _ _ (s1 _ _ h)))
  refine ⟨fun d hd => ?_, fun hl => ⟨vs, hq, by rw [← l.len]; exact hl⟩⟩
  obtain ⟨v, hv, iv⟩ := l.get hd
  exact ⟨⟨vs, v, hq, hv⟩, fun x H' ⟨e, f⟩ => by
    subst e
    have := f vs hq
    rw [hv] at this
    cases this
    exact ⟨Hf2, .refl s2, iv.mono s1⟩⟩⟩
theorem yl_tup {Hf : Hp} {ds : List D} {a : Addr} {vs : List V} (hz : ds.length ≤ sizeLine) (h : SqT K Hf a vs) (l : IsL K mg Hf ds vs) : Yl K mg (Itt K a) Hf ds := ⟨hz, fun Hf2 H s1 s2 i => by
  have hq : SqT K H a vs := s2.sqt (s1.sqt h)
  refine ⟨fun d hd => ?_, fun hl => ⟨vs, hq, by rw [← l.len]; exact hl⟩⟩
  obtain ⟨v, hv, iv⟩ := l.get hd
  exact ⟨⟨vs, v, hq, hv⟩, fun x H' ⟨e, f⟩ => by
    subst e
    have := f vs hq
    rw [hv] at this
    cases this
    exact ⟨Hf2, .refl s2, iv.mono s1⟩⟩⟩
theorem yl_range (lo : Int) (n : Nat) {Hf : Hp} (hz : n ≤ sizeLine) : Yl K mg (Itr lo n) Hf (rangeL lo n) := ⟨by simpa [rangeL] using hz, fun Hf2 H s1 s2 i => by
  refine ⟨fun d hd => ?_, fun hl => ?_⟩
  rotate_left
  · have z : n ≤ i := by simpa [rangeL] using hl
    exact z
  have hi : i < n := by
    have := (List.getElem?_eq_some_iff.mp hd).1
    simpa [rangeL] using this
  have e : d = .int (lo + (i : Int)) := by
    unfold rangeL at hd
    rw [List.getElem?_map, List.getElem?_range hi] at hd
    cases hd
    rfl
  subst e
  exact ⟨hi, fun x H' ⟨e1, e2⟩ => by
    subst e1 e2
    exact ⟨Hf2, .refl s2, is_int _⟩⟩⟩
theorem yl_str (s : List Nat) {Hf : Hp} (hz : s.length ≤ sizeLine) : Yl K mg (Its ⟨s.toArray⟩) Hf (s.map fun c => .str [c]) := ⟨by simpa using hz, fun Hf2 H s1 s2 i => by
  refine ⟨fun d hd => ?_, fun hl => ?_⟩
  · have hi : i < s.length := by
      have := (List.getElem?_eq_some_iff.mp hd).1
      simpa using this
    rw [List.getElem?_map, List.getElem?_eq_getElem hi] at hd
    cases hd
    refine ⟨?_, fun x H' ⟨e1, c, e2, e3⟩ => ?_⟩
    · show i < s.toArray.size
      simpa using hi
    · subst e1 e3
      refine ⟨Hf2, .refl s2, ?_⟩
      have e2' : s.toArray[i]? = some c := e2
      rw [List.getElem?_toArray, List.getElem?_eq_getElem hi] at e2'
      cases e2'
      exact ⟨rfl, by show 1 ≤ sizeLine; decide⟩
  · show s.toArray.size ≤ i
    simpa using hl⟩
theorem yl_enum {Hf : Hp} {ds : List D} {a : Addr} {vs : List V} (hz : ds.length ≤ sizeLine) (h : Hf a = some (.lst vs)) (l : IsL K mg Hf ds vs) : Yl K mg (Ite K a) Hf (enumL ds) := ⟨by simpa [enumL] using hz, fun Hf2 H s1 s2 i => by
  have hq : SqL K H a vs := .inl (.inl (s2 _ _ (s1 _ _ h)))
  refine ⟨fun d hd => ?_, fun hl => ⟨vs, hq, by rw [← l.len]; simpa [enumL] using hl⟩⟩
  have hi : i < ds.length := by
    have := (List.getElem?_eq_some_iff.mp hd).1
    simpa [enumL] using this
  have ed : d = .tup [.int (i : Int), ds[i]] := by
    unfold enumL at hd
    rw [List.getElem?_mapIdx, List.getElem?_eq_getElem hi] at hd
    cases hd
    rfl
  subst ed
  obtain ⟨v, hv, iv⟩ := l.get (List.getElem?_eq_getElem hi)
  refine ⟨⟨vs, v, hq, hv⟩, fun x H' ⟨T, y, e1, hT, e2, f⟩ => ?_⟩
  subst e1 e2
  have := f vs hq
  rw [hv] at this
  cases this
  refine ⟨upd Hf2 T (.tup [.int (i : Nat), v]), .new s2 hT, ?_⟩
  exact ⟨by show 2 ≤ sizeLine; decide, T, _, rfl, .inl (.inl upd_same), .cons (is_int _) (.cons ((iv.mono s1).mono (Ste.new (bag := []) s2 hT).sub) .nil)⟩⟩
end
section
variable {X : Cx} {fx : Fx} {m : Type → Type} [Mo m] {G : List Sl} {tg l a b : Expr} {x y : m D} {ys : m (List D)} {pos : Pos} {kk : Nat}
def strOf : D → Option (List Nat)
  | .str s => some s
  | _ => none
def chrs (s : List Nat) : List D := s.map fun c => .str [c]
def rng1 : List D → Option (List D)
  | [.int j] => if -(2 ^ 62) ≤ j ∧ j ≤ 1000000 then some (rangeL 0 j.toNat) else none
  | _ => none
theorem di_range1 {p : Pos} (hg : Gl X "range") (hm : X.mg "range" = none) (ha : PA X [a] (tA X.K X.mg fx G ys)) (hs : starEach [a] X.env = [(false, eval a X.env)] := by rfl) :
    PI X tg (.Call (.Name "range" p) [a] [] pos) (tI X.K X.mg fx G (do let ds ← ys; ask (rng1 ds))) := piI (pi_range1 hg hm ha hs) fun σ H Q ⟨Hf, s, h⟩ =>
  (h.bind.mono fun v H1 ⟨d, Hf1, s1, sb, r, h1⟩ => by
    obtain ⟨ds, e, q⟩ := h1.ask
    unfold rng1 at e
    split at e
    · rename_i j
      split at e
      · rename_i hj
        cases e
        obtain ⟨v1, r1, rfl, rfl, rfl⟩ := r
        exact ⟨j, rfl, hj.1, Int.lt_of_le_of_lt hj.2 (by decide), q _ Hf1 H1 (.refl h1.1.top) (yl_range _ _ (by rw [sizeLine_eq]; omega))⟩
      · cases e
    · cases e).to
def enumOf : List D → Option (List D)
  | [.lst ds] => some (enumL ds)
  | _ => none
theorem di_enumL {p tpos : Pos} {elts : List Expr} {k : Nat} (hg : Gl X "enumerate") (hm : X.mg "enumerate" = none) (ha : PA X [a] (tA X.K X.mg fx G ys)) (hs : starEach [a] X.env = [(false, eval a X.env)] := by rfl) :
    PI X (.Tuple elts k tpos) (.Call (.Name "enumerate" p) [a] [] pos) (tI X.K X.mg fx G (do let ds ← ys; ask (enumOf ds))) := piI (pi_enum hg hm ha hs) fun σ H Q ⟨Hf, s, h⟩ =>
  (h.bind.mono fun v H1 ⟨d, Hf1, s1, sb, r, h1⟩ => by
    obtain ⟨ds, e, q⟩ := h1.ask
    unfold enumOf at e
    split at e
    · rename_i es
      cases e
      obtain ⟨v1, r1, rfl, ⟨hz, a, vs, rfl, t, il⟩, rfl⟩ := r
      exact ⟨a, vs, rfl, .inl (.inl (h1.1.top _ _ t)), q _ Hf1 H1 (.refl h1.1.top) (yl_enum hz t il)⟩
    · cases e).to
/-! ### targets -/
def un2 : D → Option (D × D)
  | .tup [a, b] => some (a, b)
  | _ => none
theorem pgd_tup2 (C : Cok X fx kk) (i j : Nat) {n1 n2 : Str} {p1 p2 : Pos} {k : Nat} (hi : X.N[i]? = some n1 := by rfl) (hx : Loc X.env.scope n1 := by first | exact Or.inl rfl | exact Or.inr rfl) (hf : X.fn n1 = true ∨ X.env.scope.names.lookup n1 = some .local := by first | exact .inl rfl | exact .inr rfl)
    (hi2 : X.N[j]? = some n2 := by rfl) (hx2 : Loc X.env.scope n2 := by first | exact Or.inl rfl | exact Or.inr rfl) (hf2 : X.fn n2 = true ∨ X.env.scope.names.lookup n2 = some .local := by first | exact .inl rfl | exact .inr rfl) :
    PGd X fx (.Tuple [.Name n1 p1, .Name n2 p2] k pos) (gTup X.K 2 (gCons (gName i) (gCons (gName j) gNil))) un2 (fun G d => (G.set i (.im d.1)).set j (.im d.2)) [i, j] :=
  ⟨pg_tup C.calm (pgs_cons (pg_name C.nd hi hx hf) (pgs_cons (pg_name C.nd hi2 hx2 hf2) pgs_nil)), fun {G Hf d v σ H s c Q} st r e q => by
    cases d with
    | tup ds =>
      obtain ⟨hz, a, vs, rfl, t, l⟩ := r
      unfold un2 at e
      split at e
      · rename_i d1 d2 eq
        cases eq
        cases e
        obtain ⟨v1, r1, rfl, i1, v2, r2, rfl, i2, rfl⟩ := l
        refine ⟨a, _, rfl, st.top.sqt t, rfl, v1, _, rfl, v2, _, rfl, rfl, q _ (fun k hk => ?_) (by simp) ((st.set i1).set i2)⟩
        rw [List.getElem?_set_ne (fun z => hk (by simp [z])), List.getElem?_set_ne (fun z => hk (by simp [z]))]
      · cases e
    | _ => cases e⟩
end
end DL
namespace DL
open PySem L2
/-! ### list comprehensions -/
section
variable {m : Type → Type} [Mo m] {γ : Type}
def lcF (u : D → Option γ) (xt : γ → m Bool) (xe : γ → m D) : List D → m (List D)
  | [] => pure []
  | d :: ds => do
    let c ← ask (u d)
    let b ← Mo.noex (xt c)
    if b = true then do
      let y ← Mo.noex (xe c)
      let r ← lcF u xt xe ds
      pure (y :: r)
    else lcF u xt xe ds
end
abbrev Fx.nox (fx : Fx) : Fx := { fx with W := fun _ _ _ _ => False, gx := none }
def wipeG (G : List Sl) : List Nat → List Sl
  | [] => G
  | v :: vs => (wipeG G vs).set v .un
theorem wipe_get {σ : L2.St} {i : Nat} : ∀ {vs : List Nat}, i ∉ vs → (wipe σ vs)[i]? = σ[i]?
  | [], _ => rfl
  | v :: vs, h => by
    unfold wipe
    rw [List.getElem?_set_ne (fun z => h (by simp [z])), wipe_get (fun z => h (List.mem_cons_of_mem _ z))]
theorem wipe_in {σ : L2.St} {i : Nat} : ∀ {vs : List Nat}, i ∈ vs → i < σ.length → (wipe σ vs)[i]? = some none
  | [], h, _ => by cases h
  | v :: vs, h, hl => by
    unfold wipe
    by_cases c : v = i
    · subst c
      rw [List.getElem?_set_self (by rw [wipe_length]; exact hl)]
    · rw [List.getElem?_set_ne c]
      rcases List.mem_cons.mp h with e | h'
      · exact absurd e.symm c
      · exact wipe_in h' hl
theorem wipeG_len {G : List Sl} : ∀ (vs : List Nat), (wipeG G vs).length = G.length
  | [] => rfl
  | v :: vs => by unfold wipeG; rw [List.length_set, wipeG_len vs]
theorem wipeG_get {G : List Sl} {i : Nat} : ∀ {vs : List Nat}, i ∉ vs → (wipeG G vs)[i]? = G[i]?
  | [], _ => rfl
  | v :: vs, h => by
    unfold wipeG
    rw [List.getElem?_set_ne (fun z => h (by simp [z])), wipeG_get (fun z => h (List.mem_cons_of_mem _ z))]
theorem wipeG_in {G : List Sl} {i : Nat} : ∀ {vs : List Nat} {x : Sl}, i ∈ vs → (wipeG G vs)[i]? = some x → x = .un
  | [], _, h, _ => by cases h
  | v :: vs, x, h, e => by
    unfold wipeG at e
    by_cases c : v = i
    · subst c
      have hl : v < (wipeG G vs).length := by
        have := (List.getElem?_eq_some_iff.mp e).1
        simpa using this
      rw [List.getElem?_set_self hl] at e
      cases e
      rfl
    · rw [List.getElem?_set_ne c] at e
      rcases List.mem_cons.mp h with e' | h'
      · exact absurd e'.symm c
      · exact wipeG_in h' e
theorem wipe_eq {σ σ2 : L2.St} {vs : List Nat} (hl : σ2.length = (wipe σ vs).length) (h : ∀ j, j ∉ vs → σ2[j]? = (wipe σ vs)[j]?) : wipe σ2 vs = wipe σ vs := by
  apply List.ext_getElem?
  intro i
  by_cases c : i ∈ vs
  · by_cases hi : i < σ.length
    · rw [wipe_in c hi, wipe_in c (by rw [hl, wipe_length]; exact hi)]
    · rw [List.getElem?_eq_none (by rw [wipe_length, hl, wipe_length]; omega), List.getElem?_eq_none (by rw [wipe_length]; omega)]
  · rw [wipe_get c, h i c]
section
variable {K : PySem.W.Frag} {mg : Str → Option Value} {fx : Fx} {Hf H : Hp} {σ : L2.St} {G : List Sl} {s : S}
theorem StS.wiped (st : StS K mg fx Hf H σ G s) (vs : List Nat) : StS K mg fx.nox Hf H (wipe σ vs) (wipeG G vs) s := by
  have get : ∀ {i : Nat} {x : Sl}, (wipeG G vs)[i]? = some x → x ≠ .un → G[i]? = some x ∧ (wipe σ vs)[i]? = σ[i]? := fun {i x} e n => by
    by_cases c : i ∈ vs
    · exact absurd (wipeG_in c e) n
    · rw [wipeG_get c] at e
      exact ⟨e, wipe_get c⟩
  refine ⟨st.ste, st.bag, st.bagg, by rw [wipe_length, wipeG_len]; exact st.len, fun i x e => ?_, fun i j x y p hij ex ey ox oy e1 e2 => ?_⟩
  · cases x with
    | un => trivial
    | im d =>
      obtain ⟨e', q⟩ := get e (by simp)
      rw [q]; exact st.sl i _ e'
    | bg =>
      obtain ⟨e', q⟩ := get e (by simp)
      rw [q]; exact st.sl i _ e'
    | ow ds =>
      obtain ⟨e', q⟩ := get e (by simp)
      rw [q]; exact st.sl i _ e'
    | od ks ds =>
      obtain ⟨e', q⟩ := get e (by simp)
      rw [q]; exact st.sl i _ e'
    | ob ns ds =>
      obtain ⟨e', q⟩ := get e (by simp)
      rw [q]; exact st.sl i _ e'
  · have nx : x ≠ .un := fun z => by subst z; cases ox
    have ny : y ≠ .un := fun z => by subst z; cases oy
    obtain ⟨ex', q1⟩ := get ex nx
    obtain ⟨ey', q2⟩ := get ey ny
    rw [q1] at e1
    rw [q2] at e2
    exact st.dis i j x y p hij ex' ey' ox oy e1 e2
theorem StS.nox (st : StS K mg fx Hf H σ G s) : StS K mg fx.nox Hf H σ G s := ⟨st.ste, st.bag, st.bagg, st.len, fun i x e => by
  have so := st.sl i x e
  cases x with
  | un => trivial
  | im d => exact so
  | ow ds => exact so
  | od ks ds => exact so
  | ob ns ds => exact so
  | bg => exact so, st.dis⟩
end
section
variable {X : Cx} {fx : Fx} {m : Type → Type} [Mo m] {G : List Sl} {γ : Type} {kk : Nat}
/-- the reading of a comprehension -/
theorem lc_read {xi : m (List D)} {u : D → Option γ} {xt : γ → m Bool} {xe : γ → m D} {g : TG} {st : List Sl → γ → List Sl} {is vs : List Nat} {tg : Expr} {K : PySem.W.Frag} {mg : Str → Option Value}
    (hg : ∀ {G : List Sl} {Hf : Hp} {d : D} {v : V} {σ : L2.St} {H : Hp} {s : S} {c : γ} {Q : L2.St → Hp → Prop}, StS K mg fx.nox Hf H σ G s → Is K mg Hf d v → u d = some c → (∀ σ', (∀ j, j ∉ is → σ'[j]? = σ[j]?) → σ'.length = σ.length → StS K mg fx.nox Hf H σ' (st G c) s → Q σ' H) → g v σ H Q)
    (hsub : ∀ i ∈ is, i ∈ vs) {σ : L2.St} {H : Hp} {Q : VK} (h : tF K mg fx G (do let ds ← xi; lcF u xt xe ds) σ H Q) :
    tLc (tI K mg fx G xi) g (fun σ H Q => ∃ c, tT K mg fx.nox (st (wipeG G vs) c) (xt c) σ H Q) (fun σ H Q => ∃ c, tE K mg fx.nox (st (wipeG G vs) c) (xe c) σ H Q) vs σ H Q := by
  obtain ⟨Hf0, s0, st0, w0⟩ := h
  refine ⟨Hf0, s0, st0, Mo.wp_mono (Mo.wp_bind w0) (fun ds s1 w1 J Hf1 H1 e1 bg1 yl Da hD => ?_) fun e s' k => k⟩
  have st1 := st0.step e1 bg1
  obtain ⟨nH0, nb, nf⟩ := st1.new0 hD
  have hn0 : H Da = none := by
    cases q : H Da with
    | none => rfl
    | some o => exact absurd hD (e1.dom Da (by rw [q]; simp))
  have no := st1.owNe hD
  refine ⟨fun i m H' => m = ds.length - i ∧ i ≤ ds.length ∧ ∃ Hf s acc accV, Sub Hf1 Hf ∧ StS K mg fx Hf H' σ G s ∧ Ste fx.bag Hf0 H Hf H' ∧ H' Da = some (.lst accV) ∧ IsL K mg Hf acc accV ∧ Hf Da = none ∧ acc.length ≤ i ∧
    Mo.wp (lcF u xt xe (ds.drop i)) s (fun r s' => FrQ K mg fx Hf0 H Q (acc ++ r) s') (EX K mg fx G σ), ⟨ds.length, by simp, Nat.zero_le _, Hf1, s1, [], [], .refl _, st1.other nf nH0 nb no, e1.upd hn0 nf, upd_same, .nil, nf, Nat.zero_le _, w1⟩, ?_⟩
  rintro i m H2 ⟨rfl, hi, Hf2, s2, acc, accV, sb2, st2, e2, hD2, l2, nf2, la, w2⟩
  obtain ⟨y1, y2⟩ := yl.2 Hf2 H2 sb2 st2.top i
  by_cases hlt : i < ds.length
  · obtain ⟨go, yd⟩ := y1 ds[i] (List.getElem?_eq_getElem hlt)
    rw [List.drop_eq_getElem_cons hlt] at w2
    have w4 := Mo.wp_lift (Mo.wp_bind w2)
    refine .inr ⟨go, fun H' => i + 1 ≤ ds.length ∧ ∃ Hf s acc accV, Sub Hf1 Hf ∧ StS K mg fx Hf H' σ G s ∧ Ste fx.bag Hf0 H Hf H' ∧ H' Da = some (.lst accV) ∧ IsL K mg Hf acc accV ∧ Hf Da = none ∧ acc.length ≤ i + 1 ∧
      Mo.wp (lcF u xt xe (ds.drop (i + 1))) s (fun r s' => FrQ K mg fx Hf0 H Q (acc ++ r) s') (EX K mg fx G σ), fun H' q => ⟨ds.length - (i + 1), by omega, rfl, q⟩, fun x H3 y => ?_⟩
    obtain ⟨Hf3, e3, is3⟩ := yd x H3 y
    cases q : u ds[i] with
    | none => rw [q] at w4; exact w4.elim
    | some c =>
      rw [q] at w4
      have st3 := st2.step e3.wide (e3.bag st2.bag)
      refine hg (st3.wiped vs) is3 q fun σ2 hs hl st4 => ⟨wipe_eq hl fun j hj => hs j fun z => hj (hsub j z), c, Hf3, s2, st4, ?_⟩
      refine Mo.wp_mono (Mo.wp_noex (Mo.wp_bind w4)) (fun b s5 w5 b' Hf5 H5 e5 bg5 eb => ?_) fun _ _ f => f.elim
      subst eb
      have st5 := st3.step (fx := fx) (Hf' := Hf5) (H' := H5) e5 bg5
      have hD5 : H5 Da = some (.lst accV) := e5.keep _ _ (e3.keep _ _ hD2 (by simp)) nb
      have nf5 : Hf5 Da = none := e5.stayNone (e3.stayNone nf2 (by rw [hD2]; simp)) (by rw [e3.keep _ _ hD2 (by simp)]; simp)
      have e25 : Ste fx.bag Hf2 H2 Hf5 H5 := (e3.wide).trans e5
      cases b' with
      | true =>
        refine ⟨c, Hf5, s5, st4.step e5 bg5, ?_⟩
        have w6 : Mo.wp (Mo.noex (xe c) >>= fun y => lcF u xt xe (ds.drop (i + 1)) >>= fun r => pure (y :: r)) s5 _ _ := w5
        refine Mo.wp_mono (Mo.wp_noex (Mo.wp_bind w6)) (fun y s6 w7 yv Hf6 H6 e6 bg6 is6 => ?_) fun _ _ f => f.elim
        have hD6 : H6 Da = some (.lst accV) := e6.keep _ _ hD5 nb
        have nf6 : Hf6 Da = none := e6.stayNone nf5 (by rw [hD5]; simp)
        have e26 := e25.trans e6
        have st6 := st5.step (fx := fx) (Hf' := Hf6) (H' := H6) e6 bg6
        refine ⟨accV, hD6, ?_, hlt, Hf6, s6, acc ++ [y], accV ++ [yv], sb2.trans e26.sub, st6.other nf6 nH0 nb no, (e2.trans e26).upd hn0 nf6, upd_same, (l2.mono e26.sub).app (.cons is6 .nil), nf6, ?_, ?_⟩
        · rw [← l2.len]
          exact Nat.lt_of_lt_of_le (Nat.lt_of_le_of_lt la hlt) yl.1
        · rw [List.length_append, List.length_singleton]
          omega
        · refine Mo.wp_mono (Mo.wp_bind w7) (fun r s8 w8 => ?_) fun e s' k => k
          have w9 := Mo.wp_pure w8
          rw [List.append_assoc, List.singleton_append]
          exact w9
      | false => exact ⟨hlt, Hf5, s5, acc, accV, sb2.trans e25.sub, st5, e2.trans e25, hD5, l2.mono e25.sub, nf5, Nat.le_succ_of_le la, w5⟩
  · have e : i = ds.length := by omega
    subst e
    refine .inl ⟨y2 (Nat.le_refl _), ?_⟩
    rw [List.drop_length] at w2
    have w3 := Mo.wp_pure w2
    rw [List.append_nil] at w3
    exact w3 Da accV Hf2 H2 e2 st2.bag hD2 nf2 hn0 l2 (Nat.le_trans la yl.1)
end
end DL
namespace DL
open PySem L2
theorem Cok.blk {X : Cx} {fx : Fx} {kk : Nat} (C : Cok X fx kk) (s : Shared) (H : Hp) (scope : Scope) (cenv : Env) (fp : List Addr) : Cok (X.blk s H scope cenv fp) fx.nox kk :=
  ⟨C.calm, fun _ => PassesOwn.never, ⟨fun _ _ ⟨_, _, _, _, _, _, _, _, _, _, _, _, _, _, _, _, w⟩ => w.1.elim, fun _ _ ⟨_, _, _, _, _, _, _, _, _, _, _, _, _, _, _, _, w⟩ => w.elim⟩, C.rm, C.nd, C.gd⟩
theorem pts_true {X : Cx} {fx : Fx} {m : Type → Type} [Mo m] {G : List Sl} : PTs X [] (tT X.K X.mg fx G (pure true : m Bool)) := ⟨fun pins s σ H Q I ⟨Hf, s', h⟩ => pts_nil.run pins s σ H Q I (h.pure rfl)⟩
theorem pts_test {X : Cx} {fx : Fx} {m : Type → Type} [Mo m] {G : List Sl} {c : Expr} {t : m Bool} (h : PT X c (tT X.K X.mg fx G t)) : PTs X [c] (tT X.K X.mg fx G t) := pts_one h
theorem pts_ex {X : Cx} {ι : Type} {ifs : List Expr} {t : ι → TT} (h : ∀ i, PTs X ifs (t i)) : PTs X ifs (fun σ H Q => ∃ i, t i σ H Q) := ⟨fun pins s σ H Q I ⟨i, q⟩ => (h i).run pins s σ H Q I q⟩
theorem pe_ex {X : Cx} {ι : Type} {e : Expr} {t : ι → TE} (h : ∀ i, PE X e (t i)) : PE X e (fun σ H Q => ∃ i, t i σ H Q) := ⟨fun pins s σ H Q I ⟨i, q⟩ => (h i).run pins s σ H Q I q⟩
section
variable {X : Cx} {fx : Fx} {m : Type → Type} [Mo m] {G : List Sl} {γ α β : Type} {kk : Nat} {elt tg iter : Expr} {ifs : List Expr} {scope : Scope} {pos : Pos} {xi : m (List D)} {u : D → Option γ} {xt : γ → m Bool} {xe : γ → m D} {g : TG} {st : List Sl → γ → List Sl} {is : List Nat}
/-- [elt for tg in iter if ..] -/
theorem df_lc (own : List (Str × Nat)) (C : Cok X fx kk) (hi : PI X tg iter (tI X.K X.mg fx G xi)) (ok : BlkOk X.N X.env.scope scope own)
    (hg : ∀ (s : Shared) (H : Hp) (A : Addr) (cl : List (Str × Addr)) (fp : List Addr), PGd (X.blk s H scope (compEnvC scope cl A X.env) fp) fx.nox tg g u st is)
    (ht : ∀ (s : Shared) (H : Hp) (A : Addr) (cl : List (Str × Addr)) (fp : List Addr), Cok (X.blk s H scope (compEnvC scope cl A X.env) fp) fx.nox kk → ∀ c, PTs (X.blk s H scope (compEnvC scope cl A X.env) fp) ifs (tT X.K X.mg fx.nox (st (wipeG G (own.map (·.2))) c) (xt c)))
    (he : ∀ (s : Shared) (H : Hp) (A : Addr) (cl : List (Str × Addr)) (fp : List Addr), Cok (X.blk s H scope (compEnvC scope cl A X.env) fp) fx.nox kk → ∀ c, PE (X.blk s H scope (compEnvC scope cl A X.env) fp) elt (tE X.K X.mg fx.nox (st (wipeG G (own.map (·.2))) c) (xe c)))
    (hsub : ∀ i ∈ is, i ∈ own.map (·.2)) (hs : ∀ x, foldedSetIterable iter X.env x = pure x := by intro _; rfl) :
    PE X (.ListComp elt [⟨tg, iter, ifs, 0⟩] scope pos) (tF X.K X.mg fx G (do let ds ← xi; lcF u xt xe ds)) :=
  peI (pe_lc (own := own) C.calm C.nd hi ok (fun s H A cl fp => (hg s H A cl fp).1) (fun s H A cl fp => pts_ex (ht s H A cl fp (C.blk ..))) (fun s H A cl fp => pe_ex (he s H A cl fp (C.blk ..))) hs) fun σ H Q h =>
    lc_read (tg := tg) (fun {G Hf d v σ H s c Q} => (hg {} (fun _ => none) 0 [] []).2) hsub h
/-- x = a new list, the frame's own -/
theorem dss_asgOw {e : Expr} {rest : List Stmt} {ex : α → List Sl} {exb : β → List Sl} {x : m (List D)} {k : List D → m (Fl α β)} (C : Cok X fx kk) {n : Str} {pos' : Pos} (i : Nat) (he : PE X e (tF X.K X.mg fx G x)) (hr : ∀ ds, PSs X rest (tS X.K X.mg fx (G.set i (.ow ds)) ex exb (k ds))) (hi : X.N[i]? = some n := by rfl) (hx : Loc X.env.scope n := by first | exact Or.inl rfl | exact Or.inr rfl)
    (hs : swapsWith e (some (.Name n pos')) pos.line X.env = pure false := by rfl) (hf : X.fn n = true ∨ X.env.scope.names.lookup n = some .local := by first | exact .inl rfl | exact .inr rfl) (hg : GxOk fx G := by first | exact True.intro | repeat' (first | exact True.intro | exact Or.inl rfl | exact Or.inr rfl | refine And.intro ?_ ?_)) :
    PSs X (.Assign [.Name n pos'] e pos :: rest) (tS X.K X.mg fx G ex exb (do let ds ← x; k ds)) := pssI (pss_cons (ps_set C.nd hi hx he hs hf) (pss_ex hr)) fun D σ H ⟨Hf, s, h⟩ =>
  ⟨Hf, s, h.1, Mo.wp_mono (Mo.wp_bind h.2) (fun ds s1 w p vs Hf1 H1 e bg hp hf1 hn l hz => by
    have st1 := h.1.step e bg
    have n0 : fx.H0 p = none ∧ p ∉ fx.bag := ⟨(h.1.new0 hn).1, (h.1.new0 hn).2.1⟩
    exact ⟨ds, Hf1, s1, st1.setOw (h.1.owNe hn) hp hf1 n0.1 n0.2 l hz, Mo.wp_mono w (fun f s2 h2 => h2.up e.sub) fun e s' k => k⟩) fun e s' k => exs_ex hg k⟩
/-- x = [.. for ..] on one line -/
theorem ps_setLcF (own : List (Str × Nat)) (C : Cok X fx kk) {n : Str} {pos' : Pos} (i : Nat) (hi : PI X tg iter (tI X.K X.mg fx G xi)) (ok : BlkOk X.N X.env.scope scope own)
    (hg : ∀ (s : Shared) (H : Hp) (A : Addr) (cl : List (Str × Addr)) (fp : List Addr), PGd (X.blk s H scope (compEnvC scope cl A X.env) fp) fx.nox tg g u st is)
    (ht : ∀ (s : Shared) (H : Hp) (A : Addr) (cl : List (Str × Addr)) (fp : List Addr), Cok (X.blk s H scope (compEnvC scope cl A X.env) fp) fx.nox kk → ∀ c, PTs (X.blk s H scope (compEnvC scope cl A X.env) fp) ifs (tT X.K X.mg fx.nox (st (wipeG G (own.map (·.2))) c) (xt c)))
    (he : ∀ (s : Shared) (H : Hp) (A : Addr) (cl : List (Str × Addr)) (fp : List Addr), Cok (X.blk s H scope (compEnvC scope cl A X.env) fp) fx.nox kk → ∀ c, PE (X.blk s H scope (compEnvC scope cl A X.env) fp) elt (tE X.K X.mg fx.nox (st (wipeG G (own.map (·.2))) c) (xe c)))
    (hsub : ∀ i ∈ is, i ∈ own.map (·.2)) {spos : Pos} (hn : X.N[i]? = some n := by rfl) (hyl : X.env.scope.names.lookup n = some .local := by rfl)
    (hsw : swapsWith (.ListComp elt [⟨tg, iter, ifs, 0⟩] scope pos) (some (.Name n pos')) spos.line X.env = pure true := by exact sw_true rfl rfl rfl (by decide +kernel)) (hs : ∀ x, foldedSetIterable iter X.env x = pure x := by intro _; rfl) :
    PS X (.Assign [.Name n pos'] (.ListComp elt [⟨tg, iter, ifs, 0⟩] scope pos) spos) (fun D σ H => tF X.K X.mg fx G (do let ds ← xi; lcF u xt xe ds) σ H fun x H1 => D.nx (σ.set i (some x)) H1) :=
  psI (ps_setLc (own := own) C.calm C.nd hn hyl hsw hi ok (fun s H A cl fp => (hg s H A cl fp).1) (fun s H A cl fp => pts_ex (ht s H A cl fp (C.blk ..))) (fun s H A cl fp => pe_ex (he s H A cl fp (C.blk ..))) hs) fun D σ H h =>
    lc_read (tg := tg) (fun {G Hf d v σ H s c Q} => (hg {} (fun _ => none) 0 [] []).2) hsub h
/-- a statement that stores a new list: as a datum -/
theorem dss_setF {stm : Stmt} {rest : List Stmt} {ex : α → List Sl} {exb : β → List Sl} {x : m (List D)} {k : D → m (Fl α β)} {i : Nat} (h : PS X stm (fun D σ H => tF X.K X.mg fx G x σ H fun v H1 => D.nx (σ.set i (some v)) H1)) (hr : ∀ d, PSs X rest (tS X.K X.mg fx (G.set i (.im d)) ex exb (k d))) (hg : GxOk fx G := by first | exact True.intro | repeat' (first | exact True.intro | exact Or.inl rfl | exact Or.inr rfl | refine And.intro ?_ ?_)) :
    PSs X (stm :: rest) (tS X.K X.mg fx G ex exb (do let d ← mkL x; k d)) := pssI (pss_cons h (pss_ex hr)) fun D σ H ⟨Hf, s, h⟩ =>
  ⟨Hf, s, h.1, Mo.wp_mono (Mo.wp_bind (Mo.wp_bind h.2)) (fun ds s1 w p vs Hf1 H1 e bg hp hf1 hn l hz => by
    have st1 := h.1.step e bg
    have n0 := h.1.new0 hn
    have w' := Mo.wp_pure w
    have st2 := st1.setOw (i := i) (h.1.owNe hn) hp hf1 n0.1 n0.2.1 l hz
    have sb : Sub Hf1 (L2.upd Hf1 p (.lst vs)) := fun a o q => by
      have ne : a ≠ p := fun z => by rw [z, hf1] at q; cases q
      rw [upd_ne ne]; exact q
    have e2 : Ste fx.bag Hf H (L2.upd Hf1 p (.lst vs)) H1 := by
      refine ⟨e.sub.trans sb, fun a o q => ?_, e.keep, e.dom, fun a o q => ?_⟩
      · by_cases c : a = p
        · subst c; rw [upd_same] at q; cases q; exact hp
        · rw [upd_ne c] at q; exact e.top a o q
      · by_cases c : a = p
        · subst c; exact .inr hn
        · rw [upd_ne c] at q; exact e.fresh a o q
    exact ⟨.lst ds, _, s1, (h.1.step e2 bg).set ⟨hz, p, vs, rfl, upd_same, l.mono sb⟩, Mo.wp_mono w' (fun f s2 h2 => h2.up e2.sub) fun e s' k => k⟩) fun e s' k => exs_ex hg k⟩
/-- the own list of slot i is a datum from here on -/
theorem dss_frz {rest : List Stmt} {ex : α → List Sl} {exb : β → List Sl} {ds : List D} {x : m (Fl α β)} (i : Nat) (hG : G[i]? = some (.ow ds)) (hr : PSs X rest (tS X.K X.mg fx (G.set i (.im (.lst ds))) ex exb x)) : PSs X rest (tS X.K X.mg fx G ex exb x) := pssI hr fun D σ H ⟨Hf, s, h⟩ => by
  obtain ⟨Hf', sb, st⟩ := h.1.freeze hG
  exact ⟨Hf', s, st, Mo.wp_mono h.2 (fun f s2 h2 => h2.up sb) fun e s' k => k⟩
def apd (ds : List D) (d : D) : Option (List D) := if ds.length < sizeLine then some (ds ++ [d]) else none
/-- x.append(e), x the frame's own -/
theorem dss_append {e : Expr} {rest : List Stmt} {ex : α → List Sl} {exb : β → List Sl} {x : m D} {ds : List D} {k : List D → m (Fl α β)} {n : Str} {np apos cpos : Pos} (i : Nat) (he : PE X e (tE X.K X.mg fx G x)) (hr : ∀ ds, PSs X rest (tS X.K X.mg fx (G.set i (.ow ds)) ex exb (k ds)))
    (hG : G[i]? = some (.ow ds) := by rfl) (hN : X.N[i]? = some n := by rfl) (hv : Vis X.env.scope n := by first | exact Or.inl rfl | exact Or.inr (Or.inl rfl) | exact Or.inr (Or.inr rfl)) (hd : (n == ("__debug__" : Str)) = false := by decide) (hcd : (n == ("__classdict__" : Str)) = false := by decide)
    (hst : starEach [e] X.env = [(false, eval e X.env)] := by rfl) (hbase : attributeBase (.Name n np) "append" X.env (eval (.Name n np) X.env) = eval (.Name n np) X.env := by rfl)
    (hfew : ((backTo cpos (starEach [e] X.env)).all (fun x => !x.1) && (backToKw cpos (keywordEach [] X.env)).all (fun x => x.1.isSome) && decide ([e].length + ([] : List Keyword).length + (if ([] : List Keyword).isEmpty then 0 else 1) < 30)) = true := by rfl)
    (hline : (apos.endLine == cpos.line) = true := by rfl) (hplain : (backTo cpos (starEach [] X.env)).any (·.1) = false := by rfl)
    (hs : swapsWith (.Call (.Attribute (.Name n np) "append" apos) [e] [] cpos) none pos.line X.env = pure false := by rfl) (hg : GxOk fx G := by first | exact True.intro | repeat' (first | exact True.intro | exact Or.inl rfl | exact Or.inr rfl | refine And.intro ?_ ?_)) :
    PSs X (.Expr (.Call (.Attribute (.Name n np) "append" apos) [e] [] cpos) pos :: rest) (tS X.K X.mg fx G ex exb (do let d ← x; let ds ← ask (apd ds d); k ds)) :=
  pssI (pss_cons (ps_expr (pe_bm PySem.F.plainAttrs_list PySem.F.slot_list_append PySem.F.type_list_append mt_append (pe_var hN hv hd hcd) (pa_cons he pa_nil hst) hbase hfew hline hst hplain) hs) (pss_ex hr)) fun D σ H ⟨Hf, s, h⟩ => by
    obtain ⟨p, vs, ep, hp, hf, h0, nb, l, hz⟩ := h.1.sl i _ hG
    refine ⟨.ref p, ep, .inl ⟨rfl, _, .inl (.inl hp)⟩, ?_⟩
    refine ((h.bind hg).mono fun v H1 ⟨d, Hf1, s1, sb, r, h1⟩ => ?_).to
    obtain ⟨p1, vs1, ep1, hp1, hf1, _, _, l1, hz1⟩ := h1.1.sl i _ hG
    have eq : p1 = p := by rw [ep] at ep1; cases ep1; rfl
    subst eq
    have k' := Mo.wp_lift (Mo.wp_bind h1.2)
    by_cases c : ds.length < sizeLine
    · have e1 : apd ds d = some (ds ++ [d]) := if_pos c
      rw [e1] at k'
      refine ⟨p1, vs1, v, rfl, rfl, hp1, by rw [← l1.len]; exact c, ds ++ [d], Hf1, s1, h1.1.updOw hG ep (l1.app (.cons r .nil)) (by rw [List.length_append, List.length_singleton]; exact c), k'⟩
    · have e1 : apd ds d = none := if_neg c
      rw [e1] at k'
      exact k'.elim
end
end DL
namespace DL
open PySem L2
/-! ### items and slices -/
theorem IsL.atI {K : PySem.W.Frag} {mg : Str → Option Value} {H : Hp} {ds : List D} {vs : List V} {i : Int} {d : D} (l : IsL K mg H ds vs) (e : L2.atI ds i = some d) : ∃ v, L2.atI vs i = some v ∧ Is K mg H d v := by
  unfold L2.atI at e ⊢
  rw [← l.len]
  cases q : ixN ds.length i with
  | none => rw [q] at e; cases e
  | some j =>
    rw [q] at e
    exact l.get e
def ixD : D → D → Option D
  | .lst ds, .int i => L2.atI ds i
  | .tup ds, .int i => L2.atI ds i
  | .str s, .int i => (L2.atI s i).map fun c => .str [c]
  | .scr is, .int i => (L2.atI is i).map .int
  | _, _ => none
def cutL {α : Type} (xs : List α) (lo hi : Option Int) : List α := (xs.drop (HT.sIx xs.length 0 lo)).take (HT.sIx xs.length xs.length hi - HT.sIx xs.length 0 lo)
theorem cutL_len {α : Type} (xs : List α) (lo hi : Option Int) : (cutL xs lo hi).length ≤ xs.length := by
  unfold cutL
  rw [List.length_take, List.length_drop]
  omega
def sliceD : D → Option Int → Option Int → Option D
  | .lst ds, lo, hi => some (.lst (cutL ds lo hi))
  | .tup ds, lo, hi => some (.tup (cutL ds lo hi))
  | .str s, lo, hi => some (.str (cutL s lo hi))
  | .scr is, lo, hi => some (.lst ((cutL is lo hi).map .int))
  | _, _, _ => none
section
variable {X : Cx}
theorem oix : IxR X (rD2 X.K X.mg ixD) := by
  intro value slice pins s σ H x y v u Q I rx ry h hs
  obtain ⟨Hf, dx, dy, d, sb, ix, iy, e, q⟩ := h
  unfold ixD at e
  split at e
  · obtain ⟨z1, p1, v1, rfl, h1, l1⟩ := ix
    cases iy
    obtain ⟨w, hw, iw⟩ := l1.atI e
    exact ix_list value slice pins s σ H _ _ v u Q I rx ry ⟨_, _, _, _, rfl, rfl, .inl (.inl (sb _ _ h1)), hw, q _ Hf H (.refl sb) iw⟩ hs
  · obtain ⟨z1, p1, v1, rfl, h1, l1⟩ := ix
    cases iy
    obtain ⟨w, hw, iw⟩ := l1.atI e
    exact ix_tup value slice pins s σ H _ _ v u Q I rx ry ⟨_, _, _, _, rfl, rfl, sb.sqt h1, hw, q _ Hf H (.refl sb) iw⟩ hs
  · rename_i z i
    obtain ⟨rfl, hz⟩ := ix
    cases iy
    cases e1 : L2.atI z i with
    | none => rw [e1] at e; cases e
    | some c =>
      rw [e1] at e
      cases e
      exact ix_str value slice pins s σ H _ _ v u Q I rx ry ⟨_, _, c, rfl, rfl, by rw [str_len]; exact hz, by rw [str_tl]; exact e1, q _ Hf H (.refl sb) ⟨rfl, by show 1 ≤ sizeLine; decide⟩⟩ hs
  · rename_i z i
    obtain ⟨z1, p1, rfl, h1⟩ := ix
    cases iy
    cases e1 : L2.atI z i with
    | none => rw [e1] at e; cases e
    | some c =>
      rw [e1] at e
      cases e
      refine ix_list value slice pins s σ H _ _ v u Q I rx ry ⟨_, _, _, _, rfl, rfl, sb.sql h1.sq, ?_, q _ Hf H (.refl sb) (is_int _)⟩ hs
      unfold L2.atI at e1 ⊢
      rw [List.length_map]
      cases q2 : ixN z.length i with
      | none => rw [q2] at e1; cases e1
      | some j =>
        rw [q2] at e1
        have e1' : z[j]? = some c := e1
        show (z.map V.int)[j]? = _
        rw [List.getElem?_map, e1']
        rfl
  · cases e
theorem isL_ints {K : PySem.W.Frag} {mg : Str → Option Value} {H : Hp} : ∀ z : List Int, IsL K mg H (z.map .int) (z.map V.int)
  | [] => rfl
  | c :: z => ⟨_, _, rfl, is_int _, isL_ints z⟩
theorem osl : SlR X (fun x lo hi H Q => ∃ Hf dx d, Sub Hf H ∧ Is X.K X.mg Hf dx x ∧ sliceD dx lo hi = some d ∧ ∀ u Hf' H', Ste [] Hf H Hf' H' → Is X.K X.mg Hf' d u → Q u H') := by
  intro pins s σ H x v vl vu lo hi sl Q I rx hs pl pu h
  obtain ⟨Hf, dx, d, sb, ix, e, q⟩ := h
  unfold sliceD at e
  split at e
  · cases e
    obtain ⟨z1, p1, v1, rfl, h1, l1⟩ := ix
    refine sl_list pins s σ H _ v vl vu lo hi sl Q I rx hs pl pu ⟨_, _, rfl, .inl (.inl (sb _ _ h1)), fun p hp => q _ _ _ (.new sb hp) ?_⟩
    refine ⟨Nat.le_trans (cutL_len _ _ _) z1, p, _, rfl, upd_same, ?_⟩
    have l2 := l1.mono (Ste.new (bag := []) (o := .lst (cutV v1 lo hi)) sb hp).sub
    unfold cutL cutV
    rw [l1.len]
    exact (l2.drop _).take _
  · cases e
    obtain ⟨z1, p1, v1, rfl, h1, l1⟩ := ix
    refine sl_tupA pins s σ H _ v vl vu lo hi sl Q I rx hs pl pu ⟨_, _, rfl, sb.sqt h1, fun z => ?_, fun z p hp => q _ _ _ (.new sb hp) ?_⟩
    · refine q _ _ _ (.refl sb) ⟨Nat.le_trans (cutL_len _ _ _) z1, p1, v1, rfl, h1, ?_⟩
      unfold cutL
      rw [l1.len, z.1, z.2, List.drop_zero, Nat.sub_zero, ← l1.len, List.take_length]
      exact l1
    · refine ⟨Nat.le_trans (cutL_len _ _ _) z1, p, _, rfl, .inl (.inl upd_same), ?_⟩
      have l2 := l1.mono (Ste.new (bag := []) (o := .tup (cutV v1 lo hi)) sb hp).sub
      unfold cutL cutV
      rw [l1.len]
      exact (l2.drop _).take _
  · cases e
    obtain ⟨rfl, hz⟩ := ix
    refine sl_str pins s σ H _ v vl vu lo hi sl Q I rx hs pl pu ⟨_, rfl, by rw [str_len]; exact hz, q _ Hf H (.refl sb) ?_⟩
    refine ⟨?_, Nat.le_trans (cutL_len _ _ _) hz⟩
    unfold cutS cutL
    rw [str_tl, str_len]
  · cases e
    obtain ⟨z1, p1, rfl, h1⟩ := ix
    refine sl_list pins s σ H _ v vl vu lo hi sl Q I rx hs pl pu ⟨_, _, rfl, sb.sql h1.sq, fun p hp => q _ _ _ (.new sb hp) ?_⟩
    refine ⟨by rw [List.length_map]; exact Nat.le_trans (cutL_len _ _ _) z1, p, _, rfl, upd_same, ?_⟩
    have e2 : ∀ (z : List Int) (lo hi : Option Int), cutV (z.map V.int) lo hi = (cutL z lo hi).map V.int := fun z lo hi => by
      unfold cutL cutV
      rw [List.length_map, List.map_take, List.map_drop]
    rw [e2]
    exact isL_ints _
  · cases e
end
section
variable {X : Cx} {fx : Fx} {m : Type → Type} [Mo m] {G : List Sl} {a b e : Expr} {lo hi : Option Expr} {pos p2 : Pos} {x y : m D} {tl th : m (Option Int)}
theorem de_ix (ha : PE X a (tE X.K X.mg fx G x)) (hb : PE X b (tE X.K X.mg fx G y)) (hs : PlainIx b := by exact fun _ _ => rfl) : PE X (.Subscript a b pos) (tE X.K X.mg fx G (do let u ← x; let v ← y; ask (ixD u v))) := peI (pe_ix oix ha hb hs) fun σ H Q ⟨Hf, s, h⟩ =>
  (h.bind.mono fun v1 H1 ⟨d1, Hf1, s1, sb1, r1, h1⟩ => (h1.bind.mono fun v2 H2 ⟨d2, Hf2, s2, sb2, r2, h2⟩ => by
    obtain ⟨d, e, q⟩ := h2.ask
    exact ⟨Hf2, d1, d2, d, h2.1.top, r1.mono sb2, r2, e, q⟩).to).to
theorem poI {o : Option Expr} {t t' : TO} (h : PO X o t) (w : ∀ σ H Q, t' σ H Q → t σ H Q) : PO X o t' := ⟨fun pins s σ H Q I q => h.run pins s σ H Q I (w _ _ _ q)⟩
abbrev tOp' (K : PySem.W.Frag) (mg : Str → Option Value) (fx : Fx) (G : List Sl) (x : m (Option Int)) : TO := tG K mg fx G (fun _ a b => b = a) x
theorem do_none : PO X none (tOp' X.K X.mg fx G (pure none : m (Option Int))) := poI po_none fun σ H Q ⟨Hf, s, h⟩ => h.pure rfl
theorem do_some (he : PE X e (tE X.K X.mg fx G x)) : PO X (some e) (tOp' X.K X.mg fx G (do let d ← x; let i ← ask (intOf d); pure (some i))) := poI (po_some he) fun σ H Q ⟨Hf, s, h⟩ =>
  (h.bind.mono fun v1 H1 ⟨d1, Hf1, s1, sb1, r1, h1⟩ => by
    have k := Mo.wp_lift (Mo.wp_bind h1.2)
    cases d1 with
    | int i => exact ⟨i, r1, (Mo.wp_pure k) _ Hf1 H1 (.refl h1.1.top) h1.1.bag rfl⟩
    | _ => exact k.elim).to
theorem de_sl (he : PE X e (tE X.K X.mg fx G x)) (hl : PO X lo (tOp' X.K X.mg fx G tl)) (hu : PO X hi (tOp' X.K X.mg fx G th)) : PE X (.Subscript e (.Slice lo hi none p2) pos) (tE X.K X.mg fx G (do let d ← x; let l ← tl; let u ← th; ask (sliceD d l u))) :=
  peI (pe_slice osl he hl hu) fun σ H Q ⟨Hf, s, h⟩ =>
  (h.bind.mono fun v1 H1 ⟨d1, Hf1, s1, sb1, r1, h1⟩ => (h1.bind.mono fun v2 H2 ⟨d2, Hf2, s2, sb2, r2, h2⟩ => (h2.bind.mono fun v3 H3 ⟨d3, Hf3, s3, sb3, r3, h3⟩ => by
    subst r2 r3
    obtain ⟨d, e, q⟩ := h3.ask
    exact ⟨Hf3, d1, d, h3.1.top, (r1.mono sb2).mono sb3, e, q⟩).to).to).to
end
/-! ### built-in functions -/
def lenD : List D → Option D
  | [.lst ds] => some (.int ds.length)
  | [.tup ds] => some (.int ds.length)
  | [.str s] => some (.int s.length)
  | [.scr s] => some (.int s.length)
  | _ => none
def listD : List D → Option (List D)
  | [.lst ds] => some ds
  | [.tup ds] => some ds
  | [.str s] => some (chrs s)
  | _ => none
def tupleD : List D → Option D
  | [.lst ds] => some (.tup ds)
  | [.tup ds] => some (.tup ds)
  | _ => none
def intD : List D → Option D
  | [.int i] => some (.int i)
  | [.bl b] => some (.int (if b then 1 else 0))
  | _ => none
def absD : List D → Option D
  | [.int i] => some (.int (if i < 0 then -i else i))
  | _ => none
section
variable {X : Cx}
theorem oc_len : CallR X (.builtin "len") (rDs X.K X.mg lenD) := by
  intro pins s σ H xs us Q I r h
  obtain ⟨Hf, ds, d, sb, l, e, q⟩ := h
  unfold lenD at e
  split at e
  · cases e
    obtain ⟨v, r1, rfl, ⟨z1, p1, v1, rfl, h1, l1⟩, rfl⟩ := l
    exact call_len_seq pins s σ H _ us Q I r ⟨_, _, rfl, .inl (.inl (.inl (sb _ _ h1))), by rw [← l1.len]; exact q _ Hf H (.refl sb) (is_int _)⟩
  · cases e
    obtain ⟨v, r1, rfl, ⟨z1, p1, v1, rfl, h1, l1⟩, rfl⟩ := l
    exact call_len_seq pins s σ H _ us Q I r ⟨_, _, rfl, .inr (sb.sqt h1), by rw [← l1.len]; exact q _ Hf H (.refl sb) (is_int _)⟩
  · cases e
    obtain ⟨v, r1, rfl, ⟨rfl, hz⟩, rfl⟩ := l
    exact call_len_str pins s σ H _ us Q I r ⟨_, rfl, by rw [str_len]; exact hz, by rw [str_len]; exact q _ Hf H (.refl sb) (is_int _)⟩
  · cases e
    obtain ⟨v, r1, rfl, ⟨z1, p1, rfl, h1⟩, rfl⟩ := l
    exact call_len_seq pins s σ H _ us Q I r ⟨_, _, rfl, .inl (sb.sql h1.sq), by rw [List.length_map]; exact q _ Hf H (.refl sb) (is_int _)⟩
  · cases e
theorem oc_tuple : CallR X (.type "tuple") (rDs X.K X.mg tupleD) := by
  intro pins s σ H xs us Q I r h
  obtain ⟨Hf, ds, d, sb, l, e, q⟩ := h
  unfold tupleD at e
  split at e
  · cases e
    obtain ⟨v, r1, rfl, ⟨z1, p1, v1, rfl, h1, l1⟩, rfl⟩ := l
    refine call_tuple_of pins s σ H _ us Q I r ⟨_, _, rfl, .inl ⟨.inl (.inl (sb _ _ h1)), fun p hp => q _ _ _ (.new sb hp) ?_⟩⟩
    exact ⟨z1, p, _, rfl, .inl (.inl upd_same), l1.mono (Ste.new (bag := []) sb hp).sub⟩
  · cases e
    obtain ⟨v, r1, rfl, ⟨z1, p1, v1, rfl, h1, l1⟩, rfl⟩ := l
    exact call_tuple_of pins s σ H _ us Q I r ⟨_, _, rfl, .inr ⟨sb.sqt h1, q _ _ _ (.refl sb) ⟨z1, p1, v1, rfl, h1, l1⟩⟩⟩
  · cases e
theorem oc_int : CallR X (.type "int") (rDs X.K X.mg intD) := by
  intro pins s σ H xs us Q I r h
  obtain ⟨Hf, ds, d, sb, l, e, q⟩ := h
  unfold intD at e
  split at e
  · cases e
    obtain ⟨v, r1, rfl, rfl, rfl⟩ := l
    exact call_int1 pins s σ H _ us Q I r (.inl ⟨_, rfl, q _ Hf H (.refl sb) (is_int _)⟩)
  · cases e
    obtain ⟨v, r1, rfl, rfl, rfl⟩ := l
    exact call_int1 pins s σ H _ us Q I r (.inr ⟨_, rfl, q _ Hf H (.refl sb) (is_int _)⟩)
  · cases e
theorem oc_abs : CallR X (.builtin "abs") (rDs X.K X.mg absD) := by
  intro pins s σ H xs us Q I r h
  obtain ⟨Hf, ds, d, sb, l, e, q⟩ := h
  unfold absD at e
  split at e
  · cases e
    obtain ⟨v, r1, rfl, rfl, rfl⟩ := l
    exact call_abs pins s σ H _ us Q I r ⟨_, rfl, q _ Hf H (.refl sb) (is_int _)⟩
  · cases e
theorem call_list_chrs (hc : X.calm = true) : CallR X (.type "list") (fun xs H Q => ∃ z : List Nat, xs = [.str ⟨z.toArray⟩] ∧ z.length ≤ sizeLine ∧ ∀ q, H q = none → Q (.ref q) (upd H q (.lst (z.map fun c => .str ⟨#[c]⟩)))) := by
  intro pins s σ H xs us Q I r h
  obtain ⟨z, rfl, hz, q⟩ := h
  obtain ⟨u, rfl, rx⟩ := vals1 r
  obtain ⟨t, rfl⟩ := rx
  have hz' : (⟨z.toArray⟩ : Str).cps.size ≤ sizeLine := by
    show z.toArray.size ≤ sizeLine
    simpa using hz
  refine PySem.call_list_str (hn := hz') (I.ok.hd hc) _ t fun h' tk acc' c' hk hS hacc => ?_
  refine ⟨.ref s.heap.objs.size, upd H s.heap.objs.size (.lst (z.map fun c => .str ⟨#[c]⟩)), I.laid hk (Nat.le_refl _) (show ObjOk X.prog X.w _ _ _ (.lst (z.map fun c => .str ⟨#[c]⟩)) from ⟨by simpa using hz, acc'.toList, c', ?_, by rw [Array.toArray_toList]; exact hS⟩), rfl, q _ (I.hok.fresh (Nat.le_refl _))⟩
  have el : acc'.toList.length = z.length := by
    have := hacc.1
    simpa using this
  refine vals_of_at (by rw [List.length_map, el]) fun j x w h1 h2 => ?_
  obtain ⟨c, u, hc', ew⟩ := hacc.2 j w (by rw [← Array.getElem?_toList]; exact h2)
  subst ew
  have hc2 : z[j]? = some c := by
    have : z.toArray[j]? = some c := hc'
    rwa [List.getElem?_toArray] at this
  rw [List.getElem?_map, hc2] at h1
  cases h1
  exact ⟨u, rfl⟩
/-- list(..): a new list -/
def rDl (K : PySem.W.Frag) (mg : Str → Option Value) (g : List D → Option (List D)) : List V → Hp → VK → Prop := fun xs H Q => ∃ Hf ds es, Sub Hf H ∧ IsL K mg Hf ds xs ∧ g ds = some es ∧ es.length ≤ sizeLine ∧ ∀ p Hf' H' vs, Ste [] Hf H Hf' H' → H p = none → Hf' p = none → H' p = some (.lst vs) → IsL K mg Hf' es vs → Q (.ref p) H'
theorem isL_chrs {K : PySem.W.Frag} {mg : Str → Option Value} {H : Hp} : ∀ z : List Nat, IsL K mg H (chrs z) (z.map fun c => .str ⟨#[c]⟩)
  | [] => rfl
  | c :: z => ⟨_, _, rfl, ⟨rfl, by show 1 ≤ sizeLine; decide⟩, isL_chrs z⟩
theorem oc_list (hc : X.calm = true) : CallR X (.type "list") (rDl X.K X.mg listD) := by
  intro pins s σ H xs us Q I r h
  obtain ⟨Hf, ds, d, sb, l, e, hz, q⟩ := h
  unfold listD at e
  split at e
  · cases e
    obtain ⟨v, r1, rfl, ⟨z1, p1, v1, rfl, h1, l1⟩, rfl⟩ := l
    exact call_list_of pins s σ H _ us Q I r ⟨_, _, rfl, .inl (.inl (.inl (sb _ _ h1))), fun p hp => q p Hf _ _ (.new' sb hp) hp (sb.none hp) upd_same l1⟩
  · cases e
    obtain ⟨v, r1, rfl, ⟨z1, p1, v1, rfl, h1, l1⟩, rfl⟩ := l
    exact call_list_of pins s σ H _ us Q I r ⟨_, _, rfl, .inr (sb.sqt h1), fun p hp => q p Hf _ _ (.new' sb hp) hp (sb.none hp) upd_same l1⟩
  · cases e
    obtain ⟨v, r1, rfl, ⟨rfl, hz⟩, rfl⟩ := l
    exact call_list_chrs hc pins s σ H _ us Q I r ⟨_, rfl, hz, fun p hp => q p Hf _ _ (.new' sb hp) hp (sb.none hp) upd_same (isL_chrs _)⟩
  · cases e
end
section
variable {X : Cx} {fx : Fx} {m : Type → Type} [Mo m] {G : List Sl} {e : Expr} {es : List Expr} {pos p : Pos} {ys : m (List D)}
theorem df_callTy {g : List D → Option (List D)} {T : String} {n : Str} (hc : CallR X (.type T) (rDl X.K X.mg g)) (hg : Gl X n) (hm : X.mg n = none) (hv : bootBuiltins n = some (.type T)) (ha : PA X (e :: es) (tA X.K X.mg fx G ys))
    (hn : n ≠ "__name__" := by decide) (hdb : (n == ("__debug__" : Str)) = false := by decide) (he : starEach (e :: es) X.env = (false, eval e X.env) :: starEach es X.env := by rfl) (hpl : (backTo pos (starEach es X.env)).any (·.1) = false := by rfl) :
    PE X (.Call (.Name n p) (e :: es) [] pos) (tF X.K X.mg fx G (do let ds ← ys; let ds ← ask (g ds); ask (szL ds))) := peI (pe_callTy hc hg hm hv ha hn hdb he hpl) fun σ H Q ⟨Hf, s, st, w⟩ =>
  ⟨Hf, s, st, Mo.wp_mono (Mo.wp_bind w) (fun ds s1 k vs Hf1 H1 e bg l => by
    have k' := Mo.wp_lift (Mo.wp_bind k)
    cases e1 : g ds with
    | none => rw [e1] at k'; exact k'.elim
    | some es =>
      rw [e1] at k'
      have k2 := Mo.wp_lift k'
      by_cases hz : es.length ≤ sizeLine
      · have e2 : szL es = some es := if_pos hz
        rw [e2] at k2
        exact ⟨Hf1, ds, es, (st.step e bg).top, l, e1, hz, fun p Hf' H' vs e3 hp hf' hp' l' => by
          have hn : H p = none := by
            cases q : H p with
            | none => rfl
            | some o => exact absurd hp (e.dom p (by rw [q]; simp))
          exact k2 p vs Hf' H' (e.trans e3.wide) (e3.bag bg) hp' hf' hn l' hz⟩
      · have e2 : szL es = none := if_neg hz
        rw [e2] at k2
        exact k2.elim) fun e s' k => k⟩
end
/-! ### join -/
def joinN (S : List Nat) : List (List Nat) → List Nat
  | [] => []
  | [p] => p
  | p :: q :: r => p ++ (S ++ joinN S (q :: r))
def strsOf : List D → Option (List (List Nat))
  | [] => some []
  | .str s :: r => (strsOf r).map (s :: ·)
  | _ :: _ => none
def joinD (a b : D) : Option D := match a, sqOf b with
  | .str S, some ds => match strsOf ds with
    | some ps => if (ps.map (·.length)).sum + ps.length * S.length ≤ 16777216 then some (.str (joinN S ps)) else none
    | none => none
  | _, _ => none
theorem joinN_eq (S : List Nat) : ∀ ps, joinN S ps = TL.joinL S ps
  | [] => rfl
  | [_] => rfl
  | p :: q :: r => by rw [joinN, TL.joinL, joinN_eq S (q :: r)]
theorem joinN_len (S : List Nat) : ∀ ps : List (List Nat), (joinN S ps).length ≤ (ps.map (·.length)).sum + ps.length * S.length
  | [] => by simp [joinN]
  | [p] => by simp [joinN]
  | p :: q :: r => by
    have := joinN_len S (q :: r)
    rw [joinN, List.length_append, List.length_append, List.map_cons, List.sum_cons, List.length_cons, Nat.add_mul]
    omega
theorem isL_strs {K : PySem.W.Frag} {mg : Str → Option Value} {H : Hp} : ∀ {ds : List D} {vs : List V} {ps : List (List Nat)}, IsL K mg H ds vs → strsOf ds = some ps → vs = ps.map fun p => .str ⟨p.toArray⟩
  | [], _, _, h, e => by cases h; cases e; rfl
  | .str s :: ds, _, _, h, e => by
    obtain ⟨v, r, rfl, ⟨rfl, _⟩, l⟩ := h
    unfold strsOf at e
    cases q : strsOf ds with
    | none => rw [q] at e; cases e
    | some ps => rw [q] at e; cases e; rw [isL_strs l q]; rfl
  | .non :: _, _, _, _, e => by cases e
  | .bl _ :: _, _, _, _, e => by cases e
  | .int _ :: _, _, _, _, e => by cases e
  | .tup _ :: _, _, _, _, e => by cases e
  | .lst _ :: _, _, _, _, e => by cases e
  | .dic _ _ :: _, _, _, _, e => by cases e
  | .ins _ _ _ :: _, _, _, _, e => by cases e
  | .scr _ :: _, _, _, _, e => by cases e
  | .xc _ _ _ _ :: _, _, _, _, e => by cases e
section
variable {X : Cx} {fx : Fx} {m : Type → Type} [Mo m] {G : List Sl} {o e : Expr} {apos pos : Pos} {x y : m D}
theorem de_join (ho : PE X o (tE X.K X.mg fx G x)) (he : PE X e (tE X.K X.mg fx G y)) (hs : starEach [e] X.env = [(false, eval e X.env)] := by rfl) (hbase : attributeBase o "join" X.env (eval o X.env) = eval o X.env := by rfl) (hline : (apos.endLine == pos.line) = true := by rfl) :
    PE X (.Call (.Attribute o "join" apos) [e] [] pos) (tE X.K X.mg fx G (do let u ← x; let _ ← ask (strOf u); let v ← y; ask (joinD u v))) := peI (pe_join ho he hs hbase hline) fun σ H Q ⟨Hf, s, h⟩ =>
  (h.bind.mono fun v1 H1 ⟨d1, Hf1, s1, sb1, r1, h1⟩ => by
    have k := Mo.wp_lift (Mo.wp_bind h1.2)
    cases d1 with
    | str S =>
      obtain ⟨rfl, hz1⟩ := r1
      refine ⟨⟨_, rfl⟩, ?_⟩
      have h2 : tX X.K X.mg fx G (fun H d v => Is X.K X.mg H d v) (do let v ← y; ask (joinD (.str S) v) : m D) Hf1 s1 σ H1 Q := ⟨h1.1, k⟩
      refine (h2.bind.mono fun v2 H2 ⟨d2, Hf2, s2, sb2, r2, h3⟩ => ?_).to
      obtain ⟨d, e, q⟩ := h3.ask
      unfold joinD at e
      cases e2 : sqOf d2 with
      | none => rw [e2] at e; cases e
      | some ds =>
        rw [e2] at e
        cases e3 : strsOf ds with
        | none => simp only [e3] at e; cases e
        | some ps =>
          simp only [e3] at e
          split at e
          · rename_i hz
            cases e
            have fin : Q (.str (Txt.join ⟨S.toArray⟩ (ps.map fun p => (⟨p.toArray⟩ : Str)))) H2 := by
              refine q _ Hf2 H2 (.refl h3.1.top) ⟨?_, Nat.le_trans (joinN_len S ps) (by rw [sizeLine_eq]; exact hz)⟩
              rw [TL.join_eq]
              congr 1
              have e4 := TL.tl_join ⟨S.toArray⟩ (ps.map fun p => (⟨p.toArray⟩ : Str))
              refine TL.ext_tl ?_
              refine (e4.trans ?_).trans (str_tl (joinN S ps)).symm
              rw [joinN_eq, List.map_map]
              have e5 : (ps.map (TL.tl ∘ fun p => (⟨p.toArray⟩ : Str))) = ps := by
                conv => rhs; rw [← List.map_id ps]
                exact List.map_congr_left fun p _ => str_tl p
              rw [e5]
            have hz' : ((ps.map fun p => (⟨p.toArray⟩ : Str)).map (·.length)).sum + (ps.map fun p => (⟨p.toArray⟩ : Str)).length * (⟨S.toArray⟩ : Str).length ≤ 16777216 := by
              rw [List.map_map, List.length_map, str_len]
              have e5 : (ps.map ((fun x : Str => x.length) ∘ fun p => (⟨p.toArray⟩ : Str))) = ps.map (·.length) := List.map_congr_left fun p _ => str_len p
              rw [e5]
              exact hz
            have em : (ps.map fun p => V.str ⟨p.toArray⟩) = (ps.map fun p => (⟨p.toArray⟩ : Str)).map V.str := by rw [List.map_map]; rfl
            cases d2 with
            | lst es =>
              cases e2
              obtain ⟨z1, p1, w1, rfl, t1, l1⟩ := r2
              have ew := isL_strs l1 e3
              subst ew
              exact ⟨_, p1, _, rfl, rfl, .inl (.inl (.inl (by rw [← em]; exact h3.1.top _ _ t1))), hz', fin⟩
            | tup es =>
              cases e2
              obtain ⟨z1, p1, w1, rfl, t1, l1⟩ := r2
              have ew := isL_strs l1 e3
              subst ew
              exact ⟨_, p1, _, rfl, rfl, .inr (by rw [← em]; exact h3.1.top.sqt t1), hz', fin⟩
            | _ => cases e2
          · cases e
    | _ => exact k.elim).to
end
end DL
namespace DL
open PySem L2
/-! ### times -/
theorem foldl_app (x : Array Nat) : ∀ (n : Nat) (acc : Array Nat), (List.replicate n x).foldl (· ++ ·) acc = acc ++ (List.replicate n x.toList).flatten.toArray
  | 0, acc => by simp
  | n + 1, acc => by
    rw [List.replicate_succ, List.foldl_cons, foldl_app x n, List.replicate_succ, List.flatten_cons]
    apply Array.ext'
    simp
theorem mulS_eq (a : List Nat) (k : Int) (h0 : 0 ≤ k) : Txt.mul ⟨a.toArray⟩ k = ⟨(List.replicate k.toNat a).flatten.toArray⟩ := by
  unfold Txt.mul
  by_cases h1 : k < 1
  · have : k = 0 := by omega
    subst this
    rfl
  · rw [if_neg h1]
    by_cases h2 : (k == 1 || (⟨a.toArray⟩ : Str).length == 0) = true
    · rw [if_pos h2]
      rw [str_len] at h2
      by_cases h3 : k = 1
      · subst h3
        simp
      · have : a.length = 0 := by simpa [h3] using h2
        have : a = [] := List.length_eq_zero_iff.mp this
        subst this
        simp
    · rw [if_neg h2, foldl_app]
      simp
theorem rep_len {α : Type} (a : List α) (n : Nat) : (List.replicate n a).flatten.length = a.length * n := by
  simp [Nat.mul_comm]
theorem isL_rep {K : PySem.W.Frag} {mg : Str → Option Value} {H : Hp} {ds : List D} {vs : List V} (l : IsL K mg H ds vs) : ∀ n : Nat, IsL K mg H (List.replicate n ds).flatten (List.replicate n vs).flatten
  | 0 => rfl
  | n + 1 => by
    rw [List.replicate_succ, List.replicate_succ, List.flatten_cons, List.flatten_cons]
    exact l.app (isL_rep l n)
section
variable {X : Cx}
theorem od_mul : OpR X (binaryOp .Mult) (rD2 X.K X.mg mulD) := by
  intro pins s σ H x y v u Q I rx ry h
  obtain ⟨Hf, dx, dy, d, sb, ix, iy, e, q⟩ := h
  unfold mulD at e
  split at e
  · split at e
    · rename_i i j hc
      cases e; cases ix; cases iy
      exact op_mulW pins s σ H _ _ v u Q I rx ry ⟨_, _, rfl, rfl, hc, q _ Hf H (.refl sb) (is_int _)⟩
    · cases e
  · split at e
    · rename_i a k hc
      cases e
      obtain ⟨rfl, hz⟩ := ix
      cases iy
      obtain ⟨t, rfl⟩ := rx
      obtain ⟨t2, rfl⟩ := ry
      have hl : (⟨a.toArray⟩ : Str).length = a.length := str_len a
      refine SB.mul ⟨?_, fun h1 _ => ?_, fun h1 _ => ?_⟩ fun t' k' => ?_
      · rw [Bool.or_eq_false_iff]
        exact ⟨decide_eq_false (by omega), decide_eq_false (by omega)⟩
      · rw [hl]
        have h2 : ((a.length * k.toNat : Nat) : Int) ≤ 1000000 := by omega
        rw [Int.natCast_mul, Int.toNat_of_nonneg hc.1] at h2
        have := Int.le_ediv_of_mul_le (a := (a.length : Int)) (b := 2 ^ 63 - 1) (c := k) (by omega) (by omega)
        omega
      · unfold Builtin.Str.tooLong
        rw [hl, sizeLine_eq]
        exact decide_eq_false (by omega)
      · rw [mulS_eq a k hc.1]
        refine ⟨.str _, H, I.tok k', ⟨t', rfl⟩, q _ Hf H (.refl sb) ⟨rfl, ?_⟩⟩
        rw [rep_len, sizeLine_eq]
        omega
    · cases e
  · split at e
    · rename_i a k hc
      cases e
      obtain ⟨z1, p1, v1, rfl, h1, l1⟩ := ix
      cases iy
      refine op_rep pins s σ H _ _ v u Q I rx ry ⟨_, _, _, rfl, rfl, sb _ _ h1, by omega, by omega, ?_, fun p hp => q _ _ _ (.new sb hp) ⟨?_, p, _, rfl, upd_same, ?_⟩⟩
      · rw [← l1.len, sizeLine_eq]; omega
      · rw [rep_len, sizeLine_eq]; omega
      · have l2 := l1.mono (Ste.new (bag := []) (o := .lst (List.replicate k.toNat v1).flatten) sb hp).sub
        exact isL_rep l2 _
    · cases e
  · cases e
end
end DL
namespace DL
open PySem L2
section
variable {X : Cx}
theorem isNone_is {K : PySem.W.Frag} {mg : Str → Option Value} {H : Hp} {d : D} {v : V} {b : Bool} (i : Is K mg H d v) (e : isNone d = some b) : decide (v = .non) = b := by
  cases d with
  | non => cases i; cases e; rfl
  | bl c => cases i; cases e; rfl
  | int c => cases i; cases e; rfl
  | str c => obtain ⟨rfl, _⟩ := i; cases e; rfl
  | tup ds => obtain ⟨_, a, vs, rfl, _⟩ := i; cases e; rfl
  | lst ds => obtain ⟨_, a, vs, rfl, _⟩ := i; cases e; rfl
  | dic _ _ => obtain ⟨a, vs, rfl, _⟩ := i; cases e; rfl
  | ins _ _ _ => obtain ⟨a, c, dd, vs, rfl, _⟩ := i; cases e; rfl
  | scr _ => obtain ⟨_, a, rfl, _⟩ := i; cases e; rfl
  | xc _ _ _ _ => obtain ⟨rfl, _⟩ := i; cases e; rfl
theorem od_is : OpR X (compareOp .Is) (rD2 X.K X.mg isD) := by
  intro pins s σ H x y v u Q I rx ry h
  obtain ⟨Hf, dx, dy, d, sb, ix, iy, e, q⟩ := h
  unfold isD at e
  split at e
  · cases iy
    cases e1 : isNone dx with
    | none => rw [e1] at e; cases e
    | some b =>
      rw [e1] at e; cases e
      have e2 := isNone_is ix e1
      exact op_isN pins s σ H _ _ v u Q I rx ry ⟨rfl, by rw [e2]; exact q _ Hf H (.refl sb) (is_bl _)⟩
  · cases e; cases ix; cases iy
    exact op_isBl pins s σ H _ _ v u Q I rx ry ⟨_, _, rfl, rfl, q _ Hf H (.refl sb) (is_bl _)⟩
  · cases e
theorem od_isNot : OpR X (compareOp .IsNot) (rD2 X.K X.mg isNotD) := by
  intro pins s σ H x y v u Q I rx ry h
  obtain ⟨Hf, dx, dy, d, sb, ix, iy, e, q⟩ := h
  unfold isNotD at e
  split at e
  · cases iy
    cases e1 : isNone dx with
    | none => rw [e1] at e; cases e
    | some b =>
      rw [e1] at e; cases e
      have e2 := isNone_is ix e1
      exact op_notN pins s σ H _ _ v u Q I rx ry ⟨rfl, by rw [e2]; exact q _ Hf H (.refl sb) (is_bl _)⟩
  · cases e; cases ix; cases iy
    exact op_notBl pins s σ H _ _ v u Q I rx ry ⟨_, _, rfl, rfl, q _ Hf H (.refl sb) (is_bl _)⟩
  · cases e
theorem in_core (hu : X.A.units + 65 < cLine) {pins : List (Addr × Obj)} {s : Shared} {σ : L2.St} {H : Hp} {x y : V} {v u : Value} (I : Inv X pins σ H s) (rx : RelV x v) (ry : RelV y u) {Hf : Hp} {dx dy : D} {b : Bool} (sb : Sub Hf H) (ix : Is X.K X.mg Hf dx x) (iy : Is X.K X.mg Hf dy y) (e : inP dx dy = some b) :
    (∀ Q : VK, Q (.bl b) H → wpAny (model X.prog X.w) X.A (compareOp .In v u) (EP X pins σ Q) X.xe s) ∧ (∀ Q : VK, Q (.bl (!b)) H → wpAny (model X.prog X.w) X.A (compareOp .NotIn v u) (EP X pins σ Q) X.xe s) := by
  unfold inP at e
  split at e
  · obtain ⟨rfl, _⟩ := ix
    obtain ⟨rfl, _⟩ := iy
    cases e
    refine ⟨fun Q q => op_in_sign pins s σ H _ _ v u Q I rx ry ⟨_, _, rfl, rfl, by rw [str_tl]; exact q⟩, fun Q q => op_notIn_sign pins s σ H _ _ v u Q I rx ry ⟨_, _, rfl, rfl, by rw [str_tl]; exact q⟩⟩
  · rename_i ds
    split at e
    · rename_i p ys e1 e2
      split at e
      · rename_i hc
        cases e
        rw [Bool.and_eq_true] at hc
        refine ⟨fun Q q => op_inD hu pins s σ H _ _ v u Q I rx ry ⟨p, ys, (ix.mono sb).dp e1, (iy.mono sb).dp e2, hc.1, hc.2, q⟩, fun Q q => op_notInD hu pins s σ H _ _ v u Q I rx ry ⟨p, ys, (ix.mono sb).dp e1, (iy.mono sb).dp e2, hc.1, hc.2, q⟩⟩
      · cases e
    · cases e
  · rename_i ds
    split at e
    · rename_i p ys e1 e2
      split at e
      · rename_i hc
        cases e
        rw [Bool.and_eq_true] at hc
        obtain ⟨as, r1⟩ := Dp.reads I p x v ((ix.mono sb).dp e1) rx
        obtain ⟨bs, r2⟩ := Dp.reads I _ y u ((iy.mono sb).dp e2) ry
        have cl : PyData.canLayAll0 ys = true := by
          have := SeqAt.canLay_of_shaped hc.2
          simpa [PyData.canLay0] using this
        exact ⟨fun Q q => SeqAt.in_tuple_reads r2 r1 cl (SeqAt.canLay_of_shaped hc.1) (PyProof.Rows.room_in_shaped hc.1 hu) ⟨.bl _, H, I, rfl, q⟩,
          fun Q q => SeqAt.notIn_tuple_reads r2 r1 cl (SeqAt.canLay_of_shaped hc.1) (PyProof.Rows.room_in_shaped hc.1 hu) ⟨.bl _, H, I, rfl, q⟩⟩
      · cases e
    · cases e
  · cases e
theorem od_in (hu : X.A.units + 65 < cLine) : OpR X (compareOp .In) (rD2 X.K X.mg inD) := by
  intro pins s σ H x y v u Q I rx ry h
  obtain ⟨Hf, dx, dy, d, sb, ix, iy, e, q⟩ := h
  unfold inD at e
  cases e1 : inP dx dy with
  | none => rw [e1] at e; cases e
  | some b => rw [e1] at e; cases e; exact (in_core hu I rx ry sb ix iy e1).1 Q (q _ Hf H (.refl sb) (is_bl _))
theorem od_notIn (hu : X.A.units + 65 < cLine) : OpR X (compareOp .NotIn) (rD2 X.K X.mg notInD) := by
  intro pins s σ H x y v u Q I rx ry h
  obtain ⟨Hf, dx, dy, d, sb, ix, iy, e, q⟩ := h
  unfold notInD at e
  cases e1 : inP dx dy with
  | none => rw [e1] at e; cases e
  | some b => rw [e1] at e; cases e; exact (in_core hu I rx ry sb ix iy e1).2 Q (q _ Hf H (.refl sb) (is_bl _))
end
/-! ### isinstance -/
def tyD : D → Option String
  | .non => some "NoneType"
  | .bl _ => some "bool"
  | .int _ => some "int"
  | .str _ => some "str"
  | .tup _ => some "tuple"
  | .lst _ => some "list"
  | .scr _ => some "list"
  | .xc _ _ _ _ => none
  | .dic _ _ => some "dict"
  | .ins _ _ _ => none
def isiD (T : String) (d : D) : Option D := match tyD d with
  | some a => (kitB a T).map .bl
  | none => none
theorem tyD_is {K : PySem.W.Frag} {mg : Str → Option Value} {Hf H : Hp} (sb : Sub Hf H) {d : D} {v : V} {T : String} (i : Is K mg Hf d v) (e : tyD d = some T) : TyX K H v (.type T) := by
  cases d with
  | non => cases i; cases e; exact .base .non
  | bl c => cases i; cases e; exact .base (.bl _)
  | int c => cases i; cases e; exact .base (.int _)
  | str c => obtain ⟨rfl, _⟩ := i; cases e; exact .base (.str _)
  | tup ds =>
    obtain ⟨_, a, vs, rfl, h, _⟩ := i
    cases e
    rcases sb.sqt h with (h | ⟨o, h⟩) | h
    · exact .base (.tup h)
    · exact .fTuple h
    · obtain ⟨o, its, n, h1, h2, h3⟩ := h
      exact .kTuple h1 h2
  | lst ds =>
    obtain ⟨_, a, vs, rfl, h, _⟩ := i
    cases e
    exact .base (.lst (sb _ _ h))
  | dic _ _ =>
    obtain ⟨a, vs, rfl, h, _⟩ := i
    cases e
    rcases sb.rd h with h | ⟨o, h⟩
    · exact .base (.dK h)
    · exact .fDict h
  | ins _ _ _ => cases e
  | xc _ _ _ _ => cases e
  | scr _ =>
    obtain ⟨_, a, rfl, h⟩ := i
    cases e
    rcases sb.sql h.sq with (h | ⟨o, h⟩) | h
    · exact .base (.lst h)
    · exact .base (.frz h)
    · obtain ⟨o, its, n, h1, h2, h3⟩ := h
      exact .kList h1 h2
section
variable {X : Cx} {fx : Fx} {m : Type → Type} [Mo m] {G : List Sl} {e : Expr} {p p2 pos : Pos} {x : m D}
theorem de_isi (T : String) {n : Str} (he : PE X e (tE X.K X.mg fx G x)) (hg : Gl X "isinstance") (hm : X.mg "isinstance" = none) (hg2 : Gl X n) (hm2 : X.mg n = none) (hv2 : bootBuiltins n = some (.type T))
    (hn : n ≠ "__name__" := by decide) (hdb : (n == ("__debug__" : Str)) = false := by decide) (hs : starEach [e, .Name n p2] X.env = (false, eval e X.env) :: starEach [.Name n p2] X.env := by rfl) (hs2 : starEach [.Name n p2] X.env = (false, eval (.Name n p2) X.env) :: starEach [] X.env := by rfl) (hpl : (backTo pos (starEach [.Name n p2] X.env)).any (·.1) = false := by rfl) :
    PE X (.Call (.Name "isinstance" p) [e, .Name n p2] [] pos) (tE X.K X.mg fx G (do let d ← x; ask (isiD T d))) :=
  peI (pe_callB call_isi hg hm rfl (pa_cons he (pa_cons (pe_bltn (v := .ty T) hg2 hm2 hv2 rfl hn hdb) pa_nil hs2) hs) (by decide) (by decide) hs hpl) fun σ H Q ⟨Hf, s, h⟩ =>
  (h.bind.mono fun v1 H1 ⟨d1, Hf1, s1, sb1, r1, h1⟩ => by
    obtain ⟨d, e, q⟩ := h1.ask
    unfold isiD at e
    cases e1 : tyD d1 with
    | none => rw [e1] at e; cases e
    | some a =>
      simp only [e1] at e
      cases e2 : kitB a T with
      | none => rw [e2] at e; cases e
      | some b =>
        rw [e2] at e
        cases e
        exact ⟨v1, .ty T, _, _, b, rfl, .ty T, tyD_is h1.1.top r1 e1, kit_ty e2, q _ Hf1 H1 (.refl h1.1.top) (is_bl _)⟩).to
end
/-! ### all, any -/
def bolsOf : List D → Option (List Bool)
  | [] => some []
  | .bl b :: r => (bolsOf r).map (b :: ·)
  | _ :: _ => none
def allD : List D → Option D
  | [.lst ds] => (bolsOf ds).map fun bs => .bl (bs.all id)
  | _ => none
/-! ### repr -/
end DL
namespace DL
open PySem L2
/-! ### lists of the frame's own, changed -/
def setI (ds : List D) (k d : D) : Option (List D) := match k with
  | .int i => (ixN ds.length i).map fun j => ds.set j d
  | _ => none
section
variable {X : Cx} {fx : Fx} {m : Type → Type} [Mo m] {G : List Sl} {α β : Type} {kk : Nat} {e o c : Expr} {rest : List Stmt} {ex : α → List Sl} {exb : β → List Sl} {x y : m D} {ds : List D} {n : Str} {np apos cpos pos : Pos}
/-- x[c] = e -/
theorem dss_setItem {k : List D → m (Fl α β)} (i : Nat) (he : PE X e (tE X.K X.mg fx G x)) (hc : PE X c (tE X.K X.mg fx G y)) (hr : ∀ ds, PSs X rest (tS X.K X.mg fx (G.set i (.ow ds)) ex exb (k ds)))
    (hG : G[i]? = some (.ow ds) := by rfl) (hN : X.N[i]? = some n := by rfl) (hv : Vis X.env.scope n := by first | exact Or.inl rfl | exact Or.inr (Or.inl rfl) | exact Or.inr (Or.inr rfl)) (hd : (n == ("__debug__" : Str)) = false := by decide) (hcd : (n == ("__classdict__" : Str)) = false := by decide)
    (ha : ∀ v, assign (.Subscript (.Name n np) c apos) X.env v = (do
      let ov ← holding [v] (eval (.Name n np) X.env)
      let iv ← holding [v, ov] (eval c X.env)
      standAt apos
      holding [v, ov, iv] (setItem ov iv v)
      release [v, ov, iv] []) := by intro _; rfl)
    (hs : swapsWithSole [.Subscript (.Name n np) c apos] e pos.line X.env = pure false := by rfl) (hw : swappedStores [.Subscript (.Name n np) c apos] e X.env = pure none := by rfl)
    (h1 : (assignEach [.Subscript (.Name n np) c apos] X.env).map (·.2) = [assign (.Subscript (.Name n np) c apos) X.env] := by rfl) (hg : GxOk fx G := by first | exact True.intro | repeat' (first | exact True.intro | exact Or.inl rfl | exact Or.inr rfl | refine And.intro ?_ ?_)) :
    PSs X (.Assign [.Subscript (.Name n np) c apos] e pos :: rest) (tS X.K X.mg fx G ex exb (do let d ← x; let j ← y; let ds ← ask (setI ds j d); k ds)) :=
  pssI (pss_cons (ps_asg he (pg_sub (pe_var hN hv hd hcd) hc set_list ha) hs hw h1) (pss_ex hr)) fun D σ H ⟨Hf, s, h⟩ =>
    ((h.bind hg).mono fun v H1 ⟨d, Hf1, s1, sb, r, h1⟩ => by
      obtain ⟨p, vs, ep, _⟩ := h1.1.sl i _ hG
      refine ⟨.ref p, ep, ((h1.bind hg).mono fun w H2 ⟨j, Hf2, s2, sb2, r2, h2⟩ => ?_).to⟩
      obtain ⟨p1, vs1, ep1, hp1, hf1, _, _, l1, hz1⟩ := h2.1.sl i _ hG
      have eq : p1 = p := by rw [ep] at ep1; cases ep1; rfl
      subst eq
      have k' := Mo.wp_lift (Mo.wp_bind h2.2)
      unfold setI at k'
      cases j with
      | int t =>
        cases r2
        cases q : ixN ds.length t with
        | none => simp only [q] at k'; exact k'.elim
        | some z =>
          simp only [q] at k'
          refine ⟨p1, vs1, t, z, rfl, rfl, hp1, by rw [← l1.len]; exact q, _, Hf2, s2, h2.1.updOw hG ep (l1.set (r.mono sb2) z) (by rw [List.length_set]; exact hz1), k'⟩
      | _ => exact k'.elim).to
end
/-! ### the answer is a new list -/
end DL
namespace DL
open PySem L2
/-! ### the bag -/
section
variable {X : Cx} {fx : Fx} {G : List Sl} {α β : Type} {kk : Nat} {e : Expr} {rest : List Stmt} {ex : α → List Sl} {exb : β → List Sl} {pos p2 np apos : Pos} {n : Str} {j : Nat}
/-- the bag's object is changed -/
theorem StS.bagUpd {K : PySem.W.Frag} {mg : Str → Option Value} {Hf H : Hp} {σ : L2.St} {s s' : S} {b : Addr} {o : HO} (st : StS K mg fx Hf H σ G s) (hb : b ∈ fx.bag) (bg : BagAt fx.bag (upd H b o) s') : StS K mg fx Hf (upd H b o) σ G s' := by
  have hf := (st.bagf b hb).1
  refine ⟨⟨st.ste.sub, fun a u q => ?_, fun a u q n => ?_, fun a n => ?_, st.ste.fresh⟩, bg, fun c hc => ⟨(st.bagg c hc).1, ?_, (st.bagg c hc).2.2⟩, st.len, fun i x ex => ?_, st.dis⟩
  · have ne : a ≠ b := fun z => by rw [z, hf] at q; cases q
    rw [upd_ne ne]; exact st.top a u q
  · have ne : a ≠ b := fun z => n (List.mem_append_right _ (z ▸ hb))
    rw [upd_ne ne]; exact st.ste.keep a u q n
  · by_cases c : a = b
    · rw [c, upd_same]; simp
    · rw [upd_ne c]; exact st.ste.dom a n
  · by_cases q : c = b
    · rw [q, upd_same]; simp
    · rw [upd_ne q]; exact (st.bagg c hc).2.1
  · exact (st.sl i x ex).upd fun q ox e z => by
      obtain ⟨q2, e2, _, _, nb, _⟩ := (st.sl i x ex).ref ox
      rw [e] at e2
      cases e2
      exact nb (z ▸ hb)
end
/-! ### a def whose answer is a new list -/
def lstOf : D → Option (List D)
  | .lst ds => some ds
  | _ => none
section
variable {X : Cx} {fx : Fx} {G : List Sl} {es : List Expr} {pos : Pos} {ys : M (List D)} {kk j n : Nat} {g : List D → M D} {f : Addr} {fd : FuncData} {ps : List Str} {nm bn : Str} {p bp : Pos}
theorem df_fnM (C : Cok X fx kk) (i : Nat) (F : FnG X.prog X.w X.K X.mg X.base j f fd ps (spM X.K X.mg true (n + 1) g)) (hm : X.mg nm = some (.ref f)) (hk : PySem.W.keepIn X.K (.ref f) = true) (hb : Binds X.K fd ps []) (ha : PA X es (tA X.K X.mg fx G ys)) (hn : ∀ ds s, g ds s ≠ .stuck → ds.length = n)
    (hG : G[i]? = some .bg := by rfl) (hN : X.N[i]? = some bn := by rfl) (hv : Vis X.env.scope bn := by first | exact Or.inl rfl | exact Or.inr (Or.inl rfl) | exact Or.inr (Or.inr rfl))
    (hj : j ≤ kk := by decide) (hg : Gl X nm := by rfl) (hdb : (nm == ("__debug__" : Str)) = false := by decide) (he : starEach (.Name bn bp :: es) X.env = (false, eval (.Name bn bp) X.env) :: starEach es X.env := by rfl) (hpl : (backTo pos (starEach es X.env)).any (·.1) = false := by rfl)
    (hd : (bn == ("__debug__" : Str)) = false := by decide) (hcd : (bn == ("__classdict__" : Str)) = false := by decide) :
    PE X (.Call (.Name nm p) (.Name bn bp :: es) [] pos) (tF X.K X.mg fx G (do let ds ← ys; let d ← g ds; ask (lstOf d))) :=
  peI (pe_callG (E := WE fx.W) F C.gd (C.rm.mono hj) hg hm hk hb .nil (fun σ => passAt C.tk σ) (pa_cons (pe_var hN hv hd hcd) ha he) hdb he hpl) fun σ H Q ⟨Hf, s, st, w⟩ => by
    obtain ⟨b, r, eb, ev⟩ := st.sl i _ hG
    refine ⟨.ref b, ev, Hf, s, st, Mo.wp_mono (Mo.wp_bind w) (fun ds s1 k vs Hf1 H1 e1 bg1 l1 => ?_) fun e s' k => k⟩
    show spM X.K X.mg true (n + 1) g ((.ref b :: vs) ++ []) H1 Q (WE fx.W σ)
    rw [List.append_nil]
    have st1 := st.step e1 bg1
    have w2 : (g ds s1).wp _ _ := Mo.wp_bind k
    have hlen : ds.length = n := hn ds s1 fun z => by rw [z] at w2; exact w2
    refine ⟨by rw [List.length_cons, ← l1.len, hlen], fx.bag, b, r, Hf1, ds, vs, s1, eb, rfl, st1.top, st1.bagf, bg1, l1, ?_⟩
    cases z : g ds s1 with
    | ok d s' =>
      rw [z] at w2
      rintro v Hf' H' e2 bg2 ⟨p, vs2, ds2, rfl, rfl, hp, hf, h0, l2, hz⟩
      have w3 := Mo.wp_lift w2
      have hn0 : H p = none := by
        cases q : H p with
        | none => rfl
        | some o => exact absurd h0 (e1.dom p (by rw [q]; simp))
      exact w3 p vs2 Hf' H' (e1.trans e2) bg2 hp hf hn0 l2 hz
    | ex e s' => rw [z] at w2; exact fun cls dd Hf' H' st bg x => w2 cls dd Hf' H' (st1.step st bg) x
    | stuck => rw [z] at w2; exact w2
end
/-! ### a bag is made -/
section
variable {K : PySem.W.Frag} {mg : Str → Option Value} {fx : Fx}
def noBg : Sl → Bool
  | .bg => false
  | _ => true
end
end DL
namespace DL
open PySem L2 PyProof.Rows PySem.Spec
/-! ### the end -/
section
variable {P : Program} {w : World} {K : PySem.W.Frag} {mg mb : Str → Option Value} {k : Nat} {fa a : Addr} {fd : FuncData} {x : Str} {g : List D → R D} {s1 : Shared} {vs : List Value} {ns : List Int}
/-- the module's facts, behind what is tracked -/
theorem mod_hid {H : Hp} (KX : K.In s1.heap) (hns : s1.heap.Ns mainGlobals mg) (hb : s1.heap.Ns builtinsNs mb) (hbb : ∀ x : Str, x ≠ "__name__" → mb x = bootBuiltins x) (hlim : s1.heap.NoLimit)
    (hd : ∀ (b : Addr) (o : Obj) (es : Array DictEntry) (ep : Nat), s1.heap.get? b = some o → o.data = .dict es ep → H b = none) (hk : ∀ b o, K.lookup b = some o → H b = none) : Mod K mg (hidT s1.heap H) := by
  have nsK : ∀ {b : Addr} {m : Str → Option Value}, s1.heap.Ns b m → (hidT s1.heap H).Ns b m := fun {b m} ⟨o, es, ep, e, d, r⟩ => ⟨o, es, ep, hidT_get e (hd _ _ _ _ e d), d, r⟩
  exact ⟨fun b o e => hidT_get (KX b o e) (hk b o e), nsK hns, ⟨mb, nsK hb, hbb⟩, let ⟨mc, h1, h2⟩ := hlim; ⟨mc, nsK h1, h2⟩⟩
/-- the law's def, called on a script that the heap H tells -/
theorem call_at {H : Hp} (KX : K.In s1.heap) (hns : s1.heap.Ns mainGlobals mg) (hb : s1.heap.Ns builtinsNs mb) (hbb : ∀ x : Str, x ≠ "__name__" → mb x = bootBuiltins x) (hlim : s1.heap.NoLimit) (hgn : s1.gens = #[])
    (hd : ∀ (b : Addr) (o : Obj) (es : Array DictEntry) (ep : Nat), s1.heap.get? b = some o → o.data = .dict es ep → H b = none) (hk : ∀ b o, K.lookup b = some o → H b = none) (hf : ∀ b u, H b = some u → ∃ o xs, u = .frz o (.lst xs)) (hok : HOk P w H s1.heap) (hr : Room k callerA)
    (F : ∀ base : Heap, K.In base → base.Ns mainGlobals mg → FnG P w K mg base k fa fd [x] (spR K mg false 1 g)) (hbind : ∀ (s : Shared) (u : Value), BindsTo s fd ⟨[u], []⟩ [(x, u)])
    (hS : ScL K H a (ns.map V.int)) (hl : ns.length ≤ sizeLine) (hg : g [.scr ns] = .ok (.bl true)) :
    codeAny (model P w) callerA (.call (.ref fa) ⟨[.ref a], []⟩) (fun r s' => r = .ok (.ret (.bool true)) ∧ OldK s1.heap s'.heap ∧ s'.os = s1.os ∧ AllBare s'.gens) s1 := by
  have hM := mod_hid (H := H) KX hns hb hbb hlim hd hk
  have e0 : Env0 P w K mg (hidT s1.heap H) callerA [] s1 H := ⟨rfl, hM, fun b o e => of_hidT e, Nat.le_of_eq (hidT_size _ _), trivial, fun b hb => absurd (show b ∈ ([] : List Addr) from hb) (by simp), hok, .of_eq hgn⟩
  have hsp : spR K mg false 1 g [.ref a] H (fun v _ => v = .bl true) (fun _ _ _ => False) := by
    refine ⟨rfl, H, [.scr ns], .refl H, ⟨_, _, rfl, ⟨hl, a, rfl, hS⟩, rfl⟩, ?_⟩
    rw [hg]
    exact fun v Hf' H' _ e => e
  refine codeAny_mono ((F _ hM.kin hM.glob).run callerA [] s1 H ⟨[.ref a], []⟩ [.ref a] [.ref a] _ _ rfl hr e0 (hbind s1 (.ref a)) (.cons rfl .nil) hsp) fun r s' h => ?_
  cases r with
  | error e =>
    exact (cxm_false (show CXm P w mg [] H s1 (fun _ _ _ => False) e s' from h)).elim
  | ok fl =>
    cases fl with
    | next => exact False.elim h
    | brk => exact False.elim h
    | cont => exact False.elim h
    | ret u =>
      obtain ⟨v, H', os, bare, un, hok', r', q⟩ := h
      have q' : v = .bl true := q
      subst q'
      obtain rfl : u = Value.bool true := r'
      refine ⟨rfl, OldK.of_keep fun b o e => ?_, os, bare⟩
      cases q : H b with
      | none => exact un.keep b o e q (by intro z; exact absurd (show b ∈ ([] : List Addr) from z) (by simp)) (by simp)
      | some u =>
        obtain ⟨ob, xs, rfl⟩ := hf b u q
        have z2 := un.frzs b ob _ q
        obtain ⟨e1, _⟩ := hok b _ q
        obtain ⟨e2, _⟩ := hok' b _ z2
        rw [e] at e1; cases e1
        exact e2
/-- the script that one knows as a list object -/
def scrH (a : Addr) (o : Obj) (xs : List V) : Hp := fun b => if b = a then some (.frz o (.lst xs)) else none
theorem scrH_at {a : Addr} {o : Obj} {xs : List V} : scrH a o xs a = some (.frz o (.lst xs)) := if_pos rfl
theorem scrH_ne {a b : Addr} {o : Obj} {xs : List V} (h : b ≠ a) : scrH a o xs b = none := if_neg h
theorem scrH_inv {a b : Addr} {o : Obj} {xs : List V} {u : HO} (h : scrH a o xs b = some u) : b = a ∧ u = .frz o (.lst xs) := by
  by_cases q : b = a
  · subst q
    rw [scrH_at] at h
    exact ⟨rfl, (Option.some.inj h).symm⟩
  · rw [scrH_ne q] at h
    cases h
theorem law_callG (KX : K.In s1.heap) (hns : s1.heap.Ns mainGlobals mg) (hb : s1.heap.Ns builtinsNs mb) (hbb : ∀ x : Str, x ≠ "__name__" → mb x = bootBuiltins x) (hlim : s1.heap.NoLimit) (hgn : s1.gens = #[])
    (ha : s1.heap.get? a = some { cls := .type "list", data := .seq vs.toArray }) (hi : IntsAre vs ns) (hl : ns.length ≤ sizeLine) (hr : Room k callerA)
    (F : ∀ base : Heap, K.In base → base.Ns mainGlobals mg → FnG P w K mg base k fa fd [x] (spR K mg false 1 g)) (hbind : ∀ (s : Shared) (u : Value), BindsTo s fd ⟨[u], []⟩ [(x, u)]) (hg : g [.scr ns] = .ok (.bl true)) :
    codeAny (model P w) callerA (.call (.ref fa) ⟨[.ref a], []⟩) (fun r s' => r = .ok (.ret (.bool true)) ∧ OldK s1.heap s'.heap ∧ s'.os = s1.os ∧ AllBare s'.gens) s1 := by
  have rv := vals_ints hi
  cases hk : K.lookup a with
  | some o =>
    have e := KX a o hk
    rw [ha] at e
    cases e
    refine call_at (H := fun _ => none) KX hns hb hbb hlim hgn (fun _ _ _ _ _ _ => rfl) (fun _ _ _ => rfl) (fun b u z => nomatch z) (fun b u z => nomatch z) hr F hbind (.inr ⟨_, vs.toArray, _, hk, rfl, rfl, rfl, ?_, by simpa using rv⟩) hl hg
    rw [List.size_toArray, hi.length]
    exact hl
  | none =>
    refine call_at (H := scrH a { cls := .type "list", data := .seq vs.toArray } (ns.map V.int)) KX hns hb hbb hlim hgn (fun b o es ep e d => ?_) (fun b o e => ?_) (fun b u z => ⟨_, _, (scrH_inv z).2⟩) (fun b u z => ?_) hr F hbind (.inl ⟨_, scrH_at⟩) hl hg
    · refine scrH_ne fun q => ?_
      subst q
      rw [ha] at e; cases e
      have d' : Data.seq vs.toArray _ = Data.dict es ep := d
      cases d'
    · refine scrH_ne fun q => ?_
      subst q
      rw [hk] at e; cases e
    · obtain ⟨rfl, rfl⟩ := scrH_inv z
      exact ⟨ha, by rw [List.length_map]; exact hl, vs, _, rv, ha⟩
end
end DL
namespace DL
open PySem L2
section
variable {X : Cx} {tg l : Expr} {tl : TE}
section
variable {X : Cx} {tg l : Expr} {tl : TE}
/-- an iterator over a list or a tuple is made -/
theorem iter_sq {tg : Expr} {pins : List (Addr × Obj)} {σ : L2.St} {H1 : Hp} {s1 : Shared} {R : It → Hp → Prop} {a : Addr} (I : L2.Inv X pins σ H1 s1) (hq : ((∃ xs, SqL X.K H1 a xs) ∧ R (Itl X.K a) H1) ∨ ((∃ xs, SqT X.K H1 a xs) ∧ R (Itt X.K a) H1)) :
    wpAny (model X.prog X.w) X.A (pyIter (.ref a)) (PIE X pins σ tg R) X.xe s1 :=
  hq.elim (fun ⟨⟨_, is⟩, q⟩ => let ⟨_, _, lies, _⟩ := I.list is
      wpAny_pyIter_list lies.isList (pi_one (tk := s1.toks) I _ (turn_list a _) ⟨_, Heap.get?_push_size _ rfl, rfl, rfl⟩ q))
    fun ⟨⟨_, is⟩, q⟩ => let ⟨its, _, lies, _⟩ := I.tuple is
      wpAny_pyIter_tuple (show s1.heap.IsTuple a its.toArray from lies) (pi_one (tk := s1.toks) I _ (turn_tuple a _) ⟨_, Heap.get?_push_size _ rfl, rfl, rfl⟩ q)
end
section
variable {X : Cx} {tg l : Expr} {tl : TE}
/-- a list, a tuple or a text is walked -/
theorem iter_any {pins : List (Addr × Obj)} {σ : L2.St} {H1 : Hp} {s1 : Shared} {R : It → Hp → Prop} {x : V} {v : Value} (I : L2.Inv X pins σ H1 s1) (rel : RelV x v)
    (h : (∃ z : Str, x = .str z ∧ R (Its z) H1) ∨ ∃ a, x = .ref a ∧ (((∃ xs, SqL X.K H1 a xs) ∧ R (Itl X.K a) H1) ∨ ((∃ xs, SqT X.K H1 a xs) ∧ R (Itt X.K a) H1))) :
    wpAny (model X.prog X.w) X.A (pyIter v) (PIE X pins σ tg R) X.xe s1 := by
  rcases h with ⟨z, rfl, q⟩ | ⟨a, rfl, q⟩
  · obtain ⟨t, rfl⟩ := rel
    by_cases narrow : z.cps.all (· < 128) = true
    · exact wpAny_pyIter_ascii narrow (pi_one (tk := s1.toks) I _ (turn_str _ z t "str_ascii_iterator" (.inl rfl)) ⟨_, Heap.get?_push_size _ rfl, rfl, rfl⟩ q)
    · exact wpAny_pyIter_wide (Bool.eq_false_iff.mpr narrow) (pi_one (tk := s1.toks) I _ (turn_str _ z t "str_iterator" (.inr rfl)) ⟨_, Heap.get?_push_size _ rfl, rfl, rfl⟩ q)
  · cases rel
    exact iter_sq I q
theorem pi_any (hl : PE X l tl) : PI X tg l (fun σ H R => tl σ H fun x H1 => (∃ z : Str, x = .str z ∧ R (Its z) H1) ∨ ∃ a, x = .ref a ∧ (((∃ xs, SqL X.K H1 a xs) ∧ R (Itl X.K a) H1) ∨ ((∃ xs, SqT X.K H1 a xs) ∧ R (Itt X.K a) H1))) where
  run pins s σ H R I h := wpAny_mono (hl.run pins s σ H _ I h) (fun v s1 ⟨x, H1, I1, rel, q⟩ => iter_any I1 rel q) fun _ _ z => z
end
end
section
variable {X : Cx} {fx : Fx} {m : Type → Type} [Mo m] {G : List Sl} {tg l c a b : Expr} {x y : m D} {t : m Bool} {pos : Pos} {kk : Nat}
def itD : D → Option (List D)
  | .lst ds => some ds
  | .tup ds => some ds
  | .str s => some (chrs s)
  | .scr is => some (is.map .int)
  | _ => none
theorem yl_scr {K : PySem.W.Frag} {mg : Str → Option Value} {Hf : Hp} {is : List Int} {a : Addr} (hz : is.length ≤ sizeLine) (h : SqL K Hf a (is.map V.int)) : Yl K mg (Itl K a) Hf (is.map .int) := ⟨by simpa using hz, fun Hf2 H s1 s2 i => by
  have hq : SqL K H a (is.map V.int) := s2.sql (s1.sql h)
  have l : IsL K mg Hf (is.map .int) (is.map V.int) := isL_ints is
  refine ⟨fun d hd => ?_, fun hl => ⟨_, hq, by rw [← l.len]; exact hl⟩⟩
  obtain ⟨v, hv, iv⟩ := l.get hd
  exact ⟨⟨_, v, hq, hv⟩, fun x H' ⟨e, f⟩ => by
    subst e
    have := f _ hq
    rw [hv] at this
    cases this
    exact ⟨Hf2, .refl s2, iv.mono s1⟩⟩⟩
theorem di_any (h : PE X l (tE X.K X.mg fx G x)) : PI X tg l (tI X.K X.mg fx G (do let d ← x; ask (itD d))) := piI (pi_any h) fun σ H Q ⟨Hf, s, h⟩ =>
  (h.bind.mono fun v H1 ⟨d, Hf1, s1, sb, r, h1⟩ => by
    obtain ⟨ds, e, q⟩ := h1.ask
    cases d with
    | lst es =>
      cases e
      obtain ⟨hz, a, vs, rfl, t, il⟩ := r
      exact .inr ⟨a, rfl, .inl ⟨⟨vs, .inl (.inl (h1.1.top _ _ t))⟩, q _ Hf1 H1 (.refl h1.1.top) (yl_list hz t il)⟩⟩
    | tup es =>
      cases e
      obtain ⟨hz, a, vs, rfl, t, il⟩ := r
      exact .inr ⟨a, rfl, .inr ⟨⟨vs, h1.1.top.sqt t⟩, q _ Hf1 H1 (.refl h1.1.top) (yl_tup hz t il)⟩⟩
    | str z =>
      cases e
      exact .inl ⟨_, r.1, q _ Hf1 H1 (.refl h1.1.top) (yl_str z r.2)⟩
    | scr is =>
      cases e
      obtain ⟨hz, a, rfl, t⟩ := r
      exact .inr ⟨a, rfl, .inl ⟨⟨_, h1.1.top.sql t.sq⟩, q _ Hf1 H1 (.refl h1.1.top) (yl_scr hz t.sq)⟩⟩
    | _ => cases e).to
/-! ### an own list, read -/
mutual
/-- data that no change of a list reaches -/
def imm : D → Bool
  | .non => true
  | .bl _ => true
  | .int _ => true
  | .str _ => true
  | .tup ds => immL ds
  | .ins _ _ ds => immL ds
  | _ => false
def immL : List D → Bool
  | [] => true
  | d :: ds => imm d && immL ds
end
def flatD (d : D) : Option D := if imm d = true then some d else none
section
variable {K : PySem.W.Frag} {mg : Str → Option Value} {H H' : Hp}
theorem Rd.off {a : Addr} {u : HO} (hh : ∀ a, H' a = H a ∨ ∃ vs, H a = some (.lst vs)) (h : Rd H a u) (hu : ∀ vs, u ≠ .lst vs) : Rd H' a u := by
  rcases h with h | ⟨o, h⟩
  · rcases hh a with e | ⟨vs, e⟩
    · exact .inl (e.trans h)
    · rw [h] at e; cases e; exact absurd rfl (hu vs)
  · rcases hh a with e | ⟨vs, e⟩
    · exact .inr ⟨o, e.trans h⟩
    · rw [h] at e; cases e
mutual
theorem Is.off (hh : ∀ a, H' a = H a ∨ ∃ vs, H a = some (.lst vs)) : ∀ {d : D} {v : V}, imm d = true → Is K mg H d v → Is K mg H' d v
  | .non, _, _, h => h
  | .bl _, _, _, h => h
  | .int _, _, _, h => h
  | .str _, _, _, h => h
  | .tup ds, _, m, h => by
    obtain ⟨z, a, vs, e, t, l⟩ := h
    refine ⟨z, a, vs, e, ?_, IsL.off hh (ds := ds) (by simpa [imm] using m) l⟩
    rcases t with t | t
    · exact .inl (Rd.off hh t fun vs z => by cases z)
    · exact .inr t
  | .ins c ns ds, _, m, h => by
    obtain ⟨a, C, dx, vs, e, q, t, n, l⟩ := h
    refine ⟨a, C, dx, vs, e, q, ?_, n, IsL.off hh (ds := ds) (by simpa [imm] using m) l⟩
    rcases hh a with z | ⟨us, z⟩
    · exact z.trans t
    · rw [t] at z; cases z
  | .lst _, _, m, _ => by simp [imm] at m
  | .dic _ _, _, m, _ => by simp [imm] at m
  | .scr _, _, m, _ => by simp [imm] at m
  | .xc _ _ _ _, _, m, _ => by simp [imm] at m
theorem IsL.off (hh : ∀ a, H' a = H a ∨ ∃ vs, H a = some (.lst vs)) : ∀ {ds : List D} {vs : List V}, immL ds = true → IsL K mg H ds vs → IsL K mg H' ds vs
  | [], _, _, h => h
  | d :: ds, vs, m, h => by
    have m' : imm d = true ∧ immL ds = true := by simpa [immL] using m
    obtain ⟨v, r, e, i, l⟩ := h
    exact ⟨v, r, e, Is.off hh m'.1 i, IsL.off hh m'.2 l⟩
end
end
open Classical in
/-- the frozen heap without the lists that it has gained -/
noncomputable def offH (Hf Hf2 : Hp) : Hp := fun a => if ∃ vs, Hf2 a = some (.lst vs) then Hf a else Hf2 a
theorem offH_or {Hf Hf2 : Hp} (a : Addr) : offH Hf Hf2 a = Hf2 a ∨ ∃ vs, Hf2 a = some (.lst vs) := by
  by_cases c : ∃ vs, Hf2 a = some (.lst vs)
  · exact .inr c
  · exact .inl (if_neg c)
theorem Ste.off {bag : List Addr} {Hf Hf1 H Hf2 H2 : Hp} (sb : Sub Hf Hf1) (nw : ∀ a o, Hf1 a = some o → Hf a = some o ∨ ∃ vs, o = .lst vs) (e : Ste bag Hf1 H Hf2 H2) : Ste bag Hf H (offH Hf Hf2) H2 := by
  have s2 : Sub Hf Hf2 := sb.trans e.sub
  refine ⟨fun a o z => ?_, fun a o z => ?_, e.keep, e.dom, fun a o z => ?_⟩
  · unfold offH
    by_cases c : ∃ vs, Hf2 a = some (.lst vs)
    · rw [if_pos c]; exact z
    · rw [if_neg c]; exact s2 a o z
  · unfold offH at z
    by_cases c : ∃ vs, Hf2 a = some (.lst vs)
    · rw [if_pos c] at z; exact e.top a o (s2 a o z)
    · rw [if_neg c] at z; exact e.top a o z
  · unfold offH at z
    by_cases c : ∃ vs, Hf2 a = some (.lst vs)
    · rw [if_pos c] at z; exact .inl z
    · rw [if_neg c] at z
      rcases e.fresh a o z with h | h
      · rcases nw a o h with h | ⟨vs, h⟩
        · exact .inl h
        · exact absurd ⟨vs, h ▸ z⟩ c
      · exact .inr h
theorem Ste.forget {bag : List Addr} {Hf Hf1 H Hf' H' : Hp} (sb : Sub Hf Hf1) (e : Ste bag Hf1 H Hf' H') : Ste bag Hf H Hf H' := ⟨.refl _, (sb.trans e.sub).trans e.top, e.keep, e.dom, fun _ _ q => .inl q⟩
theorem dt_thaw {ds : List D} (i : Nat) (h : PT X c (tT X.K X.mg fx (G.set i (.im (.lst ds))) t)) (hG : G[i]? = some (.ow ds) := by rfl) : PT X c (tT X.K X.mg fx G (Mo.noex t)) := ptI h fun σ H Q ⟨Hf, s, st, w⟩ => by
  obtain ⟨Hf', sb, st'⟩ := st.freeze hG
  exact ⟨Hf', s, st', Mo.wp_mono (Mo.wp_noex w) (fun a s' k b Hf2 H2 e bg r => k b Hf H2 (e.forget sb) bg r) fun _ _ f => f.elim⟩
theorem de_thaw {e : Expr} {ds : List D} (i : Nat) (h : PE X e (tE X.K X.mg fx (G.set i (.im (.lst ds))) x)) (hG : G[i]? = some (.ow ds) := by rfl) : PE X e (tE X.K X.mg fx G (do let d ← Mo.noex x; ask (flatD d))) := peI h fun σ H Q ⟨Hf, s, st, w⟩ => by
  obtain ⟨Hf', sb, nw, st'⟩ := st.freeze2 hG
  refine ⟨Hf', s, st', Mo.wp_mono (Mo.wp_noex (Mo.wp_bind w)) (fun a s' k b Hf2 H2 e bg r => ?_) fun _ _ f => f.elim⟩
  have k' := Mo.wp_lift k
  unfold flatD at k'
  by_cases q : imm a = true
  · rw [if_pos q] at k'
    exact k' b (offH Hf Hf2) H2 (e.off sb nw) bg (r.off offH_or q)
  · rw [if_neg q] at k'; exact k'.elim
end
/-! ### a, b = x, y -/
section
variable {X : Cx} {fx : Fx} {m : Type → Type} [Mo m] {G : List Sl} {α β : Type} {kk : Nat} {a b : Expr} {rest : List Stmt} {ex : α → List Sl} {exb : β → List Sl} {pos px py pt pt2 : Pos} {n1 n2 : Str} {kt k2 : Nat}
theorem dss_parFF {x y : m (List D)} {k : List D → List D → m (Fl α β)} (C : Cok X fx kk) (i j : Nat) (ha : PE X a (tF X.K X.mg fx G x)) (hb : PE X b (tF X.K X.mg fx G y)) (hr : ∀ ds es, PSs X rest (tS X.K X.mg fx ((G.set i (.ow ds)).set j (.ow es)) ex exb (k ds es)))
    (hij : i ≠ j := by decide) (hi : X.N[i]? = some n1 := by rfl) (hj : X.N[j]? = some n2 := by rfl) (hx : X.env.scope.names.lookup n1 = some .local := by rfl) (hy : X.env.scope.names.lookup n2 = some .local := by rfl)
    (hw : swappedStores [.Tuple [.Name n1 px, .Name n2 py] kt pt] (.Tuple [a, b] k2 pt2) X.env = pure (some [n1, n2]) := by rfl)
    (hs : swapsWithSole [.Tuple [.Name n1 px, .Name n2 py] kt pt] (.Tuple [a, b] k2 pt2) pos.line X.env = pure false := by rfl)
    (hsa : starEach [a, b] X.env = (false, eval a X.env) :: starEach [b] X.env := by rfl) (hsb : starEach [b] X.env = (false, eval b X.env) :: starEach [] X.env := by rfl) (hg : GxOk fx G := by first | exact True.intro | repeat' (first | exact True.intro | exact Or.inl rfl | exact Or.inr rfl | refine And.intro ?_ ?_)) :
    PSs X (.Assign [.Tuple [.Name n1 px, .Name n2 py] kt pt] (.Tuple [a, b] k2 pt2) pos :: rest) (tS X.K X.mg fx G ex exb (do let ds ← x; let es ← y; k ds es)) :=
  pssI (pss_cons (ps_par C.calm C.nd hi hj hij hx hy (pa_cons ha (pa_cons hb pa_nil hsb) hsa) hw hs) (pss_ex (ι := List D × List D) fun r => hr r.1 r.2)) fun D σ H ⟨Hf, s, h⟩ =>
  ⟨Hf, s, h.1, Mo.wp_mono (Mo.wp_bind h.2) (fun ds s1 w p vs Hf1 H1 e bg hp hf1 hn l hz => by
    have st1 := h.1.step e bg
    have n0 := h.1.new0 hn
    refine ⟨Hf1, s1, st1, Mo.wp_mono (Mo.wp_bind w) (fun es s2 w2 p2 vs2 Hf2 H2 e2 bg2 hp2 hf2 hn2 l2 hz2 => ?_) fun e s' k => exs_ex hg k⟩
    have st2 := st1.step e2 bg2
    have n2 := st1.new0 hn2
    have hpp : H2 p = some (.lst vs) := e2.keep _ _ hp n0.2.1
    have hff : Hf2 p = none := e2.stayNone hf1 (by rw [hp]; simp)
    have ne : p ≠ p2 := fun z => by rw [z, hn2] at hp; cases hp
    have st3 := st2.setOw (i := i) (fun j q e1 x ex ox z => h.1.owNe hn j q e1 x ex ox z) hpp hff n0.1 n0.2.1 (l.mono e2.sub) hz
    refine ⟨.ref p, .ref p2, rfl, (ds, es), Hf2, s2, st3.setOw (i := j) (fun j' q e1 x ex ox z => ?_) hp2 hf2 n2.1 n2.2.1 l2 hz2, Mo.wp_mono w2 (fun f s2 h2 => h2.up (e.sub.trans e2.sub)) fun e s' k => k⟩
    by_cases c : i = j'
    · subst c
      have hi' : i < σ.length := by
        have := (List.getElem?_eq_some_iff.mp ex).1
        rw [h.1.len]
        simpa using this
      rw [List.getElem?_set_self hi'] at e1
      cases e1
      exact ne z
    · rw [List.getElem?_set_ne c] at e1 ex
      exact st1.owNe hn2 j' q e1 x ex ox z) fun e s' k => exs_ex hg k⟩
end
end DL
namespace DL
open PySem L2
theorem hu65 {k : Nat} {A : Around} (r : Room k A) : A.units + 65 < cLine := by have := r.un; omega
/-- a global constant is a datum -/
def GlobIs (K : PySem.W.Frag) (mg : Str → Option Value) (n : Str) (d : D) : Prop := ∃ u v, mg n = some u ∧ RelV v u ∧ Is K mg (fun _ => none) d v
theorem de_globI {X : Cx} {fx : Fx} {m : Type → Type} [Mo m] {G : List Sl} {n : Str} {d : D} {pos : Pos} (hg : Gl X n) (h : GlobIs X.K X.mg n d) (hd : (n == ("__debug__" : Str)) = false := by decide) : PE X (.Name n pos) (tE X.K X.mg fx G (pure d : m D)) := by
  obtain ⟨u, v, hm, r, i⟩ := h
  exact de_glob hg hm r i hd
theorem globS {K : PySem.W.Frag} {mg : Str → Option Value} {n : Str} {t : Str} {tk : Tok} {l : List Nat} (h : mg n = some (.str t tk)) (ht : t = ⟨l.toArray⟩) (hl : l.length ≤ 1000) : GlobIs K mg n (.str l) :=
  ⟨_, .str t, h, ⟨tk, rfl⟩, by rw [Is]; exact ⟨by rw [ht], Nat.le_of_lt (small1000 hl)⟩⟩
theorem globI {K : PySem.W.Frag} {mg : Str → Option Value} {n : Str} {i : Int} {tk : Tok} (h : mg n = some (.int i tk)) : GlobIs K mg n (.int i) := ⟨_, .int i, h, ⟨tk, rfl⟩, is_int _⟩
section
variable {X : Cx}
def powC : D → D → Option D
  | .int i, .int j => if 0 ≤ j ∧ j ≤ 100 ∧ i.natAbs < 2 ^ 64 then some (.int (i ^ j.toNat)) else none
  | _, _ => none
theorem od_powC : OpR X (binaryOp .Pow) (rD2 X.K X.mg powC) := by
  intro pins s σ H x y v u Q I rx ry h
  obtain ⟨Hf, dx, dy, d, sb, ix, iy, e, q⟩ := h
  unfold powC at e
  split at e
  · split at e
    · rename_i hc
      cases e; cases ix; cases iy
      exact op_pow pins s σ H _ _ v u Q I rx ry ⟨_, _, rfl, rfl, ⟨hc.1, by omega, hc.2.2⟩, q _ Hf H (.refl sb) (is_int _)⟩
    · cases e
  · cases e
end
/-! arguments -/
def apR1 (f : D → R D) : List D → R D
  | [a] => f a
  | _ => .stuck
def apR2 (f : D → D → R D) : List D → R D
  | [a, b] => f a b
  | _ => .stuck
def apM1 (f : D → M D) : List D → M D
  | [a] => f a
  | _ => fun _ => .stuck
theorem apR1_len (f) : ∀ ds : List D, apR1 f ds ≠ .stuck → ds.length = 1 := fun ds h => by
  unfold apR1 at h
  split at h <;> first | rfl | exact absurd rfl h
theorem apR2_len (f) : ∀ ds : List D, apR2 f ds ≠ .stuck → ds.length = 2 := fun ds h => by
  unfold apR2 at h
  split at h <;> first | rfl | exact absurd rfl h
theorem apM1_len (f) : ∀ (ds : List D) s, apM1 f ds s ≠ .stuck → ds.length = 1 := fun ds s h => by
  rcases ds with _ | ⟨a, ds⟩
  · exact absurd rfl h
  · rcases ds with _ | ⟨_, ds⟩
    · rfl
    · exact absurd rfl h
end DL
/-! ### the built-in bases of own error classes -/
namespace PySem
namespace OwnX
open PySem.W PySem.Calls PyProof.Rows PySem.HandSPX Builtin Builtin.ObjectAttr
inductive XB where
  | ve | le | oe | re
def XB.tail : XB → List Value
  | .ve => [.type "ValueError", .type "Exception", .type "BaseException", .type "object"]
  | .le => [.type "LookupError", .type "Exception", .type "BaseException", .type "object"]
  | .oe => [.type "OverflowError", .type "ArithmeticError", .type "Exception", .type "BaseException", .type "object"]
  | .re => [.type "RuntimeError", .type "Exception", .type "BaseException", .type "object"]
def XB.nw : XB → String
  | .ve => "ValueError.__new__"
  | .le => "LookupError.__new__"
  | .oe => "OverflowError.__new__"
  | .re => "RuntimeError.__new__"
def XB.nm : XB → String
  | .ve => "ValueError"
  | .le => "LookupError"
  | .oe => "OverflowError"
  | .re => "RuntimeError"
def XB.it : XB → String
  | .ve => "ValueError.__init__"
  | .le => "LookupError.__init__"
  | .oe => "OverflowError.__init__"
  | .re => "RuntimeError.__init__"
theorem XB.base : ∀ b : XB, ExcBaseFacts b.nm b.nw b.it b.tail
  | .ve => F.excBase_ValueError
  | .le => F.excBase_LookupError
  | .oe => F.excBase_OverflowError
  | .re => F.excBase_RuntimeError
theorem XB.pass : ∀ (b : XB) (self : Value), refuseLoop self "__setattr__" b.tail = pure ()
  | .ve, self => F.store_ValueError.passes self
  | .le, self => F.store_LookupError.passes self
  | .oe, self => F.store_OverflowError.passes self
  | .re, self => F.store_RuntimeError.passes self
/-- own classes ahead of a base's row -/
def overB (b : XB) : List Value → Bool
  | .ref _ :: r => overB b r
  | l => l == b.tail
theorem overB_ind {b : XB} {P : List Value → Prop} (h0 : P b.tail) (h1 : ∀ c r, P r → P (.ref c :: r)) : ∀ l, overB b l = true → P l := by
  intro l
  induction l with
  | nil => intro e; rw [beq_iff_eq.mp (show (([] : List Value) == b.tail) = true from e)]; exact h0
  | cons a r ih =>
    cases a with
    | ref c => exact fun e => h1 c r (ih e)
    | _ => intro e; rw [beq_iff_eq.mp (show (_ == b.tail) = true from e)]; exact h0
theorem overB_pass {b : XB} (self : Value) (l : List Value) (h : overB b l = true) : refuseLoop self "__setattr__" l = pure () :=
  overB_ind (P := fun l => refuseLoop self "__setattr__" l = pure ()) (b.pass self) (fun c r q => by rw [refuseLoop_ref]; exact q) l h
theorem overB_has {b : XB} (X : String) (l : List Value) (h : overB b l = true) : l.contains (.type X) = b.tail.contains (.type X) :=
  overB_ind (P := fun l => l.contains (.type X) = b.tail.contains (.type X)) rfl (fun c r q => by rw [List.contains_cons, q]; rfl) l h
theorem overB_obj {b : XB} (l : List Value) (h : overB b l = true) : l.contains (.type "object") = true :=
  (overB_has "object" l h).trans (by cases b <;> decide +kernel)
theorem overB_ne {b : XB} (l : List Value) (h : overB b l = true) : l.isEmpty = false :=
  overB_ind (P := fun l => l.isEmpty = false) (by cases b <;> rfl) (fun _ _ _ => rfl) l h
/-- a field set on such an error that has no dict yet -/
theorem osaB {b : XB} {prog : Program} {w : World} {A : Around} {R : Result → Shared → Prop} {s : Shared} {K : Frag} {f : Str} {tk : Tok} {v : Value} {x C : Addr} {fv : Array Value} {cd : ClassData}
    (X : K.In s.heap) (hx : s.heap.get? x = some { cls := .ref C, data := .fields fv }) (hcd : clsIn K C = some cd) (hm : overB b cd.mro = true) (hh : cd.hasDict = true) (hn : findIn K (.ref C) f = some none)
    (fin : ∀ h' tk' dx, (∀ a o, a ≠ x → s.heap.get? a = some o → h'.get? a = some o) → s.heap.objs.size ≤ dx → dx ≠ x → h'.get? x = some { cls := .ref C, dict := some dx, data := .fields fv } →
      h'.Ns1 dx (fun y => if y = f then some v else none) → R (.ok (.ret .none)) { s with heap := h', toks := tk' }) :
    codeAny (model prog w) A (.call (.builtin "object.__setattr__") ⟨[.ref x, .str f tk, v], []⟩) R s := by
  obtain ⟨hp, g, dr, t, os⟩ := s
  have I : InstAt hp x { cls := .ref C, data := .fields fv } C none := ⟨hx, rfl, rfl, trivial⟩
  have lt : x < hp.objs.size := Heap.lt_size hx
  have io : Looks (model prog w) hp (isInstance (.ref x) (.type "object")) true :=
    I.type.andThen (looks_mroIn X (by unfold mroIn; rw [hcd, Option.bind_some, if_neg (by rw [overB_ne _ hm]; decide), overB_obj _ hm]))
  have SF := F.store_object
  refine codeAny_call_builtin SF.slot.plain SF.entry
    (@check_slot (model prog w) _ _ ⟨hp, g, dr, t, os⟩ "object.__setattr__" "object" "__setattr__" (.ref x) [.str f tk, v] [] _ SF.kind SF.split io (SF.args (.ref x) (.str f tk) v) ?_)
  have lm : Looks (model prog w) hp (mroOf (.ref C)) cd.mro := (looks_clsIn X hcd).andThen .now
  have ls : Looks (model prog w) hp (storeTaker? none) none := .now
  have lc : Looks (model prog w) hp (classData C) cd := looks_clsIn X hcd
  rw [osa_eq, refuse_eq]
  refine wpAny_bind (wpAny_bind (I.type.at (wpAny_bind (lm.at ?_))))
  rw [overB_pass _ _ hm]
  refine wpAny_pure (wpAny_bind (I.type.at (wpAny_bind ((looks_findIn X hn).at (wpAny_bind (ls.at ?_))))))
  show wpAny _ _ (storeInOwnDict (.ref x) (.ref C) (.str f tk) f v false) _ _ _
  cases cd with
  | mk nm bs mro ns qn hd sn sb ab col del =>
  cases (show hd = true from hh)
  unfold storeInOwnDict ownDictForStores
  repeat (first
    | with_reducible refine store_in_new ?_ ?_
    | with_reducible refine wpAny_loadPart_at hx ?_
    | with_reducible refine lc.at ?_
    | wp_step)
  · exact ⟨_, #[], _, (Heap.get?_update_ne _ _ _ _ (Nat.ne_of_gt lt)).trans (Heap.get?_push_at rfl rfl), rfl, fun e he => absurd he (by simp), fun _ => rfl⟩
  · intro h' tk' hn' hs
    have hx1 : (hp.push { cls := .type "dict", data := .dict #[] }).get? x = some { cls := .ref C, data := .fields fv } := Heap.get?_push_of_some _ hx
    refine fin h' tk' hp.objs.size (fun a o ha ho => ?_) (Nat.le_refl _) (Nat.ne_of_gt lt) ?_ hn'
    · rw [hs.2 a (Nat.ne_of_lt (Heap.lt_size ho)), Heap.get?_update_ne _ _ _ _ ha]
      exact Heap.get?_push_of_some _ ho
    · rw [hs.2 x (Nat.ne_of_lt lt)]
      exact Heap.get?_update_self _ hx1 rfl
end OwnX
end PySem
namespace PySem
namespace OwnX
open PySem.W PySem.Calls PyProof.Rows PySem.HandSPX
/-! ### the text of __init__ -/
def iA (f : Str) (p1 p2 : Pos) : Arguments := { posonlyargs := [], args := [{ arg := "self", annotation := none, pos := p1 }, { arg := f, annotation := none, pos := p2 }], vararg := none, kwonlyargs := [], kw_defaults := [], kwarg := none, defaults := [] }
def iB (f : Str) (q1 q2 q3 q4 : Pos) : List Stmt := [.Assign [.Attribute (.Name "self" q1) f q2] (.Name f q3) q4]
def iS (f : Str) : Scope := { kind := .function, names := [(PySem.Str.ofString "self", .local), (f, .local)], isGenerator := false, isCoroutine := false, more := [] }
theorem lookup_s (f : Str) : (iS f).names.lookup ("self" : Str) = some .local := by
  show List.lookup ("self" : Str) [(PySem.Str.ofString "self", NameKind.local), (f, .local)] = _
  simp [List.lookup]
theorem lookup_f {f : Str} (h : (f == ("self" : Str)) = false) : (iS f).names.lookup f = some .local := by
  have h' : (f == PySem.Str.ofString "self") = false := h
  show List.lookup f [(PySem.Str.ofString "self", NameKind.local), (f, .local)] = _
  simp [List.lookup, h']
theorem kinds2 {f : Str} (h : (f == ("self" : Str)) = false) {u v : Value} : ([(("self" : Str), u), (f, v)].all fun y => (iS f).names.lookup y.1 == some .local || (iS f).names.lookup y.1 == some .cell) = true := by
  simp only [List.all_cons, List.all_nil, lookup_s, lookup_f h]
  rfl
theorem kind_f {f : Str} (h : (f == ("self" : Str)) = false) {name : Str} {L a : Addr} {cd : Value} : (envOfC name (iS f) L a cd).kindOf f = some .local := lookup_f h
theorem kind_s {f : Str} {name : Str} {L a : Addr} {cd : Value} : (envOfC name (iS f) L a cd).kindOf ("self" : Str) = some .local := lookup_s f
theorem binds2_f {f : Str} (h : (f == ("self" : Str)) = false) {name : Str} {L a : Addr} {cd u v : Value} : bindL (envOfC name (iS f) L a cd).kindOf [(("self" : Str), u), (f, v)] (fun _ => none) f = some v := by
  simp [bindL, kind_f h, kind_s]
theorem binds2_s {f : Str} (h : (f == ("self" : Str)) = false) {name : Str} {L a : Addr} {cd u v : Value} : bindL (envOfC name (iS f) L a cd).kindOf [(("self" : Str), u), (f, v)] (fun _ => none) ("self" : Str) = some u := by
  have hne : ¬ (("self" : Str) = f) := fun z => by rw [← z] at h; simp at h
  simp [bindL, kind_f h, kind_s, hne]
/-- what the written part says of Low, at C, and of its __init__, at fI -/
structure OwnTxt (K : Frag) (mg : Str → Option Value) (cn f qn : Str) (C fI : Addr) : Prop where
  fs : (f == ("self" : Str)) = false
  fb : (f == ("__debug__" : Str)) = false
  bind : ∀ (doc pm : Value) (an : Option Addr) (cdv ct u v : Value) (p1 p2 q1 q2 q3 q4 : Pos), bindArgs (fnOf "__init__" qn (iA f p1 p2) (iB f q1 q2 q3 q4) (iS f) .none .none doc pm an cdv ct) ⟨[u, v], []⟩ = pure [(("self" : Str), u), (f, v)]
  gC : mg cn = some (.ref C)
  cls : ∃ (b : XB) (nm q : Str) (N : Addr) (bs bm : List Value) (sn : List Str) (sub : List Value) (ab : Bool) (col : Option Bool) (dd : Option Addr) (k0 k1 k2 k3 k5 : Option Value), K.lookup C = some (excClassObj nm q C N bs bm true sn sub ab col dd k0 k1 k2 k3 k5 b.nw) ∧ overB b bm = true
  sa : findIn K (.ref C) "__setattr__" = some (some (.builtin "object.__setattr__"))
  ga : findIn K (.ref C) "__getattribute__" = some (some (.builtin "BaseException.__getattribute__"))
  gg : findIn K (.ref C) "__getattr__" = some none
  noN : findIn K (.ref C) f = some none
  iC : findIn K (.ref C) "__init__" = some (some (.ref fI))
  tC : typeIn K (.ref fI) = some (.type "function")
  kC : keepIn K (.ref C) = true
  exC : subIn K (.ref C) (.type "BaseException") = some true
  tyC : typeIn K (.ref C) = some (.type "type")
  hdC : hasDictIn K C = true
  te : exmOne K (.ref C) (.ref C) = some true
  fn : ∃ (oc : Value) (od : Option Addr) (doc pm : Value) (an : Option Addr) (cdv ct : Value) (osl : Array (Option Value)) (p1 p2 q1 q2 q3 q4 : Pos),
    K.lookup fI = some ⟨oc, od, .func (fnOf "__init__" qn (iA f p1 p2) (iB f q1 q2 q3 q4) (iS f) .none .none doc pm an cdv ct), osl⟩ ∧ codeIn K cdv qn = true
theorem one_size (v : Value) : [v].length ≤ sizeLine := by
  rw [sizeLine_eq]
  exact (by decide : 1 ≤ 16777216)
theorem ldC {M : Model} {s : Shared} {name : Str} {scope : Scope} {L a : Addr} {cd : Value} {m : Str → Option Value} {x : Str} {pos : Pos} {v : Value} {Q : Value → Shared → Prop} {A : Around} {E : Value → Shared → Prop} (hn : s.heap.Ns L m) (hv : m x = some v) (h : Q v s)
    (hk : scope.kind = .function := by rfl) (hl : (envOfC name scope L a cd).kindOf x = some .local := by rfl) (hd : (x == ("__debug__" : Str)) = false := by decide) :
    wpAny M A (eval (.Name x pos) (envOfC name scope L a cd)) Q E s := wpAny_Name (wpAny_loadName_local hk hl hn hv h) hd
/-- what __init__ leaves of a fresh exception at x -/
structure InitEnd (f : Str) (h h' : Heap) (x C dx t1 : Addr) (v : Value) : Prop where
  keep : ∀ b o, b ≠ x → h.get? b = some o → h'.get? b = some o
  obj : h'.get? x = some { cls := .ref C, dict := some dx, data := .fields #[.ref t1, .none, .none, .none, .bool false, .none] }
  dbig : h.objs.size ≤ dx
  dne : dx ≠ x
  ns : h'.Ns1 dx (fun y => if y = f then some v else none)
/-- a made Low -/
structure OwnMade (f : Str) (h h' : Heap) (e C d : Addr) (v : Value) : Prop where
  keep : ∀ b o, h.get? b = some o → h'.get? b = some o
  new : h.objs.size ≤ e
  obj : ∃ oe vs, h'.get? e = some oe ∧ oe.cls = .ref C ∧ oe.dict = some d ∧ oe.data = .fields vs ∧ vs[1]? = some .none ∧ vs[2]? = some .none ∧ 4 < vs.size
  dbig : h.objs.size ≤ d
  dne : d ≠ e
  ns : h'.Ns1 d (fun y => if y = f then some v else none)
section
variable {prog : Program} {w : World} {A : Around} {E : Value → Shared → Prop} {R : Result → Shared → Prop} {s : Shared} {K : Frag} {mg : Str → Option Value} {cn f qn : Str} {C fI : Addr}
theorem low_init (T : OwnTxt K mg cn f qn C fI) {x t0 : Addr} {v : Value} (X : K.In s.heap) (hlim : s.heap.NoLimit) (hx : s.heap.get? x = some (excO C t0)) (hnx : K.lookup x = none) (hroom : A.depth < recursionLimit)
    (hq : ∀ h' tk dx, InitEnd f s.heap h' x C dx t0 v → R (.ok (.ret .none)) { s with heap := h', toks := tk }) :
    codeAny (model prog w) A (.call (.ref fI) ⟨[.ref x, v], []⟩) R s := by
  obtain ⟨oc, od, doc, pm, an, cdv, ct, osl, p1, p2, q1, q2, q3, q4, ho, hcd⟩ := T.fn
  obtain ⟨b, nm, q, N, bs, bm, sn, sub, ab, col, dd, k0, k1, k2, k3, k5, hC, hbm⟩ := T.cls
  have hcl : clsIn K C = some { name := nm, bases := bs, mro := .ref C :: bm, ns := N, qualname := q, hasDict := true, slotNames := sn, subclasses := sub, abstract := ab, collection := col, hasDel := false } := by unfold clsIn; rw [hC] <;> rfl
  refine Att.call_fn (binds := [(("self" : Str), .ref x), (f, v)]) X hlim ho hcd hroom (BindsTo.of_eq (T.bind ..)) (kinds2 T.fs) (fun s₁ IC => ?_) rfl rfl rfl
  obtain ⟨h₁, tk₁, rfl⟩ := IC.toInCall.same
  have k : ∀ b o, s.heap.get? b = some o → h₁.get? b = some o := IC.toInCall.keep
  have hn := IC.toInCall.ns
  have hxL : s.heap.objs.size ≠ x := Nat.ne_of_gt (Heap.lt_size hx)
  have X₁ : K.In h₁ := X.keeps k
  have hx₁ := k _ _ hx
  -- self.by = by
  show wpAny _ _ (execs _ _) _ _ _
  refine wpAny_execs_cons (plainObj_wpAny_Assign_Attribute ?_)
  refine ldC (v := v) hn (binds2_f T.fs) (ldC (v := .ref x) hn (binds2_s T.fs) ?_) rfl (kind_f T.fs) T.fb
  refine set_plain X₁ (ox := excO C t0) (od := none) ⟨hx₁, rfl, rfl, trivial⟩ T.sa ?_
  refine osaB (b := b) X₁ hx₁ hcl (show overB b (.ref C :: bm) = true from hbm) rfl T.noN (fun h₃ tk₃ dx k₃ dn dne hx₃ hn₃ => ?_)
  show wpAny _ _ (execs _ _) _ _ _
  have z : s.heap.objs.size < h₁.objs.size := hn.lt
  exact wpAny_execs_nil (hq h₃ tk₃ dx ⟨fun b o hb e => k₃ b o hb (k b o e), hx₃, Nat.le_of_lt (Nat.lt_of_lt_of_le z dn), dne, hn₃⟩)
theorem low_made (T : OwnTxt K mg cn f qn C fI) {v : Value} (X : K.In s.heap) (hlim : s.heap.NoLimit) (hroom : A.depth + 1 < recursionLimit)
    (hq : ∀ h' tk e d, OwnMade f s.heap h' e C d v → R (.ok (.ret (.ref e))) { s with heap := h', toks := tk }) :
    codeAny (model prog w) A (.call (.ref C) ⟨[v], []⟩) R s := by
  obtain ⟨b, nm, q, N, bs, bm, sn, sub, ab, col, dd, k0, k1, k2, k3, k5, hC, hbm⟩ := T.cls
  obtain ⟨hp, g, dr, tk, os⟩ := s
  have k : ∀ b o, hp.get? b = some o → ((hp.push (kdv_tup [v])).push (excO C hp.objs.size)).get? b = some o := fun b o e => Heap.get?_push_of_some _ (Heap.get?_push_of_some _ e)
  have hget : ((hp.push (kdv_tup [v])).push (excO C hp.objs.size)).get? (hp.objs.size + 1) = some (excO C hp.objs.size) := by heap_get
  have hnx : K.lookup (hp.objs.size + 1) = none := by
    cases e : K.lookup (hp.objs.size + 1) with
    | none => rfl
    | some o =>
      have z : hp.get? (hp.objs.size + 1) = some o := X _ _ e
      exact absurd (Nat.lt_of_succ_lt (Heap.lt_size z)) (Nat.lt_irrefl _)
  refine call_own b.base (fun X => overB_has X bm hbm) (X _ _ hC) (looks_findIn X T.iC) (fun self => bind_fn X self T.tC) (one_size v) ?_
  refine low_init (s := ⟨(hp.push (kdv_tup [v])).push (excO C hp.objs.size), g, dr, tk, os⟩) T (X.keeps k) (hlim.keeps k) hget hnx ?_ fun h' tk' dx ⟨k', hx, dn, dne, hns⟩ => ?_
  · show A.depth + 1 < recursionLimit
    exact hroom
  · have old : ∀ b o, hp.get? b = some o → h'.get? b = some o := fun b o e => k' b o (Nat.ne_of_lt (Nat.lt_succ_of_lt (Heap.lt_size e))) (k b o e)
    have z : hp.objs.size + 1 + 1 ≤ dx := by
      first
        | (simpa only [Heap.size_push] using dn)
        | exact dn
        | (have q := dn; rw [Heap.size_push, Heap.size_push] at q; exact q)
    exact ⟨rfl, hq h' tk' (hp.objs.size + 1) dx ⟨old, Nat.le_succ _, ⟨_, _, hx, rfl, rfl, rfl, rfl, rfl, (by decide : 4 < 6)⟩, Nat.le_trans (Nat.le_trans (Nat.le_succ _) (Nat.le_succ _)) z, dne, hns⟩⟩
end
end OwnX
end PySem
namespace L2
open PySem PySem.Spec PyProof.Rows
theorem relO_low {v : V} {v' : Value} (r : RelV v v') (g f : Str) : RelO (List.lookup f [(g, v)]) (if f = g then some v' else none) := by
  by_cases hw : f = g
  · subst hw
    rw [if_pos rfl]
    have q : List.lookup f [(f, v)] = some v := by simp [List.lookup]
    rw [q]
    exact r
  · rw [if_neg hw]
    have qw : (f == g) = false := by simpa using hw
    have q2 : List.lookup f [(g, v)] = none := by simp [List.lookup, qw]
    rw [q2]
    trivial
section
variable {X : Cx} {cn f qn : Str} {C fI : Addr}
/-- Low(e) -/
def tMkLow (f : Str) (C : Addr) (ta : TA) : St → Hp → XK → Prop := fun σ H Q => ta σ H fun vs H1 => ∃ v, vs = [v] ∧ ∀ d, H1 d = none → Q (.ref C) (some d) (upd H1 d (.xd [(f, v)]))
theorem pmk_low {a : Expr} {ta : TA} {p pos : Pos} {k : Nat} (T : PySem.OwnX.OwnTxt X.K X.mg cn f qn C fI) (hr : Room k X.A) (ha : PA X [a] ta) (hdb : (cn == ("__debug__" : Str)) = false := by decide) (hg : Gl X cn := by rfl)
    (he : starEach (a :: []) X.env = (false, eval a X.env) :: starEach [] X.env := by rfl) (hpl : (backTo pos (starEach [] X.env)).any (·.1) = false := by rfl) :
    L2N.PMk X (.Call (.Name cn p) [a] [] pos) (tMkLow f C ta) := by
  intro pins s σ H Q I h
  refine wpAny_Call_Name_kw (ld_glob I hg T.gC ?_ (hd := hdb))
  refine PySem.W.callWith_K (h₀ := X.base) I.ok.mod.kin T.kC (thn (ha.run pos pins s σ H _ I h) fun us s1 hh => ?_) he hpl
  obtain ⟨vs, H1, I1, r1, v, ev, q1⟩ := hh
  subst ev
  refine ⟨I1.kIn, ?_⟩
  cases r1 with
  | cons rv rn =>
    rename_i v' us'
    cases rn
    show wpAny _ _ (call (.ref C) [v']) _ _ _
    have hlim := I1.nolimit
    obtain ⟨hp, g, dr, tk, os⟩ := s1
    refine wpAny_call (PySem.OwnX.low_made T I1.kIn hlim (by have := hr.dp; omega) fun h' tk' e d M => ?_)
    show L2N.MkP X pins σ Q (.ref e) ⟨h', g, dr, tk', os⟩
    obtain ⟨oe, fv, hoe, hc, hd, hdat, h1, h2, h4⟩ := M.obj
    have hns := M.ns
    obtain ⟨G', g1, g2⟩ := restrict h' fun b => decide (b ≠ e)
    have gk : ∀ b, b ≠ e → G'.get? b = h'.get? b := fun b hb => g1 b (decide_eq_true hb)
    have ge : G'.get? e = none := g2 e (by simp)
    have old : ∀ b o, hp.get? b = some o → G'.get? b = some o := fun b o q => (gk b (Nat.ne_of_lt (Nat.lt_of_lt_of_le (Heap.lt_size q) M.new))).trans (M.keep b o q)
    have ob : ObjOk X.prog X.w (upd H1 d (.xd [(f, v)])) G' d (.xd [(f, v)]) :=
      ⟨_, hns.at (fun o q => (gk d M.dne).trans q), fun f => relO_low rv _ f⟩
    have J : Inv X pins σ (upd H1 d (.xd [(f, v)])) ⟨G', g, dr, tk', os⟩ := I1.laid (t' := tk') old M.dbig ob
    refine ⟨e, oe, fv, ⟨G', g, dr, tk', os⟩, _, .ref C, some d, rfl, J, fun b o q => ?_, ge, hoe, ⟨hc, hd, fun vs z => by rw [hdat] at z; cases z; exact h2⟩, hdat, h1, ?_, rfl, I1.bare, raises_own T.exC T.tyC, q1 d (I1.hok.fresh M.dbig)⟩
    · by_cases hb : b = e
      · have q' : G'.get? b = some o := q
        rw [hb, ge] at q'; cases q'
      · exact (gk b hb).symm.trans q
    · rw [upd_ne (Ne.symm M.dne)]
      exact I1.hok.fresh M.new
/-- raise Low(e) -/
def tRaiseLow (f : Str) (C : Addr) (W : WX) (ta : TA) : TS := fun _ σ H => tMkLow f C ta σ H fun cls d H' => W cls d σ H'
theorem ps_raiseLow {a : Expr} {ta : TA} {W : WX} {p pos pos2 : Pos} {k : Nat} (hc : X.calm = true) (T : PySem.OwnX.OwnTxt X.K X.mg cn f qn C fI) (hr : Room k X.A) (tk : L2N.Takes X W) (ha : PA X [a] ta) (hdb : (cn == ("__debug__" : Str)) = false := by decide) (hg : Gl X cn := by rfl)
    (he : starEach (a :: []) X.env = (false, eval a X.env) :: starEach [] X.env := by rfl) (hpl : (backTo pos (starEach [] X.env)).any (·.1) = false := by rfl) :
    PS X (.Raise (some (.Call (.Name cn p) [a] [] pos)) none pos2) (tRaiseLow f C W ta) := L2N.ps_raise hc tk (pmk_low T hr ha hdb hg he hpl)
/-- low.by, low the exception that the suite holds (at a; its class cls, its dict d) -/
def tByLow (f : Str) (C : Addr) (a : Addr) (cls : Value) (d : Option Addr) (te : TE) : TE := fun σ H Q => te σ H fun x H1 => x = .ref a ∧ cls = .ref C ∧ ∃ (dd : Addr) (v : V), d = some dd ∧ H1 dd = some (.xd [(f, v)]) ∧ Q v H1
theorem pe_byLow {a : Addr} {oe : Obj} {cls : Value} {d : Option Addr} {pn : List (Addr × Obj)} {e : Expr} {te : TE} {pos : Pos} (T : PySem.OwnX.OwnTxt X.K X.mg cn f qn C fI) (hz : Zc cls d oe) (hf : ∃ vs, oe.data = .fields vs) (he : PE (X.suite a ((a, oe) :: pn)) e te)
    (hb : attributeBase e f X.env (eval e X.env) = eval e X.env := by rfl) :
    PE (X.suite a ((a, oe) :: pn)) (.Attribute e f pos) (tByLow f C a cls d te) := by
  refine ⟨fun pins s σ H Q I h => ?_⟩
  refine attr_of hb (thn (he.run pins s σ H _ I h) fun u s1 hh => ?_)
  obtain ⟨x, H1, I1, rx, ex, ec, dd, v, ed, ea, q⟩ := hh
  subst ex
  obtain rfl : u = Value.ref a := rx
  subst ec
  subst ed
  obtain ⟨ha, _⟩ := I1.pin (a, oe) (List.mem_append_left _ List.mem_cons_self)
  obtain ⟨vs, hd⟩ := hf
  have hx : ObjOk X.prog X.w H1 s1.heap dd (.xd [(f, v)]) := I1.hok dd _ ea
  obtain ⟨mA, hns, hr⟩ := hx
  obtain ⟨od, ho, hl⟩ := lookIn_ns hns
  have l : List.lookup f [(f, v)] = some v := by simp [List.lookup]
  obtain ⟨u, hu, ru⟩ := RelO.some_of (v := v) (o := mA f) (by rw [← l]; exact hr f)
  have J : PySem.W.InstAt s1.heap a oe C (some od) := ⟨ha, hz.1, by unfold PySem.W.notCls; rw [hd] <;> rfl, by rw [hz.2]; exact ho⟩
  exact HandSPX.exc_get I1.kIn J T.ga T.gg T.exC (PySem.W.findObj_own T.hdC T.noN rfl (by rw [hl, hu])) (handed_of ru) ⟨v, H1, I1.tok _, ru, q⟩
end
end L2
/-! ### a tuple, backwards -/
namespace DL
open PySem PySem.Spec PyProof.Rows L2 HT
/-! rules -/
end DL
namespace DL
open PySem L2
section
variable {X : Cx} {fx : Fx} {m : Type → Type} [Mo m] {G : List Sl} {α β : Type} {kk : Nat} {a b e c : Expr} {es : List Expr} {rest : List Stmt} {ex : α → List Sl} {exb : β → List Sl} {x y : m D} {ys : m (List D)} {ds : List D} {n : Str} {np apos cpos pos : Pos}
/-! ### own lists, more -/
def extI (ds : List D) : List D → Option (List D)
  | [.lst es] => if ds.length + es.length ≤ sizeLine then some (ds ++ es) else none
  | _ => none
/-- a call as a statement -/
theorem dss_exprE {k : m (Fl α β)} (he : PE X e (tE X.K X.mg fx G x)) (hr : PSs X rest (tS X.K X.mg fx G ex exb k)) (hs : swapsWith e none pos.line X.env = pure false := by rfl) (hg : GxOk fx G := by first | exact True.intro | repeat' (first | exact True.intro | exact Or.inl rfl | exact Or.inr rfl | refine And.intro ?_ ?_)) :
    PSs X (.Expr e pos :: rest) (tS X.K X.mg fx G ex exb (do let _ ← x; k)) := pssI (pss_cons (ps_expr he hs) hr) fun D σ H ⟨Hf, s, h⟩ =>
  ((h.bind hg).mono fun v H1 ⟨d, Hf1, s1, sb, r, h1⟩ => h1.to).to
end
/-! ### a, b = x, y: one a datum, one an own list -/
/-! ### raise of an own error -/
section
variable {X : Cx} {fx : Fx} {m : Type → Type} [Mo m] {G : List Sl} {α β : Type} {kk : Nat} {a : Expr} {rest : List Stmt} {ex : α → List Sl} {exb : β → List Sl} {p pos pos2 : Pos} {cn f qn : Str} {C fI : Addr}
def raiseX {m : Type → Type} [Mo m] {γ : Type} (c f : Str) (d : D) : m γ := Mo.lift (R.ex ⟨c, f, d⟩)
theorem dss_raise {x : m D} (Ck : Cok X fx kk) (T : PySem.OwnX.OwnTxt X.K X.mg cn f qn C fI) (ha : PE X a (tE X.K X.mg fx G x)) (hdb : (cn == ("__debug__" : Str)) = false := by decide) (hg : Gl X cn := by rfl)
    (he : starEach (a :: []) X.env = (false, eval a X.env) :: starEach [] X.env := by rfl) (hpl : (backTo pos (starEach [] X.env)).any (·.1) = false := by rfl) (hx : GxOk fx G := by first | exact True.intro | repeat' (first | exact True.intro | exact Or.inl rfl | exact Or.inr rfl | refine And.intro ?_ ?_)) :
    PSs X (.Raise (some (.Call (.Name cn p) [a] [] pos)) none pos2 :: rest) (tS X.K X.mg fx G ex exb (do let d ← x; raiseX cn f d : m (Fl α β))) :=
  pssI (pss_cons (ps_raiseLow Ck.calm T Ck.rm Ck.tk.new (pa_cons ha pa_nil he) hdb hg he hpl) pss_never) fun De σ H ⟨Hf, s, h⟩ =>
    ((h.bind hx).mono fun v H1 ⟨d, Hf1, s1, sb, r, h1⟩ => by
      refine ⟨v, rfl, fun p hp => ?_⟩
      have w := Mo.wp_lift h1.2
      have e1 : Ste fx.bag Hf1 H1 (upd Hf1 p (.xd [(f, v)])) (upd H1 p (.xd [(f, v)])) := .new h1.1.top hp
      have nb := (h1.1.new0 hp).2.1
      have st2 := h1.1.step e1 (h1.1.bag.upd nb)
      exact exs_ex hx w _ _ _ _ st2 ⟨C, p, v, T.gC, rfl, rfl, upd_same, r.mono e1.sub⟩).to
end
/-- an error of the class at S is what «except S» names -/
theorem exm_self {K : PySem.W.Frag} {S : Addr} (h1 : PySem.W.subIn K (.ref S) (.type "BaseException") = some true) (h2 : PySem.W.isClsIn K S = true) (h3 : PySem.W.typeIn K (.ref S) = some (.type "type")) (h4 : PySem.W.subIn K (.ref S) (.ref S) = some true) :
    PySem.W.exmOne K (.ref S) (.ref S) = some true := by
  have e1 : (PySem.W.subIn K (.ref S) (.type "BaseException") == some true) = true := by rw [h1] <;> rfl
  have e2 : ((PySem.W.clsIn K S).isSome && PySem.W.typeIn K (.ref S) == some (.type "type")) = true := by
    have h2' : (PySem.W.clsIn K S).isSome = true := h2
    rw [h2', h3] <;> rfl
  show (if (PySem.W.subIn K (.ref S) (.type "BaseException") == some true) = true then (if ((PySem.W.clsIn K S).isSome && PySem.W.typeIn K (.ref S) == some (.type "type")) = true then PySem.W.subIn K (.ref S) (.ref S) else none) else none) = some true
  rw [if_pos e1, if_pos e2]
  exact h4
theorem exm_sub {K : PySem.W.Frag} {S Y : Addr} {b : Bool} (h1 : PySem.W.subIn K (.ref S) (.type "BaseException") = some true) (h2 : PySem.W.isClsIn K S = true) (h3 : PySem.W.typeIn K (.ref S) = some (.type "type")) (h4 : PySem.W.subIn K (.ref Y) (.ref S) = some b) :
    PySem.W.exmOne K (.ref Y) (.ref S) = some b := by
  have e1 : (PySem.W.subIn K (.ref S) (.type "BaseException") == some true) = true := by rw [h1] <;> rfl
  have e2 : ((PySem.W.clsIn K S).isSome && PySem.W.typeIn K (.ref S) == some (.type "type")) = true := by
    have h2' : (PySem.W.clsIn K S).isSome = true := h2
    rw [h2', h3] <;> rfl
  show (if (PySem.W.subIn K (.ref S) (.type "BaseException") == some true) = true then (if ((PySem.W.clsIn K S).isSome && PySem.W.typeIn K (.ref S) == some (.type "type")) = true then PySem.W.subIn K (.ref Y) (.ref S) else none) else none) = some b
  rw [if_pos e1, if_pos e2]
  exact h4
theorem kit_subT {K : PySem.W.Frag} {S : Addr} {T : String} {b : Bool} (h1 : PySem.W.kitMeta T = true) (h2 : PySem.W.subIn K (.ref S) (.type T) = some b) : PySem.W.kitOne K (.ref S) (.type T) = some b := by
  show (if (Value.ref S == Value.type T) = true then some true else (if PySem.W.kitMeta T = true then PySem.W.subIn K (.ref S) (.type T) else none)) = some b
  rw [if_neg (by intro z; cases z), if_pos h1]
  exact h2
theorem kit_subO {K : PySem.W.Frag} {S : Addr} {t : Value} {b : Bool} (h2 : PySem.W.isClsIn K S = true) (h3 : PySem.W.typeIn K (.ref S) = some (.type "type")) (h5 : PySem.W.subIn K (.ref S) (.ref S) = some true) (h4 : PySem.W.subIn K t (.ref S) = some b) : PySem.W.kitOne K t (.ref S) = some b := by
  have e2 : ((PySem.W.clsIn K S).isSome && PySem.W.typeIn K (.ref S) == some (.type "type")) = true := by
    have h2' : (PySem.W.clsIn K S).isSome = true := h2
    rw [h2', h3] <;> rfl
  show (if (t == .ref S) = true then some true else (if ((PySem.W.clsIn K S).isSome && PySem.W.typeIn K (.ref S) == some (.type "type")) = true then PySem.W.subIn K t (.ref S) else none)) = some b
  by_cases c : (t == .ref S) = true
  · have e : t = .ref S := eq_of_beq c
    subst e
    rw [if_pos c, ← h4, h5]
  · rw [if_neg c, if_pos e2]
    exact h4
end DL
namespace DL
open PySem L2
/-! ### try, except -/
abbrev Fx.tried (fx : Fx) (W : WX) (B : Hp) (g : List Sl) : Fx := { fx with Hf0 := B, W := W, gx := some g }
section
variable {K : PySem.W.Frag} {mg : Str → Option Value} {fx : Fx} {Hf H : Hp} {σ : L2.St} {G : List Sl} {s : S}
theorem StS.tried (st : StS K mg fx Hf H σ G s) (W : WX) (g : List Sl) : StS K mg (fx.tried W Hf g) Hf H σ G s := ⟨⟨.refl _, st.top, st.ste.keep, st.ste.dom, fun _ _ e => .inl e⟩, st.bag, st.bagg, st.len, fun i x e => by
  have so := st.sl i x e
  cases x with
  | un => trivial
  | im d => exact so
  | ow ds => exact so
  | od ks ds => exact so
  | ob ns ds => exact so
  | bg => exact so, st.dis⟩
theorem Ste.back {bag : List Addr} {Hf0 H0 Hf H Hf' H' : Hp} (a : Ste bag Hf0 H0 Hf H) (b : Ste bag Hf H0 Hf' H') : Ste bag Hf0 H0 Hf' H' := ⟨a.sub.trans b.sub, b.top, b.keep, b.dom, fun x o e => by
  rcases b.fresh x o e with h | h
  · exact a.fresh x o h
  · exact .inr h⟩
theorem StS.back {Hf1 H1 : Hp} {σ1 : L2.St} {G1 : List Sl} {s1 : S} {W : WX} {g : List Sl} (st : StS K mg fx Hf H σ G s) (st1 : StS K mg (fx.tried W Hf g) Hf1 H1 σ1 G1 s1) : StS K mg fx Hf1 H1 σ1 G1 s1 := ⟨st.ste.back st1.ste, st1.bag, st1.bagg, st1.len, fun i x e => by
  have so := st1.sl i x e
  cases x with
  | un => trivial
  | im d => exact so
  | ow ds => exact so
  | od ks ds => exact so
  | ob ns ds => exact so
  | bg => exact so, st1.dis⟩
/-- a forgotten slot is emptied -/
theorem StS.empty (st : StS K mg fx Hf H σ G s) {i : Nat} (hi : G[i]? = some .un) : StS K mg fx Hf H (σ.set i none) G s := by
  refine ⟨st.ste, st.bag, st.bagg, by simpa using st.len, fun j x e => ?_, fun j k x y p hjk ex ey ox oy e1 e2 => ?_⟩
  · by_cases q : i = j
    · subst q
      rw [hi] at e
      cases e
      trivial
    · rw [List.getElem?_set_ne q]
      exact st.sl j x e
  · have nj : i ≠ j := fun z => by subst z; rw [hi] at ex; cases ex; cases ox
    have nk : i ≠ k := fun z => by subst z; rw [hi] at ey; cases ey; cases oy
    rw [List.getElem?_set_ne nj] at e1
    rw [List.getElem?_set_ne nk] at e2
    exact st.dis j k x y p hjk ex ey ox oy e1 e2
end
theorem unNox {K : PySem.W.Frag} {mg : Str → Option Value} {fx : Fx} {Hf H : Hp} {σ : L2.St} {G : List Sl} {s : S} (st : StS K mg fx.nox Hf H σ G s) : StS K mg fx Hf H σ G s := ⟨st.ste, st.bag, st.bagg, st.len, fun i x e => by
  have so := st.sl i x e
  cases x with
  | un => trivial
  | im d => exact so
  | ow ds => exact so
  | od ks ds => exact so
  | ob ns ds => exact so
  | bg => exact so, st.dis⟩
/-- the errors that may come, and which of them a clause names -/
def Known (K : PySem.W.Frag) (mg : Str → Option Value) (L : List (Str × Str)) (c : Str) (C : Addr) : Prop := ∀ q ∈ L, ∀ C', mg q.1 = some (.ref C') → PySem.W.exmOne K (.ref C') (.ref C) = some (decide (q.1 = c))
section
variable {X : Cx} {fx : Fx} {m : Type → Type} [Mo m] {G G' : List Sl} {α β ε : Type} {kk : Nat} {body suite rest : List Stmt} {b0 : Stmt} {exA : ε → List Sl} {ex : α → List Sl} {exb : β → List Sl} {xb : m (Fl ε β)} {xs : D → m (Fl ε β)} {k : ε → m (Fl α β)} {x n : Str} {np pos pos' : Pos} {C : Addr} {L : List (Str × Str)} {f0 : Str}
/-- the caught error's field -/
theorem de_exf {fx : Fx} {G : List Sl} {cn f qn : Str} {C fI a dd : Addr} {oe : Obj} {pn : List (Addr × Obj)} {d : D} {n : Str} {p pos : Pos} (T : PySem.OwnX.OwnTxt X.K X.mg cn f qn C fI) (hz : Zc (.ref C) (some dd) oe) (hf : ∃ vs, oe.data = .fields vs) (i : Nat) (hG : G[i]? = some (.im (.xc a dd f d)) := by rfl)
    (hN : X.N[i]? = some n := by rfl) (hv : Vis X.env.scope n := by first | exact Or.inl rfl | exact Or.inr (Or.inl rfl) | exact Or.inr (Or.inr rfl)) (hd : (n == ("__debug__" : Str)) = false := by decide) (hcd : (n == ("__classdict__" : Str)) = false := by decide)
    (hb : attributeBase (.Name n p) f X.env (eval (.Name n p) X.env) = eval (.Name n p) X.env := by rfl) :
    PE (X.suite a ((a, oe) :: pn)) (.Attribute (.Name n p) f pos) (tE (X.suite a ((a, oe) :: pn)).K (X.suite a ((a, oe) :: pn)).mg fx G (pure d : m D)) :=
  peI (pe_byLow T hz hf (pe_var (X := X.suite a ((a, oe) :: pn)) hN hv hd hcd) hb) fun σ H Q ⟨Hf, s, h⟩ => by
    obtain ⟨v, ev, e, u, hu, iu⟩ := h.1.sl i _ hG
    subst e
    exact ⟨.ref a, ev, rfl, rfl, dd, u, rfl, h.1.top _ _ hu, h.pure iu⟩
end
end DL
namespace DL
open PySem L2
/-! ### text methods -/
theorem spl_len (S : List Nat) : ∀ (l : List Nat) (k : Nat) (acc : List Nat), (∀ p ∈ TL.spl S k acc l, p.length ≤ acc.length + l.length) ∧ (TL.spl S k acc l).length ≤ l.length + 1
  | [], k, acc => by
    rw [TL.spl_nil]
    simp
  | c :: r, 0, acc => by
    by_cases h : TL.pre S (c :: r) = true
    · rw [TL.spl_hit h]
      obtain ⟨h1, h2⟩ := spl_len S r (S.length - 1) []
      refine ⟨fun p hp => ?_, by rw [List.length_cons, List.length_cons]; omega⟩
      rcases List.mem_cons.mp hp with rfl | hp
      · omega
      · have := h1 p hp
        rw [List.length_nil] at this
        rw [List.length_cons]
        omega
    · rw [TL.spl_miss (by simpa using h)]
      obtain ⟨h1, h2⟩ := spl_len S r 0 (acc ++ [c])
      refine ⟨fun p hp => ?_, by rw [List.length_cons]; omega⟩
      have := h1 p hp
      rw [List.length_append, List.length_singleton] at this
      rw [List.length_cons]
      omega
  | c :: r, k + 1, acc => by
    have e : TL.spl S (k + 1) acc (c :: r) = TL.spl S k acc r := rfl
    rw [e]
    obtain ⟨h1, h2⟩ := spl_len S r k acc
    refine ⟨fun p hp => ?_, by rw [List.length_cons]; omega⟩
    have := h1 p hp
    rw [List.length_cons]
    omega
def splitD (a b : D) : Option (List D) := match a, b with
  | .str z, .str [c] => if c < 256 ∧ z.length ≤ 1000000 then some ((TL.spl [c] 0 [] z).map .str) else none
  | _, _ => none
theorem isL_strsV {K : PySem.W.Frag} {mg : Str → Option Value} {H : Hp} : ∀ {ps : List (List Nat)}, (∀ p ∈ ps, p.length ≤ sizeLine) → IsL K mg H (ps.map .str) (ps.map fun p => V.str ⟨p.toArray⟩)
  | [], _ => rfl
  | p :: ps, h => ⟨_, _, rfl, ⟨rfl, h p (.head _)⟩, isL_strsV fun q m => h q (.tail _ m)⟩
section
variable {X : Cx} {fx : Fx} {m : Type → Type} [Mo m] {G : List Sl} {o e : Expr} {apos pos : Pos} {x y : m D}
theorem df_split (ho : PE X o (tE X.K X.mg fx G x)) (he : PE X e (tE X.K X.mg fx G y)) (hs : starEach [e] X.env = [(false, eval e X.env)] := by rfl) (hbase : attributeBase o "split" X.env (eval o X.env) = eval o X.env := by rfl) (hline : (apos.endLine == pos.line) = true := by rfl) :
    PE X (.Call (.Attribute o "split" apos) [e] [] pos) (tF X.K X.mg fx G (do let u ← x; let _ ← ask (strOf u); let v ← y; ask (splitD u v))) := peI (pe_split ho he hs hbase hline) fun σ H Q ⟨Hf, s, st, w⟩ =>
  ⟨Hf, s, st, Mo.wp_mono (Mo.wp_bind w) (fun d1 s1 k v1 Hf1 H1 e1 bg1 r1 => by
    have k' := Mo.wp_lift (Mo.wp_bind k)
    have st1 := st.step e1 bg1
    cases d1 with
    | str z =>
      obtain ⟨rfl, hz1⟩ := r1
      refine ⟨⟨_, rfl⟩, Hf1, s1, st1, Mo.wp_mono (Mo.wp_bind k') (fun d2 s2 k2 v2 Hf2 H2 e2 bg2 r2 => ?_) fun e s' k => k⟩
      have k3 := Mo.wp_lift k2
      cases hsp : splitD (.str z) d2 with
      | none => rw [hsp] at k3; exact k3.elim
      | some ds =>
        rw [hsp] at k3
        unfold splitD at hsp
        split at hsp
        · rename_i z' c hz'
          cases hz'
          split at hsp
          · rename_i hc
            cases hsp
            obtain ⟨rfl, _⟩ := r2
            have hsz : sizeLine = 16777216 := sizeLine_eq
            have hk : (⟨#[c]⟩ : Str).cps.all (· < 256) = true := by simpa using hc.1
            have es := TL.split_spl ⟨z.toArray⟩ ⟨#[c]⟩ (by simp [TL.tl]) (TL.kind_ok hk)
            have es' : Txt.split ⟨z.toArray⟩ ⟨#[c]⟩ = (TL.spl [c] 0 [] z).map fun p => (⟨p.toArray⟩ : Str) := by
              have e3 : (TL.spl (TL.tl ⟨#[c]⟩) 0 [] (TL.tl ⟨z.toArray⟩)) = TL.spl [c] 0 [] z := by simp [TL.tl]
              rw [e3] at es
              rw [← es, List.map_map]
              conv => lhs; rw [← List.map_id (Txt.split ⟨z.toArray⟩ ⟨#[c]⟩)]
              exact List.map_congr_left fun p _ => (TL.mk_tl p).symm
            obtain ⟨h1, h2⟩ := spl_len [c] z 0 []
            refine ⟨⟨z.toArray⟩, ⟨#[c]⟩, rfl, rfl, rfl, by rw [str_len]; omega, fun p hp => ?_⟩
            rw [es', List.map_map]
            have hn : H p = none := by
              cases q : H p with
              | none => rfl
              | some o => exact absurd hp ((e1.trans e2).dom p (by rw [q]; simp))
            have st2 := st1.step e2 bg2
            have n2 := st2.new0 hp
            exact k3 p _ Hf2 _ ((e1.trans e2).upd hn n2.2.2) (bg2.upd n2.2.1) upd_same n2.2.2 hn (isL_strsV fun q m => by have := h1 q m; simp at this; omega) (by rw [List.length_map]; omega)
          · cases hsp
        · cases hsp
    | _ => exact k'.elim) fun e s' k => k⟩
end
end DL
/-! ### try with several clauses, each with a name or without -/
namespace DL
open PySem PySem.Spec PyProof.Rows L2
abbrev Clause := Value × Option Nat × (Addr → Value → Option Addr → TS)
/-- the ends of a suite whose name is let go -/
def goneE (i : Nat) (De : Ends) : Ends := { nx := fun σ' H' => De.nx (σ'.set i none) H', rt := De.rt, bk := fun σ' H' => De.bk (σ'.set i none) H', ct := fun σ' H' => De.ct (σ'.set i none) H' }
def wCl (De : Ends) (σ : L2.St) (H : Hp) (cls : Value) (d : Option Addr) (a : Addr) : Option Nat × (Addr → Value → Option Addr → TS) → Prop
  | (some i, ts) => ts a cls d (goneE i De) (σ.set i (some (.ref a))) H
  | (none, ts) => ts a cls d De σ H
def wCls (K : PySem.W.Frag) (Wout : WX) (De : Ends) : List Clause → WX
  | [] => Wout
  | (c, p) :: r => fun cls d σ H => ∃ b, PySem.W.exmOne K cls c = some b ∧ (b = true → ∀ a, H a = none → wCl De σ H cls d a p) ∧ (b = false → wCls K Wout De r cls d σ H)
inductive HdC (X : Cx) : List ExceptHandler → List Clause → Prop
  | nil : HdC X [] []
  | named {x n : Str} {i : Nat} {c : Value} {ts : Addr → Value → Option Addr → TS} {b0 : Stmt} {suite : List Stmt} {np pos : Pos} {hds : List ExceptHandler} {l : List Clause} (hc : Names X x c) (hi : X.N[i]? = some n) (hln : X.env.kindOf n = some .local)
      (hsu : ∀ (a : Addr) (oe : Obj) (cls : Value) (d : Option Addr) (pn : List (Addr × Obj)), Zc cls d oe → (∃ vs, oe.data = .fields vs) → (Cool X.mg cls → L2N.Zn cls d oe) → PSs (X.suite a ((a, oe) :: pn)) (b0 :: suite) (ts a cls d)) (r : HdC X hds l) :
      HdC X (.ExceptHandler (some (.Name x np)) (some n) (b0 :: suite) pos :: hds) ((c, some i, ts) :: l)
  | plain {x : Str} {c : Value} {ts : Addr → Value → Option Addr → TS} {b0 : Stmt} {suite : List Stmt} {np pos : Pos} {hds : List ExceptHandler} {l : List Clause} (hc : Names X x c)
      (hsu : ∀ (a : Addr) (oe : Obj) (cls : Value) (d : Option Addr) (pn : List (Addr × Obj)), Zc cls d oe → (∃ vs, oe.data = .fields vs) → (Cool X.mg cls → L2N.Zn cls d oe) → PSs (X.suite a ((a, oe) :: pn)) (b0 :: suite) (ts a cls d)) (r : HdC X hds l) :
      HdC X (.ExceptHandler (some (.Name x np)) none (b0 :: suite) pos :: hds) ((c, none, ts) :: l)
section
variable {X : Cx} {body : List Stmt} {h0 : ExceptHandler} {hds : List ExceptHandler} {l : List Clause} {pos : Pos} {tb : WX → TS} {Wout : WX}
theorem xez_t {X : Cx} {W : WX} {u : Value} {s' : Shared} (x : L2N.XE X W u s') : XEZ L2N.Zn X (fun cls d σ H => W cls d σ H ∧ True) u s' := by
  obtain ⟨a, B, sI, pins', σ', H', cls, d, e, J, nb, up, sky, na, os, ag, w⟩ := x
  exact ⟨a, B, sI, pins', σ', H', cls, d, e, J, nb, up, sky, na, os, ag, w, trivial⟩
theorem xez_f {X : Cx} {W : WX} {u : Value} {s' : Shared} (x : XEZ L2N.Zn X (fun cls d σ H => W cls d σ H ∧ True) u s') : L2N.XE X W u s' := by
  obtain ⟨a, B, sI, pins', σ', H', cls, d, e, J, nb, up, sky, na, os, ag, w, _⟩ := x
  exact ⟨a, B, sI, pins', σ', H', cls, d, e, J, nb, up, sky, na, os, ag, w⟩
section
/-- the exception at a has landed before the clauses; sI is what the body left behind, s the state as it is now -/
structure Stood (X : Cx) (pins : List (Addr × Obj)) (Z : Obj → Prop) (σ : L2.St) (H : Hp) (a : Addr) (B : Heap) (sI s : Shared) : Prop where
  left : L2.Inv X pins σ H sI
  apart : ∀ b o, sI.heap.get? b = some o → b ∉ frs X.stack → B.get? b = some o
  since : sI.heap.UpToSlots s.heap
  fly : HandSPX.FlyingZ B (X.env :: X.outer) a Z s.heap
  free : H a = none
  os : s.os = sI.os
  bare : AllBare s.gens
section
variable {X : Cx} {pins : List (Addr × Obj)} {Z : Obj → Prop} {σ : L2.St} {H : Hp} {a : Addr} {B : Heap} {sI s : Shared}
namespace Stood
/-- the def's state holds, too -/
theorem inv (S : Stood X pins Z σ H a B sI s) : L2.Inv X pins σ H s := S.left.landed S.apart S.fly.1 S.since S.os S.bare
/-- other places of the heap have changed -/
theorem moved (S : Stood X pins Z σ H a B sI s) {h : Heap} (f : HandSPX.FlyingZ B (X.env :: X.outer) a Z h) (up : s.heap.UpToSlots h) : Stood X pins Z σ H a B sI { s with heap := h } :=
  { left := S.left, apart := S.apart, since := S.since.trans up, fly := f, free := S.free, os := S.os, bare := S.bare }
/-- the record of the exception is no frame -/
theorem noFrame (S : Stood X pins Z σ H a B sI s) : a ∉ frs (X.env :: X.outer) := by
  intro isFrame
  obtain ⟨oe, vs, lies, _, rec⟩ := S.fly.there
  obtain ⟨-, o, lies', notRec⟩ := S.fly.2.2.1.mem isFrame
  cases lies.symm.trans lies'
  exact notRec vs rec
theorem notOwn (S : Stood X pins Z σ H a B sI s) (hf : X.env.frame = some X.env.locals) : a ≠ X.env.locals := by
  rintro rfl
  exact S.noFrame (List.mem_filterMap.mpr ⟨X.env, by simp, hf⟩)
theorem notOuter (S : Stood X pins Z σ H a B sI s) : a ∉ X.fs := by
  intro m
  obtain ⟨env, k, e⟩ := List.mem_filterMap.mp m
  exact S.noFrame (List.mem_filterMap.mpr ⟨env, by simp [k], e⟩)
/-- the clause's own context -/
theorem enter (S : Stood X pins Z σ H a B sI s) (hf : X.env.frame = some X.env.locals) :
    ∃ oe, Z oe ∧ (∃ vs, oe.data = .fields vs) ∧ s.heap.get? a = some oe ∧ L2.Inv (X.suite a ((a, oe) :: (X.pn ++ pins))) [] σ H s :=
  let ⟨oe, vs, lies, z, rec⟩ := S.fly.there
  ⟨oe, z, ⟨vs, rec⟩, lies, S.inv.suite lies rec S.free (S.notOwn hf) S.notOuter⟩
/-- a class is read by its name -/
theorem word (S : Stood X pins Z σ H a B sI s) (hf : X.env.frame = some X.env.locals) {x : Str} {c : Value} {np : Pos} (nm : Names X x c) {Q E : Value → Shared → Prop} (q : Q c s) :
    wpAny (model X.prog X.w) (X.A.mark (some (.ref a))) (eval (.Name x np) X.env) Q E s := by
  obtain ⟨oe, -, -, -, I⟩ := S.enter hf
  obtain ⟨gl, nd, own | ⟨noOwn, boot, ne⟩⟩ := nm
  · exact ld_glob I gl own q nd
  · exact ld_blt I gl noOwn boot q ne nd
/-- a clause asks whether the exception is one of its class -/
theorem asked {cls c : Value} {b : Bool} (S : Stood X pins Z σ H a B sI s) (hZ : ∀ o, Z o → o.cls = cls) (is : PySem.W.exmOne X.K cls c = some b) {A : Around} {Q : Bool → Shared → Prop} {E : Value → Shared → Prop} (q : Q b s) :
    wpAny (model X.prog X.w) A (excMatches (.ref a) c) Q E s := by
  obtain ⟨oe, vs, lies, z, rec⟩ := S.fly.there
  exact (PySem.W.exm_one S.inv.kIn (fun _ _ _ t keeps q' => wpAny_typeOf_ref (keeps _ _ lies) (by rwa [hZ oe z])) is).here q
/-- no clause is left: the exception goes on -/
theorem on (S : Stood X pins Z σ H a B sI s) (hf : X.env.frame = some X.env.locals) {De : Ends}
    (out : ∀ h, HandSPX.HeldZ B (X.env :: X.outer) a Z X.env.locals h → s.heap.UpToSlots h → X.xe (.ref a) { s with heap := h }) :
    wpAny (model X.prog X.w) X.A (handleBy (.ref a) X.env []) (SP X pins De) X.xe s := by
  have flies : wpAny (model X.prog X.w) X.A (setFlight (.ref a) X.env.frame) (fun _ s' => wpAny (model X.prog X.w) X.A (throw (.ref a) : Sem Flow) (SP X pins De) X.xe s') X.xe s := by
    rw [hf]
    exact HandSPX.setFlight_upZ S.fly fun h held up => wpAny_throw (out h held up)
  obtain ⟨-, -, -, oe, vs, T, -, -, lies, -, rec, tb, -⟩ := id S.fly
  apply wpAny_handleBy_nil
  simp only [PySem.passOn]
  refine wpAny_bind (wpAny_field lies rec tb ?_)
  have hasTb : (Value.ref T == Value.none) = false := rfl
  rw [hasTb]
  first
    | exact wpAny_bind (wpAny_pure (wpAny_bind flies))
    | exact wpAny_bind flies
end Stood
/-- two contexts whose states are alike end alike -/
theorem SP.carry {Y : Cx} {pins' : List (Addr × Obj)} {De : Ends} {f : Flow} {s' : Shared} (h : SP Y pins' De f s') (c : ∀ {σ : L2.St} {H : Hp}, L2.Inv Y pins' σ H s' → L2.Inv X pins σ H s') : SP X pins De f s' := by
  unfold SP at h ⊢
  split at h
  all_goals first
    | (obtain ⟨σ1, H1, I, q⟩ := h; exact ⟨σ1, H1, c I, q⟩)
    | (obtain ⟨v, σ1, H1, I, r, q⟩ := h; exact ⟨v, σ1, H1, c I, r, q⟩)
/-- an exception of a body comes before the clauses -/
theorem stand {Z : Value → Option Addr → Obj → Prop} {W : WX} {xe : Value → Shared → Prop} {hds : List ExceptHandler} {De : Ends} {u : Value} {s' : Shared} (hZ : ∀ cls d, PXN.Steady1 (Z cls d)) (hs : X.stack = X.env :: X.outer) (hf : X.env.frame = some X.env.locals) (ok : X.Ok)
    (xx : XEZ Z (X.tr (X.pn ++ pins) xe) W u s')
    (go : ∀ (a : Addr) (B : Heap) (sI s : Shared) (σ : L2.St) (H : Hp) (cls : Value) (d : Option Addr), Stood X pins (Z cls d) σ H a B sI s → W cls d σ H → wpAny (model X.prog X.w) X.A (handleBy (.ref a) X.env hds) (SP X pins De) X.xe s) :
    wpAny (model X.prog X.w) X.A (noteFrame u X.env) (fun _ s2 => wpAny (model X.prog X.w) X.A (setFlight u none) (fun _ s3 => wpAny (model X.prog X.w) X.A (handleBy u X.env hds) (SP X pins De) X.xe s3) X.xe s2) X.xe s' := by
  obtain ⟨a, B, sI, pins', σ, H, cls, d, rfl, I, apart, since, sky, free, os, bare, w⟩ := xx
  have sky' : L2.Sky B (X.env :: X.outer) a (Z cls d) X.env.locals s'.heap := hs ▸ sky
  exact L2N.Sky.land (hZ cls d) (by rw [ok.frames, hs]) hf sky' fun h f up => go a B sI _ σ H cls d ⟨I.ofTry ok, apart, since.trans up, f, free, os, bare⟩ w
end
end
section
variable {X : Cx} {pins : List (Addr × Obj)} {Z : Obj → Prop} {σ : L2.St} {H : Hp} {a : Addr} {B : Heap} {sI s : Shared} {De : Ends}
/-- the suite of a clause with a name runs, and the name goes -/
theorem suite_named {n : Str} {i : Nat} {pos' : Pos} {b0 : Stmt} {suite : List Stmt} {ts : TS} {R : Result → Shared → Prop} {E : Value → Shared → Prop} (S : Stood X pins Z σ H a B sI s) (ok : X.Ok) (hN : X.N.Nodup) (hf : X.env.frame = some X.env.locals) (hi : X.N[i]? = some n) (hln : X.env.kindOf n = some .local)
    (hsu : ∀ oe : Obj, Z oe → (∃ vs, oe.data = .fields vs) → PSs (X.suite a ((a, oe) :: (X.pn ++ pins))) (b0 :: suite) ts) (w : ts (goneE i De) (σ.set i (some (.ref a))) H)
    (hR : ∀ f s', (wpAny (model X.prog X.w) X.A (do bindName X.env n .none; unbindBehindTheSuite X.env n pos') (fun _ s7 => SP X pins De f s7) E s') → R (.ok f) s') :
    codeAny (model X.prog X.w) (X.A.mark (some (.ref a))) (.handlers (.ref a) [.ExceptHandler none (some n) (b0 :: suite) pos'] X.env) R s := by
  refine codeAny_handlers_suite_as (HandSPX.lands_againZ S.fly fun h f up => ?_)
  obtain ⟨oe, z, rec, -, I⟩ := (S.moved f up).enter hf
  refine store_ok (X := X.suite a ((a, oe) :: (X.pn ++ pins))) (v := .ref a) I hN hi (.inl hln) rfl (fun s5 I5 => ?_) (.inr hln)
  refine wpAny_mono ((hsu oe z rec).run [] s5 _ H _ I5 w) (fun fl s6 ends => hR fl s6 ?_) fun _ _ none => False.elim none
  have back : ∀ {σ6 : L2.St} {H6 : Hp} {Q : Shared → Prop}, L2.Inv (X.suite a ((a, oe) :: (X.pn ++ pins))) [] σ6 H6 s6 → (∀ s7, L2.Inv X pins (σ6.set i none) H6 s7 → Q s7) → wpAny (model X.prog X.w) X.A (do bindName X.env n .none; unbindBehindTheSuite X.env n pos') (fun _ s7 => Q s7) E s6 :=
    fun I6 q => gone_ok (I6.unsuite ok) hN hi hln q
  unfold SP at ends ⊢
  split at ends
  all_goals first
    | (obtain ⟨σ6, H6, I6, q⟩ := ends; exact back I6 fun _ I7 => ⟨_, _, I7, q⟩)
    | (obtain ⟨v, σ6, H6, I6, r, q⟩ := ends; exact back I6 fun _ I7 => ⟨v, _, _, I7, r, q⟩)
/-- the suite of a clause without a name runs -/
theorem suite_plain {pos' : Pos} {b0 : Stmt} {suite : List Stmt} {ts : TS} {R : Result → Shared → Prop} (S : Stood X pins Z σ H a B sI s) (ok : X.Ok) (hf : X.env.frame = some X.env.locals)
    (hsu : ∀ oe : Obj, Z oe → (∃ vs, oe.data = .fields vs) → PSs (X.suite a ((a, oe) :: (X.pn ++ pins))) (b0 :: suite) ts) (w : ts De σ H) (hR : ∀ f s', SP X pins De f s' → R (.ok f) s') :
    codeAny (model X.prog X.w) (X.A.mark (some (.ref a))) (.handlers (.ref a) [.ExceptHandler none none (b0 :: suite) pos'] X.env) R s := by
  refine codeAny_handlers_suite (HandSPX.lands_againZ S.fly fun h f up => ?_)
  obtain ⟨oe, z, rec, -, I⟩ := (S.moved f up).enter hf
  exact wpAny_mono ((hsu oe z rec).run [] _ σ H _ I w) (fun fl s6 ends => hR fl s6 (SP.carry ends fun I6 => I6.unsuite ok)) fun _ _ none => False.elim none
/-- one clause after the other -/
theorem clauses {Z : Value → Option Addr → Obj → Prop} {Wout : WX} {cls : Value} {d : Option Addr} (ok : X.Ok) (hf : X.env.frame = some X.env.locals) (hN : X.N.Nodup) (S : Stood X pins (Z cls d) σ H a B sI s) (hzc : ∀ o, Z cls d o → Zc cls d o) (cool : ∀ o, Z cls d o → Cool X.mg cls → L2N.Zn cls d o)
    (out : Wout cls d σ H → ∀ h, HandSPX.HeldZ B (X.env :: X.outer) a (Z cls d) X.env.locals h → s.heap.UpToSlots h → X.xe (.ref a) { s with heap := h }) :
    ∀ {hds : List ExceptHandler} {l : List Clause}, HdC X hds l → wCls X.K Wout De l cls d σ H → wpAny (model X.prog X.w) X.A (handleBy (.ref a) X.env hds) (SP X pins De) X.xe s := by
  intro hds l hh
  have clsOf : ∀ o, Z cls d o → o.cls = cls := fun o z => (hzc o z).1
  induction hh with
  | nil => exact fun w => S.on hf (out w)
  | named nm hi hln hsu _ ih =>
    rintro ⟨b, is, yes, no⟩
    refine wpAny_handleBy_cons (codeAny_handlers_test (S.word hf nm (S.asked clsOf is ?_))) nofun
    cases b
    · exact ih (no rfl)
    · exact suite_named (ts := _) S ok hN hf hi hln (fun oe z rec => hsu a oe cls d _ (hzc oe z) rec (cool oe z)) (yes rfl a S.free) fun f s' z => z
  | plain nm hsu _ ih =>
    rintro ⟨b, is, yes, no⟩
    refine wpAny_handleBy_cons (codeAny_handlers_test (S.word hf nm (S.asked clsOf is ?_))) nofun
    cases b
    · exact ih (no rfl)
    · exact suite_plain (ts := _) S ok hf (fun oe z rec => hsu a oe cls d _ (hzc oe z) rec (cool oe z)) (yes rfl a S.free) fun f s' z => z
end
section
variable {X : Cx} {body : List Stmt} {h0 : ExceptHandler} {hds : List ExceptHandler} {l : List Clause} {pos : Pos} {tb : WX → TS} {Wout : WX}
/-- an exception of the body, at the clauses -/
theorem catchM {Z : Value → Option Addr → Obj → Prop} {c0 : Value → Prop} (hZ : ∀ cls d, PXN.Steady1 (Z cls d)) (hzc : ∀ cls d o, Z cls d o → Zc cls d o) (hcool : ∀ cls d o, c0 cls → Z cls d o → Cool X.mg cls → L2N.Zn cls d o) (hs : X.stack = X.env :: X.outer) (hf : X.env.frame = some X.env.locals) (hN : X.N.Nodup)
    (tk : ∀ u s', XEZ Z X (fun cls d σ H => Wout cls d σ H ∧ c0 cls) u s' → X.xe u s') (hh : HdC X hds l) {pins : List (Addr × Obj)} {De : Ends} {xe : Value → Shared → Prop} (ok : X.Ok) {u : Value} {s' : Shared}
    (xx : XEZ Z (X.tr (X.pn ++ pins) xe) (fun cls d σ H => wCls X.K Wout De l cls d σ H ∧ c0 cls) u s') :
    wpAny (model X.prog X.w) X.A (noteFrame u X.env) (fun _ s2 => wpAny (model X.prog X.w) X.A (setFlight u none) (fun _ s3 => wpAny (model X.prog X.w) X.A (handleBy u X.env hds) (SP X pins De) X.xe s3) X.xe s2) X.xe s' :=
  stand hZ hs hf ok xx fun a B sI s σ H cls d S ⟨w, c⟩ => clauses ok hf hN S (hzc cls d) (fun o z => hcool cls d o c z)
    (fun out h held up => tk _ _ ⟨a, B, sI, pins, σ, H, cls, d, rfl, S.left, S.apart, S.since.trans up, .inr (.inr (hs ▸ held)), S.free, S.os, S.bare, out, c⟩) hh w
end
theorem ps_tryC (hs : X.stack = X.env :: X.outer) (hf : X.env.frame = some X.env.locals) (hN : X.N.Nodup) (tk : Takes X Wout)
    (hb : ∀ (W : WX) (pn : List (Addr × Obj)) (xe : Value → Shared → Prop), Takes (X.tr pn xe) W → PassesOwn (model X.prog X.w) X.A X.env xe → PSs (X.tr pn xe) body (tb W)) (hh : HdC X (h0 :: hds) l) :
    PS X (.Try body (h0 :: hds) [] [] pos) (fun De σ H => tb (wCls X.K Wout De l) De σ H) := by
  refine ⟨fun pins s σ H De I h => ?_⟩
  have ok := I.ok
  refine wpAny_Try_except ?_
  refine wpAny_mono ((hb (wCls X.K Wout De l) (X.pn ++ pins) (fun e s1 => wpAny (model X.prog X.w) X.A (noteFrame e X.env) (fun _ s2 => wpAny (model X.prog X.w) X.A (setFlight e none) (fun _ s3 =>
    wpAny (model X.prog X.w) X.A (handleBy e X.env (h0 :: hds)) (SP X pins De) X.xe s3) X.xe s2) X.xe s1) ⟨fun u s' xx => ?_, fun u s' xx => ?_⟩ PassesOwn.looking).run [] s σ H De (I.toTry _) h) (fun f s1 hsp => ?_) (fun e s1 he => he)
  · exact catchM (Z := Zc) (c0 := fun cls => ¬ Cool X.mg cls) (fun _ _ => zc_steady1) (fun _ _ _ z => z) (fun _ _ _ n _ c => absurd c n) hs hf hN (fun u s' x => tk.hot u s' x) hh ok xx
  · exact catchM (Z := L2N.Zn) (Wout := Wout) (c0 := fun _ => True) (fun _ _ => L2N.Zn.steady) (fun _ _ _ z => z.zc) (fun _ _ _ _ z _ => z) hs hf hN (fun u s' x => tk.new u s' (xez_f x)) hh ok (xez_t xx)
  · cases f with
    | next => obtain ⟨σ', H', J', q⟩ := hsp; exact wpAny_execs_nil ⟨σ', H', J'.ofTry ok, q⟩
    | brk => obtain ⟨σ', H', J', q⟩ := hsp; exact ⟨σ', H', J'.ofTry ok, q⟩
    | cont => obtain ⟨σ', H', J', q⟩ := hsp; exact ⟨σ', H', J'.ofTry ok, q⟩
    | ret u => obtain ⟨v, σ', H', J', r, q⟩ := hsp; exact ⟨v, σ', H', J'.ofTry ok, r, q⟩
end
end DL
namespace DL
open PySem L2
def pickC {m : Type → Type} [Mo m] {α β : Type} : List (Str × (D → m (Fl α β))) → Exn → m (Fl α β)
  | [], e => Mo.lift (.ex e)
  | (c, h) :: r, e => if e.c = c then Mo.noex (h e.d) else pickC r e
def tryFs {m : Type → Type} [Mo m] {α β : Type} (L : List (Str × Str)) (x : m (Fl α β)) (hs : List (Str × (D → m (Fl α β)))) : m (Fl α β) :=
  Mo.tryC x fun e => if (e.c, e.f) ∈ L then pickC hs e else Mo.lift .stuck
section
variable {X : Cx} {fx : Fx} {m : Type → Type} [Mo m] {G G' : List Sl} {α β ε : Type} {kk : Nat} {exA : ε → List Sl} {exb : β → List Sl} {L : List (Str × Str)}
/-- the clauses, read as data -/
inductive HdS (X : Cx) (fx : Fx) (L : List (Str × Str)) (G' : List Sl) {m : Type → Type} [Mo m] {ε β : Type} (exA : ε → List Sl) (exb : β → List Sl) : List ExceptHandler → List (Str × (D → m (Fl ε β))) → Prop
  | nil : HdS X fx L G' exA exb [] []
  | named {x n : Str} {C : Addr} {f0 : Str} {b0 : Stmt} {suite : List Stmt} {np pos : Pos} {hds : List ExceptHandler} {l : List (Str × (D → m (Fl ε β)))} {xs : D → m (Fl ε β)} (i : Nat) (hkn : Known X.K X.mg L x C) (hL0 : ∀ q ∈ L, q.1 = x → q.2 = f0) (hmg : X.mg x = some (.ref C)) (hun : ∀ a, (exA a)[i]? = some .un) (hunb : ∀ b, (exb b)[i]? = some .un)
      (hi : X.N[i]? = some n) (hln : X.env.kindOf n = some .local) (hg : Gl X x) (hdb : (x == ("__debug__" : Str)) = false)
      (hs : ∀ (a : Addr) (oe : Obj) (dd : Addr) (d : D) (pn : List (Addr × Obj)), Zc (.ref C) (some dd) oe → (∃ vs, oe.data = .fields vs) → (Cool X.mg (.ref C) → L2N.Zn (.ref C) (some dd) oe) → PSs (X.suite a ((a, oe) :: pn)) (b0 :: suite) (tS X.K X.mg fx.nox (G'.set i (.im (.xc a dd f0 d))) exA exb (xs d))) (r : HdS X fx L G' exA exb hds l) :
      HdS X fx L G' exA exb (.ExceptHandler (some (.Name x np)) (some n) (b0 :: suite) pos :: hds) ((x, xs) :: l)
  | plain {x : Str} {C : Addr} {b0 : Stmt} {suite : List Stmt} {np pos : Pos} {hds : List ExceptHandler} {l : List (Str × (D → m (Fl ε β)))} {xs : m (Fl ε β)} (hkn : Known X.K X.mg L x C) (hmg : X.mg x = some (.ref C)) (hg : Gl X x) (hdb : (x == ("__debug__" : Str)) = false)
      (hs : ∀ (a : Addr) (oe : Obj) (pn : List (Addr × Obj)), PSs (X.suite a ((a, oe) :: pn)) (b0 :: suite) (tS X.K X.mg fx.nox G' exA exb xs)) (r : HdS X fx L G' exA exb hds l) :
      HdS X fx L G' exA exb (.ExceptHandler (some (.Name x np)) none (b0 :: suite) pos :: hds) ((x, fun _ => xs) :: l)
theorem hdS_ok {hds : List ExceptHandler} {l : List (Str × (D → m (Fl ε β)))} (hx' : GxOk fx G') (h : HdS X fx L G' exA exb hds l) : ∃ cl : List Clause, HdC X hds cl ∧ ∀ {De : Ends} {Hf Hf1 H1 : Hp} {σ1 : L2.St} {s1 : S} {e : Exn} {cls : Value} {dd : Option Addr}, Sub Hf Hf1 → StS X.K X.mg fx Hf1 H1 σ1 G' s1 → (e.c, e.f) ∈ L → ExIs X.K X.mg Hf1 H1 e cls dd →
    Mo.wp (pickC l e) s1 (FP X.K X.mg fx Hf exA exb De) (EXS X.K X.mg fx) → wCls X.K fx.W De cl cls dd σ1 H1 := by
  induction h with
  | nil => exact ⟨[], .nil, fun {De Hf Hf1 H1 σ1 s1 e cls dd} sb st hL xi w => exs_ex hx' (Mo.wp_lift w) _ _ Hf1 H1 st xi⟩
  | @named x n C f0 b0 suite np pos hds l xs i hkn hL0 hmg hun hunb hi hln hg hdb hs r ih =>
    obtain ⟨cl, hcl, hw⟩ := ih
    refine ⟨(.ref C, some i, fun a cls d De σ H => ∃ p : Addr × DL.D, cls = .ref C ∧ d = some p.1 ∧ tS X.K X.mg fx.nox (G'.set i (.im (.xc a p.1 f0 p.2))) exA exb (xs p.2) De σ H) :: cl, .named ⟨hg, hdb, .inl hmg⟩ hi hln (fun a oe cls d pn hz hf hk => ⟨fun pins s σ H De I ⟨p, ec, ed, q⟩ => by
      subst ec ed
      exact (hs a oe p.1 p.2 pn hz hf hk).run pins s σ H De I q⟩) hcl, ?_⟩
    intro De Hf Hf1 H1 σ1 s1 e cls dd sb st hL xi w
    obtain ⟨C1, p, v, m1, e1, e2, hd, is1⟩ := id xi
    subst e1 e2
    refine ⟨decide (e.c = x), hkn _ hL C1 m1, fun hb a ha => ?_, fun hb => ?_⟩
    · have ec : e.c = x := of_decide_eq_true hb
      have w' : Mo.wp (if e.c = x then Mo.noex (xs e.d) else pickC l e) s1 _ _ := w
      rw [if_pos ec] at w'
      have eC : C1 = C := by rw [ec, hmg] at m1; cases m1; rfl
      subst eC
      have ef : e.f = f0 := hL0 _ hL ec
      rw [ef] at hd
      refine ⟨(p, e.d), rfl, rfl, Hf1, s1, StS.nox (st.set (v := .ref a) (d := .xc a p f0 e.d) ⟨rfl, v, hd, is1⟩), Mo.wp_mono (Mo.wp_noex w') (fun f s2 h2 => ?_) fun _ _ z => z.elim⟩
      cases f with
      | nx a' => exact fun Hf' H' σ' sb' st' => h2 Hf' H' _ (sb.trans sb') (StS.empty (unNox st') (hun a'))
      | rt d => exact fun v Hf' H' e bg r => h2 v Hf' H' e bg r
      | bk b => exact fun Hf' H' σ' sb' st' => h2 Hf' H' _ (sb.trans sb') (StS.empty (unNox st') (hunb b))
      | ct b => exact fun Hf' H' σ' sb' st' => h2 Hf' H' _ (sb.trans sb') (StS.empty (unNox st') (hunb b))
    · have ec : ¬ e.c = x := of_decide_eq_false hb
      have w' : Mo.wp (if e.c = x then Mo.noex (xs e.d) else pickC l e) s1 _ _ := w
      rw [if_neg ec] at w'
      exact hw sb st hL xi w'
  | @plain x C b0 suite np pos hds l xs hkn hmg hg hdb hs r ih =>
    obtain ⟨cl, hcl, hw⟩ := ih
    refine ⟨(.ref C, none, fun a cls d De σ H => tS X.K X.mg fx.nox G' exA exb xs De σ H) :: cl, .plain ⟨hg, hdb, .inl hmg⟩ (fun a oe cls d pn hz hf _ => hs a oe pn) hcl, ?_⟩
    intro De Hf Hf1 H1 σ1 s1 e cls dd sb st hL xi w
    obtain ⟨C1, p, v, m1, e1, e2, hd, is1⟩ := id xi
    subst e1 e2
    refine ⟨decide (e.c = x), hkn _ hL C1 m1, fun hb a ha => ?_, fun hb => ?_⟩
    · have ec : e.c = x := of_decide_eq_true hb
      have w' : Mo.wp (if e.c = x then Mo.noex xs else pickC l e) s1 _ _ := w
      rw [if_pos ec] at w'
      refine ⟨Hf1, s1, StS.nox st, Mo.wp_mono (Mo.wp_noex w') (fun f s2 h2 => ?_) fun _ _ z => z.elim⟩
      cases f with
      | nx a' => exact fun Hf' H' σ' sb' st' => h2 Hf' H' _ (sb.trans sb') (unNox st')
      | rt d => exact fun v Hf' H' e bg r => h2 v Hf' H' e bg r
      | bk b => exact fun Hf' H' σ' sb' st' => h2 Hf' H' _ (sb.trans sb') (unNox st')
      | ct b => exact fun Hf' H' σ' sb' st' => h2 Hf' H' _ (sb.trans sb') (unNox st')
    · have ec : ¬ e.c = x := of_decide_eq_false hb
      have w' : Mo.wp (if e.c = x then Mo.noex xs else pickC l e) s1 _ _ := w
      rw [if_neg ec] at w'
      exact hw sb st hL xi w'
variable {body rest : List Stmt} {h0 : ExceptHandler} {hds : List ExceptHandler} {ex : α → List Sl} {xb : m (Fl ε β)} {l : List (Str × (D → m (Fl ε β)))} {k : ε → m (Fl α β)} {pos : Pos}
theorem dss_tryC (Ck : Cok X fx kk) (hst : X.stack = X.env :: X.outer) (hfr : X.env.frame = some X.env.locals)
    (hb : ∀ W pn xe B, Cok (X.tr pn xe) (fx.tried W B G') kk → PSs (X.tr pn xe) body (tS X.K X.mg (fx.tried W B G') G exA exb xb)) (hh : HdS X fx L G' exA exb (h0 :: hds) l)
    (hr : ∀ a, PSs X rest (tS X.K X.mg fx (exA a) ex exb (k a)))
    (hx' : GxOk fx G' := by first | exact True.intro | repeat' (first | exact True.intro | exact Or.inl rfl | exact Or.inr rfl | refine And.intro ?_ ?_)) :
    PSs X (.Try body (h0 :: hds) [] [] pos :: rest) (tS X.K X.mg fx G ex exb (seqF (tryFs L xb l) k)) := by
  obtain ⟨cl, hcl, hw⟩ := hdS_ok hx' hh
  refine pssI (pss_cons (ps_tryC (tb := fun W D σ H => ∃ B, tS X.K X.mg (fx.tried W B G') G exA exb xb D σ H) (Wout := fx.W) hst hfr Ck.nd Ck.tk (fun W pn xe tk hp => pss_ex fun B => hb W pn xe B ⟨Ck.calm, fun _ => hp, tk, Ck.rm, Ck.nd, Ck.gd⟩) hcl) (pss_ex hr)) fun De σ H ⟨Hf, s, h⟩ => ?_
  obtain ⟨st, w⟩ := h.seq (exA := exA)
  refine ⟨Hf, Hf, s, st.tried _ _, Mo.wp_mono (Mo.wp_try w) (fun f s1 h1 => ?_) (fun e s1 h1 => ?_)⟩
  · cases f with
    | nx a => exact fun Hf' H' σ' sb st' => h1 Hf' H' σ' sb (st.back st')
    | rt d => exact fun v Hf' H' e bg r => h1 v Hf' H' (st.ste.back e) bg r
    | bk b => exact fun Hf' H' σ' sb st' => h1 Hf' H' σ' sb (st.back st')
    | ct b => exact fun Hf' H' σ' sb st' => h1 Hf' H' σ' sb (st.back st')
  · intro cls dd σ1 Hf1 H1 xs1 xi
    have st1 : StS X.K X.mg (fx.tried _ Hf G') Hf1 H1 σ1 G' s1 := xs1
    by_cases hL : (e.c, e.f) ∈ L
    · rw [if_pos hL] at h1
      exact hw st1.ste.sub (st.back st1) hL xi h1
    · rw [if_neg hL] at h1
      exact (Mo.wp_lift h1).elim
end
end DL
/-! ### isinstance of the caught error -/
namespace DL
open PySem PySem.Spec PyProof.Rows L2
def rIsX (K : PySem.W.Frag) (C a dd : Addr) (f : Str) : List V → Hp → VK → Prop := fun xs H Q => ∃ (c v : V) (cv : Value) (b : Bool), xs = [.ref a, c] ∧ ClsV c cv ∧ H dd = some (.xd [(f, v)]) ∧ PySem.W.kitOne K (.ref C) cv = some b ∧ Q (.bl b) H
theorem call_isX {X : Cx} {a C dd : Addr} {f : Str} {oe : Obj} {pn : List (Addr × Obj)} (E : ExcC X.K C) (hz : Zc (.ref C) (some dd) oe) (hf : ∃ vs, oe.data = .fields vs) : CallR (X.suite a ((a, oe) :: pn)) (.builtin "isinstance") (rIsX X.K C a dd f) := by
  intro pins s σ H xs us Q I r h
  obtain ⟨c, v, cv, b, rfl, hcv, hdd, e, q⟩ := h
  obtain ⟨u1, u2, rfl, r1, r2⟩ := vals2 r
  have e2 := hcv.eq r2
  subst e2
  cases (show u1 = Value.ref a from r1)
  obtain ⟨hget, _⟩ := I.pin (a, oe) (List.mem_append.mpr (.inl List.mem_cons_self))
  obtain ⟨vs, hv⟩ := hf
  have hx : ObjOk X.prog X.w H s.heap dd (.xd [(f, v)]) := I.hok dd _ hdd
  obtain ⟨mA, hns, hr⟩ := hx
  obtain ⟨od, ho, hl⟩ := lookIn_ns hns
  have J : PySem.W.InstAt s.heap a oe C (some od) := ⟨hget, hz.1, by unfold PySem.W.notCls; rw [hv] <;> rfl, by rw [hz.2]; exact ho⟩
  have hc : (PySem.W.clsIn X.K C).isSome = true := by
    obtain ⟨cd, hcd, _⟩ := PySem.W.any_some E.hd
    rw [hcd]
    rfl
  exact PySem.W.kia_one (PySem.W.kitx_exc hc E.hg E.hk E.hs E.ha E.hn E.ht E.hm) I.kIn J e (fun z => nomatch z) fun tk => ⟨.bl b, H, I.kept (t' := tk) fun _ _ z => z, rfl, q⟩
section
variable {X : Cx} {m : Type → Type} [Mo m]
theorem de_isiX {fx : Fx} {G : List Sl} {C a dd : Addr} {f : Str} {oe : Obj} {pn : List (Addr × Obj)} {d : D} {n t : Str} {T : String} {b : Bool} {p p1 p2 pos : Pos} (E : ExcC X.K C) (hz : Zc (.ref C) (some dd) oe) (hf : ∃ vs, oe.data = .fields vs) (i : Nat) (hk : PySem.W.kitOne X.K (.ref C) (.type T) = some b)
    (hg : Gl X "isinstance") (hm : X.mg "isinstance" = none) (hg2 : Gl X t) (hm2 : X.mg t = none) (hv2 : bootBuiltins t = some (.type T)) (hG : G[i]? = some (.im (.xc a dd f d)) := by rfl)
    (hN : X.N[i]? = some n := by rfl) (hv : Vis X.env.scope n := by first | exact Or.inl rfl | exact Or.inr (Or.inl rfl) | exact Or.inr (Or.inr rfl)) (hd : (n == ("__debug__" : Str)) = false := by decide) (hcd : (n == ("__classdict__" : Str)) = false := by decide)
    (hn : t ≠ "__name__" := by decide) (hdb : (t == ("__debug__" : Str)) = false := by decide)
    (hs : starEach [.Name n p1, .Name t p2] X.env = (false, eval (.Name n p1) X.env) :: starEach [.Name t p2] X.env := by rfl) (hs2 : starEach [.Name t p2] X.env = (false, eval (.Name t p2) X.env) :: starEach [] X.env := by rfl) (hpl : (backTo pos (starEach [.Name t p2] X.env)).any (·.1) = false := by rfl) :
    PE (X.suite a ((a, oe) :: pn)) (.Call (.Name "isinstance" p) [.Name n p1, .Name t p2] [] pos) (tE (X.suite a ((a, oe) :: pn)).K (X.suite a ((a, oe) :: pn)).mg fx G (pure (.bl b) : m D)) :=
  peI (pe_callB (X := X.suite a ((a, oe) :: pn)) (call_isX (f := f) E hz hf) hg hm rfl (pa_cons (pe_var (X := X.suite a ((a, oe) :: pn)) hN hv hd hcd) (pa_cons (pe_bltn (X := X.suite a ((a, oe) :: pn)) (v := .ty T) hg2 hm2 hv2 rfl hn hdb) pa_nil hs2) hs) (by decide) (by decide) hs hpl) fun σ H Q ⟨Hf, s, h⟩ => by
    obtain ⟨v, ev, e, u, hu, iu⟩ := h.1.sl i _ hG
    subst e
    exact ⟨.ref a, ev, .ty T, u, _, b, rfl, .ty T, h.1.top _ _ hu, hk, h.pure (is_bl _)⟩
end
end DL
/-! ### calls by their shape; classes: objects as data -/
namespace DL
open PySem PySem.Spec PyProof.Rows L2
theorem guards_make {A : Around} {C : Addr} {us : List Value} {kw : List (Str × Value)} (h : A.guards = some []) : (A.under (.builtin "type.__call__" ⟨.ref C :: us, kw⟩)).guards = some [] := by
  first | exact h | simp [Around.under, Code.weight, Code.isCreation, Code.isGuard, Code.isCaller, Code.frames, Code.isFrame, guardIds, h]
/-- a promise by a call's shape: values by position, then those by the names ks -/
def FnP (P : Program) (w : World) (K : PySem.W.Frag) (mg : Str → Option Value) (base : Heap) (k : Nat) (f : Addr) (ks : List Str) (sp : Sp) : Prop :=
  ∀ (A : Around) (outer : List Env) (s : Shared) (H : Hp) (us ws : List Value) (vs : List V) (Q : VK) (E : XK), A.guards = some [] → Room k A → Env0 P w K mg base A outer s H → ws.length = ks.length → Vals vs (us ++ ws) → sp vs H Q E →
    codeAny (model P w) A (.call (.ref f) ⟨us, ks.zip ws⟩) (CR (CXm P w mg) outer P w H s Q E) s
section
variable {P : Program} {w : World} {K : PySem.W.Frag} {mg : Str → Option Value} {base : Heap} {j k : Nat} {f : Addr} {fd : FuncData} {ps ks : List Str} {sp sp' : Sp}
theorem FnP.mono (F : FnP P w K mg base j f ks sp) (h : j ≤ k) : FnP P w K mg base k f ks sp := fun A outer s H us ws vs Q E hg hr => F A outer s H us ws vs Q E hg (hr.mono h)
theorem FnP.imp (F : FnP P w K mg base k f ks sp) (h : ∀ vs H Q E, sp' vs H Q E → sp vs H Q E) : FnP P w K mg base k f ks sp' := fun A outer s H us ws vs Q E hg hr e0 hw r hs => F A outer s H us ws vs Q E hg hr e0 hw r (h _ _ _ _ hs)
/-- by position -/
theorem FnG.pos (F : FnG P w K mg base k f fd ps sp) (hb : Binds K fd ps []) : FnP P w K mg base k f [] sp := fun A outer s H us ws vs Q E hg hr e0 hw r hs => by
  have e : ws = [] := List.length_eq_zero_iff.mp hw
  subst e
  rw [List.append_nil] at r
  have hl : (us ++ []).length = ps.length := by
    rw [List.append_nil, ← r.length]
    exact F.len _ _ _ _ hs
  have b := hb s us (e0.mod.kin.keeps fun b o e => (e0.bs b o e).1) hl
  rw [List.append_nil] at b
  exact F.run A outer s H ⟨us, []⟩ us vs Q E hg hr e0 b r hs
end
section
variable {X : Cx} {k : Nat} {f C : Addr} {ks : List Str} {sp : Sp} {E : L2.St → XK} {x m : Str} {p pos apos : Pos} {e o : Expr} {es : List Expr} {kws : List Keyword} {ta : TE} {t tk : TA}
theorem run_P {pins : List (Addr × Obj)} {σ : L2.St} {H : Hp} {s : Shared} {Q : VK} {us ws : List Value} {vs : List V} (F : FnP X.prog X.w X.K X.mg X.base k f ks sp) (hg : X.A.guards = some []) (hr : Room k X.A)
    (hx : PassesAt (CXm X.prog X.w X.mg) X σ (E σ)) (I : L2.Inv X pins σ H s) (hw : ws.length = ks.length) (r : Vals vs (us ++ ws)) (h : sp vs H Q (E σ)) : wpAny (model X.prog X.w) X.A (call (.ref f) us (ks.zip ws)) (EP X pins σ Q) X.xe s :=
  wpAny_call (codeAny_mono (F X.A X.stack s H us ws vs Q (E σ) hg hr I.env0 hw r h) fun r s' hq => by
    have z := ends_call I hx hq
    cases r with
    | error e => exact z
    | ok fl => cases fl <;> first | exact z | exact z.elim)
/-- a class is called -/
theorem run_makeP {pins : List (Addr × Obj)} {σ : L2.St} {H : Hp} {s : Shared} {Q : VK} {us ws : List Value} {vs : List V} (M : Mk X.K C f) (F : FnP X.prog X.w X.K X.mg X.base k f ks sp) (hg : X.A.guards = some []) (hr : Room (k + 1) X.A)
    (hx : PassesAt (CXm X.prog X.w X.mg) X σ (E σ)) (I : L2.Inv X pins σ H s) (hw : ws.length = ks.length) (r : Vals vs (us ++ ws))
    (h : ∀ x dx, H x = none → H dx = none → dx ≠ x → sp (.ref x :: vs) (upd (upd H dx (.own x)) x (.ins C dx [])) (fun v H2 => v = .non ∧ Q (.ref x) H2) (E σ)) :
    wpAny (model X.prog X.w) X.A (call (.ref C) us (ks.zip ws)) (EP X pins σ Q) X.xe s := by
  have hq := h (s.heap.objs.size + 1) s.heap.objs.size (I.hok.fresh (Nat.le_succ _)) (I.hok.fresh (Nat.le_refl _)) (Nat.ne_of_lt (Nat.lt_succ_self _))
  have I2 := L2.Inv.made (C := C) I
  have r2 : Vals (V.ref (s.heap.objs.size + 1) :: vs) ((Value.ref (s.heap.objs.size + 1) :: us) ++ ws) := .cons rfl r
  refine wpAny_call (make_map (f := f) I.kIn M.makes M.init (beq_iff_eq.mp M.fn) (codeAny_mono (F _ X.stack _ _ (Value.ref (s.heap.objs.size + 1) :: us) ws _ _ (E σ) (guards_make hg) (hr.make C us (ks.zip ws))
    (I2.env0.make C us (ks.zip ws)) hw r2 hq) fun r s' hq' => ?_))
  cases r with
  | error e => exact hx pins _ _ e s' I2 hq'
  | ok fl =>
    cases fl with
    | ret u =>
      obtain ⟨v, H', I3, rv, ev, q3⟩ := I2.after hq'
      subst ev
      exact ⟨rv, ⟨V.ref (s.heap.objs.size + 1), H', I3, rfl, q3⟩⟩
    | next => exact False.elim hq'
    | brk => exact False.elim hq'
    | cont => exact False.elim hq'
end
theorem evalArgs_kw0 {M : Model} {A : Around} {E : Value → Shared → Prop} {s : Shared} {f : Value} {keywords : List (Option Str × Sem Value)} {Q : Args → Shared → Prop}
    (hall : keywords.all (·.1.isSome) = true)
    (h : wpAny M A (spliced []) (fun vs s₁ => wpAny M A (evalAll (keywords.map (·.2))) (fun ks s₂ => Q ⟨vs, (keywords.filterMap (·.1)).zip ks⟩ s₂) E s₁) E s) :
    wpAny M A (evalArgs f true [] keywords) Q E s := by
  unfold evalArgs
  show wpAny M A (spliced [] >>= _) Q E s
  refine wpAny_bind (wpAny_mono h (fun vs s₁ h₁ => ?_) fun _ _ x => x)
  refine wpAny_bind (wpAny_pure ?_)
  refine wpAny_holding ?_
  simp only [hall, if_true]
  refine wpAny_bind (wpAny_mono h₁ (fun ks s₂ h₂ => ?_) fun _ _ x => x)
  exact wpAny_bind (wpAny_pure (wpAny_pure h₂))
def ArgHd (env : Env) : List Expr → Prop
  | [] => True
  | e :: es => starEach (e :: es) env = (false, eval e env) :: starEach es env
/-- the arguments of a call, by position and by name -/
theorem args_run {X : Cx} {es : List Expr} {kws : List Keyword} {ks : List Str} {t tk : TA} {pos : Pos} {f : Value} {first : List Value} {pins : List (Addr × Obj)} {s : Shared} {σ : L2.St} {H : Hp} {Q : VK}
    (hkp : PySem.W.keepIn X.K f = true) (ha : PA X es t) (hk : PK X kws tk) (I : L2.Inv X pins σ H s)
    (h : t σ H fun vs H1 => tk σ H1 fun zs H2 => zs.length = ks.length ∧ ∀ s2 us ws, L2.Inv X pins σ H2 s2 → ws.length = ks.length → Vals (vs ++ zs) (us ++ ws) → wpAny (model X.prog X.w) X.A (call f (first ++ us) (ks.zip ws)) (EP X pins σ Q) X.xe s2)
    (he : ArgHd X.env es := by first | exact True.intro | exact rfl)
    (hks : (backToKw pos (keywordEach kws X.env)).filterMap (·.1) = ks := by rfl)
    (hall : (backToKw pos (keywordEach kws X.env)).all (·.1.isSome) = true := by rfl)
    (hpl : ((backTo pos (starEach es X.env)).any (·.1) || (backToKw pos (keywordEach kws X.env)).any (·.1.isNone)) = false := by rfl) :
    wpAny (model X.prog X.w) X.A (callWith pos f first (backTo pos (starEach es X.env)) (backToKw pos (keywordEach kws X.env))) (EP X pins σ Q) X.xe s := by
  have fin : ∀ {us : List Value} {vs : List V} {H1 : Hp} {s1 : Shared}, L2.Inv X pins σ H1 s1 → Vals vs us → (tk σ H1 fun zs H2 => zs.length = ks.length ∧ ∀ s2 us ws, L2.Inv X pins σ H2 s2 → ws.length = ks.length → Vals (vs ++ zs) (us ++ ws) → wpAny (model X.prog X.w) X.A (call f (first ++ us) (ks.zip ws)) (EP X pins σ Q) X.xe s2) →
      wpAny (model X.prog X.w) X.A (evalAll ((backToKw pos (keywordEach kws X.env)).map (·.2))) (fun ws s₂ => X.K.In s₂.heap ∧ wpAny (model X.prog X.w) X.A (call f (first ++ us) (((backToKw pos (keywordEach kws X.env)).filterMap (·.1)).zip ws)) (EP X pins σ Q) X.xe s₂) X.xe s1 := by
    intro us vs H1 s1 I1 r q
    refine thn (hk.run pos pins s1 σ H1 _ I1 q) fun ws s2 ⟨zs, H2, I2, rz, hz, q2⟩ => ⟨I2.kIn, ?_⟩
    rw [hks]
    exact q2 s2 us ws I2 (rz.length.symm.trans hz) (r.append rz)
  cases es with
  | nil => exact PySem.W.callWith_of hpl (PySem.W.keeps_K hkp) (evalArgs_kw0 hall (thn (ha.run pos pins s σ H _ I h) fun us s1 ⟨vs, H1, I1, r, q⟩ => fin I1 r q))
  | cons e es => exact PySem.W.callWith_of hpl (PySem.W.keeps_K hkp) (evalArgs_kw2 hall (thn (ha.run pos pins s σ H _ I h) fun us s1 ⟨vs, H1, I1, r, q⟩ => fin I1 r q) he)
/-! ### the making of an object -/
def runI : R (Fl (List D) Empty) → R (List D)
  | .ok (.nx es) => .ok es
  | .ok (.rt _) => .stuck
  | .ok (.bk b) => b.elim
  | .ok (.ct b) => b.elim
  | .ex e => .ex e
  | .stuck => .stuck
def spI (K : PySem.W.Frag) (mg : Str → Option Value) (ns : List Str) (L : Nat → Prop) (g : List D → R (List D)) : Sp := fun vs H Q E => L vs.length ∧ ∃ x C dx rest Hf ds, vs = .ref x :: rest ∧ Sub Hf H ∧ Hf x = none ∧ H x = some (.ins C dx []) ∧ Cls K C ∧ (∀ f ∈ ns, NoAttr K C f) ∧ IsL K mg Hf ds rest ∧ (match g ds with
  | .ok es => ∀ us Hf' H', Ste [x] Hf H Hf' H' → H' x = some (.ins C dx (ns.zip us)) → ns.length = us.length → IsL K mg Hf' es us → Hf' x = none → Q .non H'
  | .ex e => ∀ cls dd Hf' H', Ste [x] Hf H Hf' H' → ExIs K mg Hf' H' e cls dd → E cls dd H'
  | .stuck => False)
abbrev fxI (ns : List Str) (x : Addr) (H Hf : Hp) (E : XK) : Fx := ⟨[], H, Hf, fun cls d _ H' => E cls d H', none, false, [x], ns⟩
def GI (N : List Str) (ds : List D) : List Sl := .ob [] [] :: (ds.map Sl.im ++ List.replicate (N.length - ds.length - 1) .un)
def exI (N ns : List Str) (es : List D) : List Sl := .ob ns es :: (N.tail.map fun _ => .un)
section
variable {K : PySem.W.Frag} {mg : Str → Option Value}
theorem StS.initI {Hf H : Hp} {E : XK} {ds : List D} {vs : List V} {N : List Str} {s : S} {x C dx : Addr} (sb : Sub Hf H) (hf : Hf x = none) {ns : List Str} (hx : H x = some (.ins C dx [])) (c : Cls K C) (na : ∀ f ∈ ns, NoAttr K C f) (l : IsL K mg Hf ds vs) (hn : vs.length + 1 ≤ N.length) :
    StS K mg (fxI ns x H Hf E) Hf H (start N (.ref x :: vs)) (GI N ds) s := by
  refine ⟨.refl sb, trivial, fun b m => ?_, ?_, fun i y e => ?_, fun i j y z p ne ey ez oy oz e1 e2 => ?_⟩
  · have : b = x := by
      rcases List.mem_append.mp m with m | m
      · simpa using m
      · cases m
    subst this
    exact ⟨hf, by rw [hx]; simp, fun _ => by show H b ≠ none; rw [hx]; simp⟩
  · rw [start_len (by simpa using hn)]
    unfold GI
    have := l.len
    simp
    omega
  · cases i with
    | zero =>
      cases e
      exact ⟨x, C, dx, [], start_at rfl, hx, hf, ⟨by simp, [], hx⟩, by simp, ⟨c, na⟩, rfl, rfl⟩
    | succ i =>
      have e' : (ds.map Sl.im ++ List.replicate (N.length - ds.length - 1) .un)[i]? = some y := e
      have q := slOk_G0 (fx := fxI ns x H Hf E) (H := H) (N := N) l e'
      cases y with
      | un => trivial
      | im d =>
        obtain ⟨v, hv, hi⟩ := q
        refine ⟨v, ?_, hi⟩
        cases h : vs[i]? with
        | none => rw [h] at hv; cases hv
        | some w => rw [h] at hv; cases hv; exact start_at (by simpa using h)
      | ow ds => exact (isOw_im e' rfl).elim
      | od ks ds => exact (isOw_im e' rfl).elim
      | ob ns ds => exact (isOw_im e' rfl).elim
      | bg =>
        obtain ⟨b, r, e, _⟩ := q
        cases e
  · have z1 : i = 0 := by
      cases i with
      | zero => rfl
      | succ i => exact (isOw_im (n := N.length - ds.length - 1) (ds := ds) (i := i) ey oy).elim
    have z2 : j = 0 := by
      cases j with
      | zero => rfl
      | succ j => exact (isOw_im (n := N.length - ds.length - 1) (ds := ds) (i := j) ez oz).elim
    exact ne (z1.trans z2.symm)
end
theorem runI_read {K : PySem.W.Frag} {mg : Str → Option Value} {ns N : List Str} {o C dx : Addr} {H Hf : Hp} {E : XK} {Q : VK} {body : R (Fl (List D) Empty)} {s : S} (hx : H o = some (.ins C dx []))
    (q : match runI body with
      | .ok es => ∀ us Hf' H', Ste [o] Hf H Hf' H' → H' o = some (.ins C dx (ns.zip us)) → ns.length = us.length → IsL K mg Hf' es us → Hf' o = none → Q .non H'
      | .ex e => ∀ cls dd Hf' H', Ste [o] Hf H Hf' H' → ExIs K mg Hf' H' e cls dd → E cls dd H'
      | .stuck => False) :
    Mo.wp body s (FP K mg (fxI ns o H Hf E) Hf (exI N ns) Empty.elim { nx := fun _ H' => Q .non H', rt := Q }) (EXS K mg (fxI ns o H Hf E)) := by
  show R.wp body _ _ _
  cases body with
  | ok f =>
    cases f with
    | nx es =>
      refine fun Hf' H' σ' _ st => ?_
      obtain ⟨p, C', dx', us, ep, hp', hf', ⟨hm, f0, h00⟩, _, _, hl2, l2⟩ := st.sl 0 _ rfl
      have e1 : p = o := by simpa using hm
      subst e1
      have e2 : C' = C ∧ dx' = dx := by
        have z : H p = some (.ins C' dx' f0) := h00
        rw [hx] at z
        cases z
        exact ⟨rfl, rfl⟩
      obtain ⟨rfl, rfl⟩ := e2
      exact q us Hf' H' st.ste hp' hl2 l2 hf'
    | rt d => exact (show False from q).elim
    | bk b => exact b.elim
    | ct b => exact b.elim
  | ex e => exact fun cls dd σ' Hf' H' st x => q cls dd Hf' H' st.1 x
  | stuck => exact q
section
variable {X : Cx} {fx : Fx} {m : Type → Type} [Mo m] {G : List Sl} {α β : Type} {kk : Nat} {e : Expr} {rest : List Stmt} {ex : α → List Sl} {exb : β → List Sl} {pos pos' : Pos} {x : m D} {k : D → m (Fl α β)} {f n : Str} {np : Pos} {ns : List Str} {ds : List D}
theorem putF_new {f : Str} {y : V} : ∀ {ns : List Str} {vs : List V}, ns.length = vs.length → f ∉ ns → putF f y (ns.zip vs) = (ns ++ [f]).zip (vs ++ [y])
  | [], [], _, _ => rfl
  | g :: ns, v :: vs, hl, hn => by
    have h1 : g ≠ f := fun z => hn (by simp [z])
    show putF f y ((g, v) :: ns.zip vs) = (g, v) :: (ns ++ [f]).zip (vs ++ [y])
    unfold putF
    rw [if_neg h1, putF_new (by simpa using hl) fun z => hn (List.mem_cons_of_mem _ z)]
  | [], _ :: _, hl, _ => by simp at hl
  | _ :: _, [], hl, _ => by simp at hl
/-- self.f = e, in __init__ -/
theorem dss_fld (i : Nat) (he : PE X e (tE X.K X.mg fx G x)) (hr : ∀ d, PSs X rest (tS X.K X.mg fx (G.set i (.ob (ns ++ [f]) (ds ++ [d]))) ex exb (k d))) (hG : G[i]? = some (.ob ns ds) := by rfl) (hN : X.N[i]? = some n := by rfl) (hf : f ∉ ns := by decide +kernel) (hm : f ∈ fx.nas := by decide +kernel) (hz : ns.length < 1000 := by decide)
    (hv : Vis X.env.scope n := by first | exact Or.inl rfl | exact Or.inr (Or.inl rfl) | exact Or.inr (Or.inr rfl)) (hd : (n == ("__debug__" : Str)) = false := by decide) (hcd : (n == ("__classdict__" : Str)) = false := by decide)
    (hs : swapsWith e (some (.Attribute (.Name n np) f pos')) pos.line X.env = pure false := by rfl) (hg : GxOk fx G := by first | exact True.intro | repeat' (first | exact True.intro | exact Or.inl rfl | exact Or.inr rfl | refine And.intro ?_ ?_)) :
    PSs X (.Assign [.Attribute (.Name n np) f pos'] e pos :: rest) (tS X.K X.mg fx G ex exb (x >>= k)) := pssI (pss_cons (ps_fld (pe_var hN hv hd hcd) he hs) (pss_ex hr)) fun De σ H ⟨Hf, s, h⟩ =>
  ((h.bind hg).mono fun v H1 ⟨d, Hf1, s1, sb, r, h1⟩ => by
    obtain ⟨p, C, dx, vs, ep, hp, hf', h0, nb, ⟨c, na⟩, hl, l⟩ := h1.1.sl i _ hG
    refine ⟨.ref p, ep, p, C, dx, ns.zip vs, rfl, hp, c, na _ hm, ?_, d, Hf1, s1, ?_, h1.2⟩
    · rw [List.length_zip, ← hl, Nat.min_self]; exact hz
    · refine h1.1.updAt hG rfl ep rfl ⟨p, C, dx, vs ++ [v], rfl, ?_, hf', h0, nb, ⟨c, na⟩, by simp [hl], l.app (.cons r .nil)⟩
      rw [upd_same, putF_new hl hf]).to
theorem lookup_zip {f : Str} : ∀ {ns : List Str} {vs : List V} {j : Nat} {v : V}, ns.idxOf? f = some j → vs[j]? = some v → (ns.zip vs).lookup f = some v
  | [], _, _, _, e, _ => by cases e
  | g :: ns, [], _, _, _, e => by simp at e
  | g :: ns, v :: vs, j, w, e, e2 => by
    by_cases h : g = f
    · subst h
      have z : j = 0 := by simpa [List.idxOf?, List.findIdx?_cons] using e.symm
      subst z
      simp at e2
      subst e2
      simp
    · have h' : (f == g) = false := by simpa using Ne.symm h
      have h2 : (g == f) = false := by simpa using h
      cases j with
      | zero =>
        exfalso
        simp [List.idxOf?, List.findIdx?_cons, h2] at e
      | succ j =>
        have e' : ns.idxOf? f = some j := by
          simp [List.idxOf?, List.findIdx?_cons, h2] at e ⊢
          exact e
        have := lookup_zip e' (by simpa using e2)
        simpa [List.lookup, h'] using this
end
end DL
/-! ### objects: made, read, asked -/
namespace DL
open PySem PySem.Spec PyProof.Rows L2
/-- a class of the program -/
structure ClsN (K : PySem.W.Frag) (mg : Str → Option Value) (c : Str) (C : Addr) : Prop where
  mg : mg c = some (.ref C)
  cl : Cls K C
  ca : PySem.W.findIn K (.ref C) "__class__" = some (some (.builtin "object.__class__"))
  cn : PySem.W.specialIn K (.builtin "object.__class__") "__get__" = some (some (.builtin "getset_descriptor.__get__"))
  ct : PySem.W.takesIn K (.builtin "object.__class__") = some true
  cm : PySem.W.mroIn K C (.type "object") = some true
section
variable {X : Cx} {fx : Fx} {m : Type → Type} [Mo m] {G : List Sl} {es : List Expr} {kws : List Keyword} {ks : List Str} {pos p : Pos} {ys zz : m (List D)} {kk j n : Nat} {c : Str} {C fI : Addr} {ns : List Str} {g : List D → R (List D)}
/-- an object is made: what __init__ is asked -/
theorem make_core {vs : List V} {ds : List D} {Hf : Hp} {s : S} {σ : L2.St} {H : Hp} {Q : VK} {x dx : Addr} (cn : ClsN X.K X.mg c C) (na : ∀ f ∈ ns, NoAttr X.K C f) {L : Nat → Prop} (hn : L (ds.length + 1)) (r : IsL X.K X.mg Hf ds vs) (h : tX X.K X.mg fx G (fun H d v => Is X.K X.mg H d v) (Mo.lift (g ds) >>= fun es => pure (.ins c ns es) : m D) Hf s σ H Q) (hx : H x = none) (hdx : H dx = none) (hne : dx ≠ x) :
    spI X.K X.mg ns L g (.ref x :: vs) (upd (upd H dx (.own x)) x (.ins C dx [])) (fun v H2 => v = .non ∧ Q (.ref x) H2) (WE fx.W σ) := by
  have w := Mo.wp_lift (Mo.wp_bind h.2)
  have hl := r.len
  have e2 : ∀ a o, H a = some o → upd (upd H dx (.own x)) x (.ins C dx []) a = some o := fun a o q => by rw [upd_ne (ne_of_none q hx), upd_ne (ne_of_none q hdx)]; exact q
  have hfx : Hf x = none := h.1.top.none hx
  have up : ∀ {Hf' H' : Hp}, Ste [x] Hf (upd (upd H dx (.own x)) x (.ins C dx [])) Hf' H' → Ste [] Hf H Hf' H' := fun {Hf' H'} st => ⟨st.sub, st.top, fun a o q _ => st.keep a o (e2 a o q) (by simpa using ne_of_none q hx), fun a q => st.dom a (by
    cases z : H a with
    | none => exact absurd z q
    | some o => rw [e2 a o z]; simp), fun a o q => by
    rcases st.fresh a o q with z | z
    · exact .inl z
    · refine .inr ?_
      cases y : H a with
      | none => rfl
      | some u => rw [e2 a u y] at z; cases z⟩
  refine ⟨by rw [List.length_cons, ← hl]; exact hn, x, C, dx, vs, Hf, ds, rfl, fun a o q => e2 a o (h.1.top a o q), hfx, upd_same, cn.cl, na, r, ?_⟩
  cases z : g ds with
  | ok es =>
    rw [z] at w
    intro us Hf' H' st hp hnl l hf'
    refine ⟨rfl, ?_⟩
    have w' := Mo.wp_pure w
    have st0 := up st
    have sb : Sub Hf' (upd Hf' x (.ins C dx (ns.zip us))) := fun a o q => by
      have ne : a ≠ x := fun z => by rw [z, hf'] at q; cases q
      rw [upd_ne ne]; exact q
    have st1 : Ste [] Hf H (upd Hf' x (.ins C dx (ns.zip us))) H' := ⟨st0.sub.trans sb, fun a o q => by
        by_cases c : a = x
        · subst c; rw [upd_same] at q; cases q; exact hp
        · rw [upd_ne c] at q; exact st0.top a o q, st0.keep, st0.dom, fun a o q => by
        by_cases c : a = x
        · subst c; exact .inr hx
        · rw [upd_ne c] at q; exact st0.fresh a o q⟩
    exact w' (.ref x) _ H' st1.wide (st1.bag h.1.bag) ⟨x, C, dx, us, rfl, cn.mg, upd_same, hnl, l.mono sb⟩
  | ex e =>
    rw [z] at w
    exact fun cls dd Hf' H' st xi => w cls dd Hf' H' (h.1.step (up st).wide ((up st).bag h.1.bag)) xi
  | stuck => rw [z] at w; exact w
/-- C(e, ..) -/
theorem de_make {L : Nat → Prop} (Ck : Cok X fx kk) (cn : ClsN X.K X.mg c C) (na : ∀ f ∈ ns, NoAttr X.K C f) (M : Mk X.K C fI) (F : FnP X.prog X.w X.K X.mg X.base j fI [] (spI X.K X.mg ns L g)) (ha : PA X es (tA X.K X.mg fx G ys)) (hn : ∀ ds : List D, g ds ≠ .stuck → L (ds.length + 1))
    (hj : j + 1 ≤ kk := by decide) (hg : Gl X c := by rfl) (hdb : (c == ("__debug__" : Str)) = false := by decide)
    (he : ArgHd X.env es := by first | exact True.intro | exact rfl)
    (hpl : ((backTo pos (starEach es X.env)).any (·.1) || (backToKw pos (keywordEach [] X.env)).any (·.1.isNone)) = false := by rfl) :
    PE X (.Call (.Name c p) es [] pos) (tE X.K X.mg fx G (do let ds ← ys; let es ← Mo.lift (g ds); pure (.ins c ns es))) := by
  refine ⟨fun pins s σ H Q I ⟨Hf, s0, h⟩ => ?_⟩
  refine wpAny_Call_Name_kw (ld_glob I hg cn.mg ?_ hdb)
  refine args_run (ks := []) (tk := tNil) M.kp ha pk_nil I ?_ he rfl rfl hpl
  refine (h.bind.mono fun vs H1 ⟨ds, Hf1, s1, sb, r, h1⟩ => ?_).to
  refine ⟨rfl, fun s2 us ws I2 hw rv => ?_⟩
  rw [List.append_nil] at rv
  have hlen : L (ds.length + 1) := hn ds fun z => by
    have w := Mo.wp_lift (Mo.wp_bind h1.2)
    rw [z] at w
    exact w
  exact run_makeP (E := WE fx.W) M F Ck.gd (Ck.rm.mono hj) (passAt Ck.tk σ) I2 hw rv fun x dx hx hdx hne => make_core cn na hlen r h1 hx hdx hne
end
/-! ### attributes, methods, properties -/
def fldD (cs : List Str) (f : Str) : D → Option D
  | .ins c ns ds => if c ∈ cs then (ns.idxOf? f).bind (ds[·]?) else none
  | _ => none
def FldOk (K : PySem.W.Frag) (mg : Str → Option Value) (f : Str) (cs : List Str) : Prop := ∀ c ∈ cs, ∃ C, mg c = some (.ref C) ∧ Cls K C ∧ NoAttr K C f
def insOk (cs : List Str) (m : Str) : D → Option Unit
  | .ins c ns _ => if c ∈ cs ∧ m ∉ ns then some () else none
  | _ => none
def dispM {α : Type} (L : List (Str × (List D → R α))) : D → List D → R α
  | .ins c ns vs, ds => match L.lookup c with
    | some g => g (.ins c ns vs :: ds)
    | none => .stuck
  | _, _ => .stuck
def MethG (P : Program) (w : World) (K : PySem.W.Frag) (mg : Str → Option Value) (base : Heap) (k : Nat) (m : Str) (ks : List Str) (c : Str) (g : List D → R D) : Prop :=
  ∃ C f n, mg c = some (.ref C) ∧ Cls K C ∧ Meth K C m f ∧ FnP P w K mg base k f ks (spR K mg false n g) ∧ ∀ ds, g ds ≠ .stuck → ds.length = n
theorem lookup_mem {α : Type} {c : Str} {g : α} : ∀ {L : List (Str × α)}, L.lookup c = some g → (c, g) ∈ L
  | [], h => by cases h
  | (d, a) :: L, h => by
    by_cases q : c = d
    · subst q
      simp [List.lookup] at h
      subst h
      exact .head _
    · have q' : (c == d) = false := by simpa using q
      simp [List.lookup, q'] at h
      exact .tail _ (lookup_mem h)
theorem lookup_none {f : Str} : ∀ {ns : List Str} {vs : List V}, f ∉ ns → (ns.zip vs).lookup f = none
  | [], _, _ => rfl
  | g :: ns, [], _ => rfl
  | g :: ns, v :: vs, h => by
    have q : (f == g) = false := by
      have : f ≠ g := fun z => h (by simp [z])
      simpa using this
    simp only [List.zip_cons_cons, List.lookup, q]
    exact lookup_none fun z => h (List.mem_cons_of_mem _ z)
section
variable {X : Cx} {fx : Fx} {m : Type → Type} [Mo m] {G : List Sl} {o : Expr} {es : List Expr} {pos p apos : Pos} {x : m D} {ys : m (List D)} {kk j : Nat} {f mn : Str} {cs : List Str}
theorem de_fld (cs : List Str) (ho : PE X o (tE X.K X.mg fx G x)) (hf : FldOk X.K X.mg f cs) (hb : attributeBase o f X.env (eval o X.env) = eval o X.env := by rfl) : PE X (.Attribute o f pos) (tE X.K X.mg fx G (do let u ← x; DL.ask (fldD cs f u))) :=
  peI (pe_fld ho hb) fun σ H Q ⟨Hf, s, h⟩ => (h.bind.mono fun v1 H1 ⟨d1, Hf1, s1, sb1, r1, h1⟩ => by
    obtain ⟨d, e, q⟩ := h1.ask
    cases d1 with
    | ins c ns ds =>
      have e' : (if c ∈ cs then (ns.idxOf? f).bind (ds[·]?) else none) = some d := e
      by_cases hc : c ∈ cs
      · rw [if_pos hc] at e'
        obtain ⟨C, mC, cl, na⟩ := hf c hc
        obtain ⟨a, C', dx, vs, ea, mC', ha, hl, l⟩ := r1
        rw [mC] at mC'
        cases mC'
        cases e1 : ns.idxOf? f with
        | none => rw [e1] at e'; cases e'
        | some i =>
          rw [e1] at e'
          obtain ⟨v, ev, iv⟩ := l.get (show ds[i]? = some d from e')
          exact ⟨a, C, dx, _, v, ea, h1.1.top _ _ ha, cl, na, lookup_zip e1 ev, q v Hf1 H1 (.refl h1.1.top) iv⟩
      · rw [if_neg hc] at e'; cases e'
    | _ => cases e).to
theorem de_meth {pl : Sem Bool} {L : List (Str × (List D → R D))} (Ck : Cok X fx kk) (ho : PE X o (tE X.K X.mg fx G x)) (hL : ∀ q ∈ L, MethG X.prog X.w X.K X.mg X.base j mn [] q.1 q.2) (ha : PA X es (tA X.K X.mg fx G ys)) (hj : j ≤ kk := by decide)
    (he : ArgHd X.env es := by first | exact True.intro | exact rfl) (hpl : ((backTo pos (starEach es X.env)).any (·.1) || (backToKw pos (keywordEach [] X.env)).any (·.1.isNone)) = false := by rfl)
    (ht : eval (.Call (.Attribute o mn apos) es [] pos) X.env = (do
      let ov ← eval o X.env
      standAt apos.atName
      let (f, first) ← holding [ov] (getMethod ov mn pl)
      callWith pos f first (backTo pos (starEach es X.env)) (backToKw pos (keywordEach [] X.env))) := by rfl) :
    PE X (.Call (.Attribute o mn apos) es [] pos) (tE X.K X.mg fx G (do let u ← x; DL.ask (insOk (L.map Prod.fst) mn u); let ds ← ys; Mo.lift (dispM L u ds))) := by
  refine ⟨fun pins s σ H Q I ⟨Hf, s0, h⟩ => ?_⟩
  refine PySem.W.methodCall_KW (pl := pl) (thn (ho.run pins s σ H _ I (h.bind.to)) fun u s1 ⟨v, H1, I1, rx, d1, Hf1, s1', sb1, r1, h1⟩ => ?_) ht
  have w1 := Mo.wp_lift (Mo.wp_bind h1.2)
  cases d1 with
  | ins c ns vs =>
    by_cases hc : c ∈ L.map Prod.fst ∧ mn ∉ ns
    · have e1 : insOk (L.map Prod.fst) mn (.ins c ns vs) = some () := if_pos hc
      rw [e1] at w1
      obtain ⟨q0, hq0, eq0⟩ := List.mem_map.mp hc.1
      have hlk : ∃ g, L.lookup c = some g := by
        cases z : L.lookup c with
        | some g => exact ⟨g, rfl⟩
        | none =>
          exfalso
          rw [List.lookup_eq_none_iff] at z
          have := z q0 hq0
          simp [eq0] at this
      obtain ⟨g, hg⟩ := hlk
      obtain ⟨C, f, n, mC, cl, mt, F, hn⟩ := hL _ (lookup_mem hg)
      have r1' := r1
      obtain ⟨a, C', dx, us, ea, mC', hH, hl, l⟩ := r1
      rw [mC] at mC'
      cases mC'
      subst ea
      cases (show u = Value.ref a from rx)
      refine getmeth_ok I1 (h1.1.top _ _ hH) cl mt (lookup_none hc.2) ?_
      have h2 : tX X.K X.mg fx G (fun H d v => Is X.K X.mg H d v) (ys >>= fun ds => Mo.lift (dispM L (.ins c ns vs) ds) : m D) Hf1 s1' σ H1 Q := ⟨h1.1, w1⟩
      refine args_run (ks := []) (tk := tNil) (first := [.ref a]) mt.kp ha pk_nil I1 ?_ he rfl rfl hpl
      refine (h2.bind.mono fun ws H2 ⟨ds, Hf2, s2, sb2, r2, h3⟩ => ?_).to
      refine ⟨rfl, fun s2' us' ws' I2 hw rv => ?_⟩
      rw [List.append_nil] at rv
      have e3 : dispM L (.ins c ns vs) ds = g (.ins c ns vs :: ds) := by
        simp only [dispM, hg]
      rw [e3] at h3
      have hlen : (D.ins c ns vs :: ds).length = n := hn _ fun z => by
        have w := Mo.wp_lift h3.2
        have z' : g (D.ins c ns vs :: ds) = .stuck := z
        rw [z'] at w
        exact w
      have rr : IsL X.K X.mg Hf2 (D.ins c ns vs :: ds) (.ref a :: ws) := .cons (r1'.mono sb2) r2
      have hws : ws' = [] := List.length_eq_zero_iff.mp hw
      subst hws
      rw [List.append_nil] at rv
      exact run_P (E := WE fx.W) F Ck.gd (Ck.rm.mono hj) (passAt Ck.tk σ) I2 rfl (by rw [List.append_nil]; exact .cons rfl rv) (fn_core (by rw [← rr.len]; exact hlen) rr h3)
    · have e1 : insOk (L.map Prod.fst) mn (.ins c ns vs) = none := if_neg hc
      rw [e1] at w1
      exact w1.elim
  | _ => exact w1.elim
end
end DL
/-! ### properties, isinstance, calls by names -/
namespace DL
open PySem PySem.Spec PyProof.Rows L2
/-! isinstance -/
/-- what isinstance says of a class tv: of the program's classes, of the built-in ones -/
structure IsT (K : PySem.W.Frag) (mg : Str → Option Value) (tv : Value) (L : List (Str × Bool)) (B : List (String × Bool)) : Prop where
  own : ∀ q ∈ L, ∃ C, ClsN K mg q.1 C ∧ PySem.W.kitOne K (.ref C) tv = some q.2
  bl : ∀ q ∈ B, PySem.W.kitOne K (.type q.1) tv = some q.2
def isiT (L : List (Str × Bool)) (B : List (String × Bool)) : D → Option D
  | .ins c _ _ => (L.lookup c).map .bl
  | d => match tyD d with
    | some a => (B.lookup a).map .bl
    | none => none
theorem lookup_mem' {α β : Type} [BEq α] [LawfulBEq α] {c : α} {g : β} : ∀ {L : List (α × β)}, L.lookup c = some g → (c, g) ∈ L
  | [], h => by cases h
  | (d, a) :: L, h => by
    by_cases q : c = d
    · subst q
      simp [List.lookup] at h
      subst h
      exact .head _
    · have q' : (c == d) = false := by simpa using q
      simp [List.lookup, q'] at h
      exact .tail _ (lookup_mem' h)
section
variable {X : Cx} {fx : Fx} {m : Type → Type} [Mo m] {G : List Sl} {e e2 : Expr} {pos p : Pos} {x : m D}
theorem isi_call {pins : List (Addr × Obj)} {σ : L2.St} {H Hf : Hp} {s : Shared} {Q : VK} {d r : D} {v : V} {u tv : Value} {L : List (Str × Bool)} {B : List (String × Bool)} (T : IsT X.K X.mg tv L B) (I : L2.Inv X pins σ H s) (sb : Sub Hf H) (i : Is X.K X.mg Hf d v) (ru : L2.RelV v u) (hr : isiT L B d = some r)
    (q : ∀ w Hf' H', Ste [] Hf H Hf' H' → Is X.K X.mg Hf' r w → Q w H') : wpAny (model X.prog X.w) X.A (call (.builtin "isinstance") [u, tv]) (EP X pins σ Q) X.xe s := by
  have other : ∀ {a : String} {b : Bool}, tyD d = some a → B.lookup a = some b → r = .bl b → wpAny (model X.prog X.w) X.A (call (.builtin "isinstance") [u, tv]) (EP X pins σ Q) X.xe s := by
    intro a b e1 e2 e3
    subst e3
    obtain ⟨P, Z, p, hx⟩ := kit_of I ru (tyD_is sb i e1)
    exact PySem.W.kia_one Z I.kIn p (T.bl _ (lookup_mem' e2)) hx fun tk => ⟨.bl b, H, I.tok tk, rfl, q _ Hf H (.refl sb) (is_bl _)⟩
  cases d with
  | ins c ns ds =>
    have e' : (L.lookup c).map D.bl = some r := hr
    cases hb : L.lookup c with
    | none => rw [hb] at e'; cases e'
    | some b =>
      rw [hb] at e'
      cases e'
      obtain ⟨C, cn, hk⟩ := T.own _ (lookup_mem hb)
      obtain ⟨a, C', dx, us, ea, mC', hH, hl, l⟩ := i
      subst ea
      cases (show u = Value.ref a from ru)
      have mC := cn.mg
      rw [mC'] at mC
      cases mC
      obtain ⟨mA, O, _⟩ := ins_get I.hok (sb _ _ hH)
      obtain ⟨od, J, _⟩ := O.look
      have ic : PySem.W.isClsIn X.K C = true := by
        obtain ⟨cd, hc, _⟩ := PySem.W.any_some cn.cl.hd
        show (PySem.W.clsIn X.K C).isSome = true
        rw [hc]
        rfl
      exact PySem.W.kia_one (OwX.kitx_slt ic (cn.cl.get _) cn.ca cn.cn cn.ct cn.cm) I.kIn J hk (fun z => nomatch z) fun tk => ⟨.bl b, H, I.tok _, rfl, q _ Hf H (.refl sb) (is_bl _)⟩
  | _ =>
    simp only [isiT] at hr
    split at hr
    · rename_i a e1
      cases e2 : B.lookup a with
      | none => rw [e2] at hr; cases hr
      | some b => rw [e2] at hr; cases hr; exact other e1 e2 rfl
    · cases hr
/-- a class's name as a value -/
theorem pe_own {c : Str} {C : Addr} (h : X.mg c = some (.ref C)) (hg : Gl X c := by rfl) (hd : (c == ("__debug__" : Str)) = false := by decide) : PE X (.Name c p) (fun _ H Q => Q (.ref C) H) := pe_glob hg h (v := .ref C) rfl hd
def rIsT (X : Cx) (L : List (Str × Bool)) (B : List (String × Bool)) (c : V) : List V → Hp → VK → Prop := fun xs H Q => ∃ Hf d v r, xs = [v, c] ∧ Sub Hf H ∧ Is X.K X.mg Hf d v ∧ isiT L B d = some r ∧ ∀ w Hf' H', Ste [] Hf H Hf' H' → Is X.K X.mg Hf' r w → Q w H'
theorem call_isT {tv : Value} {c : V} {L : List (Str × Bool)} {B : List (String × Bool)} (k : ClsV c tv) (T : IsT X.K X.mg tv L B) : CallR X (.builtin "isinstance") (rIsT X L B c) := by
  intro pins s σ H xs us Q I r h
  obtain ⟨Hf, d, v, rr, rfl, sb, i, e, q⟩ := h
  obtain ⟨u1, u2, rfl, r1, r2⟩ := vals2 r
  have e2 := k.eq r2
  subst e2
  exact isi_call T I sb i r1 e q
theorem de_isT {tv : Value} {cv : V} {L : List (Str × Bool)} {B : List (String × Bool)} (k : ClsV cv tv) (T : IsT X.K X.mg tv L B) (he : PE X e (tE X.K X.mg fx G x)) (hc : PE X e2 (fun _ H Q => Q cv H)) (hg : Gl X "isinstance") (hm : X.mg "isinstance" = none)
    (hs : starEach [e, e2] X.env = (false, eval e X.env) :: starEach [e2] X.env := by rfl) (hs2 : starEach [e2] X.env = (false, eval e2 X.env) :: starEach [] X.env := by rfl) (hpl : (backTo pos (starEach [e2] X.env)).any (·.1) = false := by rfl) :
    PE X (.Call (.Name "isinstance" p) [e, e2] [] pos) (tE X.K X.mg fx G (do let d ← x; DL.ask (isiT L B d))) :=
  peI (pe_callB (call_isT k T) hg hm rfl (pa_cons he (pa_cons hc pa_nil hs2) hs) (by decide) (by decide) hs hpl) fun σ H Q ⟨Hf, s, h⟩ =>
  (h.bind.mono fun v1 H1 ⟨d1, Hf1, s1, sb1, r1, h1⟩ => by
    obtain ⟨d, e, q⟩ := h1.ask
    exact ⟨Hf1, d1, v1, d, rfl, h1.1.top, r1, e, q⟩).to
end
end DL
/-! ### == by an own __eq__ -/
namespace DL
open PySem PySem.Spec PyProof.Rows L2
/-! ### != by object's __ne__, in, len, str -/
end DL
/-! ### in, len, str of instances; str of ints; f-strings -/
namespace DL
open PySem PySem.Spec PyProof.Rows L2
end DL
/-! ### more statements: unpacking, three at once, augmented, while -/
namespace DL
open PySem PySem.Spec PyProof.Rows L2
section
variable {X : Cx} {fx : Fx} {m : Type → Type} [Mo m] {G : List Sl} {α β γ : Type} {kk : Nat} {e : Expr} {rest : List Stmt} {ex : α → List Sl} {exb : β → List Sl} {pos : Pos} {x : m D}
/-- a, b, .. = e -/
theorem dss_unp {tg : Expr} {g : TG} {u : D → Option γ} {st : List Sl → γ → List Sl} {is : List Nat} {k : γ → m (Fl α β)} (hg : PGd X fx tg g u st is) (he : PE X e (tE X.K X.mg fx G x)) (hr : ∀ c, PSs X rest (tS X.K X.mg fx (st G c) ex exb (k c)))
    (hs : swapsWithSole [tg] e pos.line X.env = pure false := by rfl) (hw : swappedStores [tg] e X.env = pure none := by rfl) (h1 : (assignEach [tg] X.env).map (·.2) = [assign tg X.env] := by rfl)
    (hgx : GxOk fx G := by first | exact True.intro | repeat' (first | exact True.intro | exact Or.inl rfl | exact Or.inr rfl | refine And.intro ?_ ?_)) :
    PSs X (.Assign [tg] e pos :: rest) (tS X.K X.mg fx G ex exb (do let d ← x; let c ← DL.ask (u d); k c)) := pssI (pss_cons (ps_asg he hg.1 hs hw h1) (pss_ex hr)) fun De σ H ⟨Hf, s, h⟩ =>
  ((h.bind hgx).mono fun v H1 ⟨d, Hf1, s1, sb, r, h1⟩ => by
    have w1 := Mo.wp_lift (Mo.wp_bind h1.2)
    cases hu : u d with
    | none => rw [hu] at w1; exact w1.elim
    | some c =>
      rw [hu] at w1
      exact hg.2 h1.1 r hu fun σ' _ _ st' => ⟨c, Hf1, s1, st', w1⟩).to
/-- a, b, c = x, y, z -/
theorem dss_par3 {a b c : Expr} {n1 n2 n3 : Str} {px py pz pt pt2 : Pos} {kt k2 : _} {x y z : m D} {k : D → D → D → m (Fl α β)} (C : Cok X fx kk) (i j l : Nat) (ha : PE X a (tE X.K X.mg fx G x)) (hb : PE X b (tE X.K X.mg fx G y)) (hc : PE X c (tE X.K X.mg fx G z)) (hr : ∀ d e f, PSs X rest (tS X.K X.mg fx (((G.set i (.im d)).set j (.im e)).set l (.im f)) ex exb (k d e f)))
    (hij : i ≠ j := by decide) (hil : i ≠ l := by decide) (hjl : j ≠ l := by decide) (hi : X.N[i]? = some n1 := by rfl) (hj : X.N[j]? = some n2 := by rfl) (hl : X.N[l]? = some n3 := by rfl) (hx : X.env.scope.names.lookup n1 = some .local := by rfl) (hy : X.env.scope.names.lookup n2 = some .local := by rfl) (hz : X.env.scope.names.lookup n3 = some .local := by rfl)
    (hw : swappedStores [.Tuple [.Name n1 px, .Name n2 py, .Name n3 pz] kt pt] (.Tuple [a, b, c] k2 pt2) X.env = pure (some [n1, n2, n3]) := by rfl)
    (hs : swapsWithSole [.Tuple [.Name n1 px, .Name n2 py, .Name n3 pz] kt pt] (.Tuple [a, b, c] k2 pt2) pos.line X.env = pure false := by rfl)
    (hsa : starEach [a, b, c] X.env = (false, eval a X.env) :: starEach [b, c] X.env := by rfl) (hsb : starEach [b, c] X.env = (false, eval b X.env) :: starEach [c] X.env := by rfl) (hsc : starEach [c] X.env = (false, eval c X.env) :: starEach [] X.env := by rfl) (hg : GxOk fx G := by first | exact True.intro | repeat' (first | exact True.intro | exact Or.inl rfl | exact Or.inr rfl | refine And.intro ?_ ?_)) :
    PSs X (.Assign [.Tuple [.Name n1 px, .Name n2 py, .Name n3 pz] kt pt] (.Tuple [a, b, c] k2 pt2) pos :: rest) (tS X.K X.mg fx G ex exb (do let d ← x; let e ← y; let f ← z; k d e f)) :=
  pssI (pss_cons (ps_par3 C.calm C.nd hi hj hl hij hil hjl hx hy hz (pa_cons ha (pa_cons hb (pa_cons hc pa_nil hsc) hsb) hsa) hw hs) (pss_ex (ι := D × D × D) fun r => hr r.1 r.2.1 r.2.2)) fun De σ H ⟨Hf, s, h⟩ =>
    ((h.bind hg).mono fun v H1 ⟨d, Hf1, s1, sb, r, h1⟩ => ((h1.bind hg).mono fun v2 H2 ⟨e, Hf2, s2, sb2, r2, h2⟩ => ((h2.bind hg).mono fun v3 H3 ⟨f, Hf3, s3, sb3, r3, h3⟩ =>
      ⟨v, v2, v3, rfl, (d, e, f), Hf3, s3, ((h3.1.set ((r.mono sb2).mono sb3)).set (r2.mono sb3)).set r3, h3.2⟩).to).to).to
end
section
variable {X : Cx} {fx : Fx} {m : Type → Type} [Mo m] {G : List Sl} {α β : Type} {ex : α → List Sl} {exb : β → List Sl} {sts : List Stmt}
/-- a part that is not reached -/
theorem dss_stuck : PSs X sts (tS X.K X.mg fx G ex exb (Mo.lift R.stuck : m (Fl α β))) := pssI pss_never fun D σ H ⟨Hf, s, h⟩ => Mo.wp_lift h.2
end
end DL
/-! ### dicts: displays with text keys, d[k] -/
namespace DL
open PySem PySem.Spec PyProof.Rows L2
section
variable {X : Cx} {fx : Fx} {m : Type → Type} [Mo m] {G : List Sl} {pos : Pos}
/-- the pairs of a display whose keys are written texts -/
inductive KVs (X : Cx) (fx : Fx) (m : Type → Type) [Mo m] (G : List Sl) : List (Option Expr) → List Expr → List (List Nat) → m (List D) → List (TE × TE) → Prop
  | nil : KVs X fx m G [] [] [] (pure []) []
  | cons {t : Str} {j : Nat} {p : Pos} {ks : List (Option Expr)} {v : Expr} {vs : List Expr} {ls : List (List Nat)} {x : m D} {ys : m (List D)} {trs : List (TE × TE)} (l : List Nat) (hv : PE X v (tE X.K X.mg fx G x)) (r : KVs X fx m G ks vs ls ys trs) (ht : t = ⟨l.toArray⟩ := by first | rfl | decide +kernel) (hl : l.length ≤ 1000 := by decide) :
      KVs X fx m G (some (.Constant (.str t) j p) :: ks) (v :: vs) (l :: ls) (do let d ← x; let ds ← ys; pure (d :: ds)) ((fun σ H Q => Q (.str ⟨l.toArray⟩) H, tE X.K X.mg fx G x) :: trs)
theorem KVs.some {ks : List (Option Expr)} {vs : List Expr} {ls : List (List Nat)} {ys : m (List D)} {trs : List (TE × TE)} (h : KVs X fx m G ks vs ls ys trs) : ks.all (·.isSome) = true ∧ ks.length = vs.length ∧ ks.length = ls.length := by
  induction h with
  | nil => exact ⟨rfl, rfl, rfl⟩
  | cons l hv r ht hl ih => exact ⟨by simp [ih.1], by simp [ih.2.1], by simp [ih.2.2]⟩
end
end DL
/-! ### defs with a star; star calls -/
namespace DL
open PySem PySem.Spec PyProof.Rows L2 StX
def spStar (n : Nat) (sp : Sp) : Sp := fun vs H Q E => ∃ ws rest, vs = ws ++ rest ∧ ws.length = n ∧ rest.length ≤ sizeLine ∧ ∀ p, H p = none → sp (ws ++ [V.ref p]) (upd H p (.tup rest)) Q E
section
variable {P : Program} {w : World} {K : PySem.W.Frag} {mg : Str → Option Value} {base : Heap}
section
variable {P : Program} {w : World} {K : PySem.W.Frag} {mg : Str → Option Value} {base : Heap}
theorem fnP_star {x qual : Str} {st : Stmt} {f : Addr} {fd : FuncData} {N ps : List Str} {pv : Str} {k : Nat} {sp : Sp} (F : Fun K x qual st f fd) (S : FnScope N (ps ++ [pv]) (defScope st))
    (hb : ∀ us rest : List Value, us.length = ps.length → bindArgs fd ⟨us ++ rest, []⟩ = (newTuple rest >>= fun t => pure (ps.zip us ++ [(pv, t)])))
    (hbody : ∀ (cdv : Value) (A : Around) (outer : List Env) (s : Shared) (H : Hp) (vs : List V) (Q : VK) (E : XK), A.guards = some [] → Room k (A.deeper (envOfC qual (defScope st) s.heap.objs.size f cdv)) → sp vs H Q E →
      ∃ t, PSs (cxOf (CXm P w mg) P w K mg base N qual (defScope st) f cdv A outer s H E) (defBody st) t ∧ t { nx := fun _ H' => Q .non H', rt := Q } (start N vs) H) :
    FnP P w K mg base (k + 1) f [] (spStar ps.length sp) := fun A outer s H us kw _ Q E gd room e0 noKw rel ⟨ws, rest, ev, len, long, want⟩ => by
  subst ev
  obtain rfl := List.length_eq_zero_iff.mp noKw
  rw [List.append_nil] at rel
  obtain ⟨u1, u2, rfl, r1, r2⟩ := vals_split rel
  have n1 : u1.length = ps.length := r1.length.symm.trans len
  obtain ⟨oc, od, kV, doc, pm, an, cdv, ct, osl, rfl, lk, hcd⟩ := F.ex
  have free : H s.heap.objs.size = Option.none := e0.hok.fresh (Nat.le_refl _)
  -- the values behind the star lie in a tuple of their own
  let o : Obj := { cls := .type "tuple", data := .seq u2.toArray }
  have lies : ObjOk P w (upd H s.heap.objs.size (.tup rest)) (s.heap.push o) s.heap.objs.size (.tup rest) := ⟨long, u2, r2, o, Heap.get?_push_size _ rfl, rfl, 0, rfl⟩
  have un := un_laid (fs := frs outer) (s := s) (o := o) (u := .tup rest) free
  have names : ps.zip u1 ++ [(pv, Value.ref s.heap.objs.size)] = (ps ++ [pv]).zip (u1 ++ [.ref s.heap.objs.size]) := by rw [List.zip_append n1.symm]; rfl
  refine run_bnd lk hcd S room e0 (G := fun xs H2 => ∃ p, H p = Option.none ∧ xs = ws ++ [V.ref p] ∧ H2 = upd H p (.tup rest)) (fun A' Ex Q' go => ?_) fun s2 H2 xs ⟨p, new, ex, eH⟩ room' => ?_
  · have called := hb u1 u2 n1
    show wpAny _ _ (bindArgs _ ⟨u1 ++ u2, []⟩) _ _ _
    rw [called]
    refine wpAny_bind (wpAny_newTuple (wpAny_pure (names ▸ go _ _ (ws ++ [V.ref s.heap.objs.size]) _ (env0_laid e0 lies) un rfl (fun e s' => cxUp outer s H _ _ E e s' un (fun b o q => Heap.get?_push_of_some _ q) rfl) (r1.append (.cons rfl .nil)) ?_ ⟨_, free, rfl, rfl⟩)) (r2.length ▸ long))
    simp only [List.length_append, len, List.length_singleton]
  · subst ex eH
    exact hbody cdv A outer s2 _ _ Q E gd room' (want p new)
end
end
section
variable {K : PySem.W.Frag} {mg : Str → Option Value}
def starD {α : Type} (n : Nat) (g : List D → R α) (ds : List D) : R α := if n ≤ ds.length ∧ ds.length ≤ 1000000 then g (ds.take n ++ [.tup (ds.drop n)]) else .stuck
/-- an __init__ with a star (n: the parameters behind self, ahead of the star) -/
theorem spI_star {ns : List Str} {n : Nat} {g : List D → R (List D)} {vs : List V} {H : Hp} {Q : VK} {E : XK} (h : spI K mg ns (fun _ => True) (starD n g) vs H Q E) : spStar (n + 1) (spI K mg ns (fun l => l = n + 2) g) vs H Q E := by
  obtain ⟨_, x, C, dx, rest, Hf, ds, rfl, sb, hf, hx, c, na, l, q⟩ := h
  have hlen : n ≤ ds.length ∧ ds.length ≤ 1000000 := by
    by_cases z : n ≤ ds.length ∧ ds.length ≤ 1000000
    · exact z
    · have : starD n g ds = .stuck := if_neg z
      rw [this] at q; exact q.elim
  have e : starD n g ds = g (ds.take n ++ [.tup (ds.drop n)]) := if_pos hlen
  rw [e] at q
  have hl := l.len
  have hsz : sizeLine = 16777216 := sizeLine_eq
  refine ⟨.ref x :: rest.take n, rest.drop n, by simp, by simp; omega, by simp; omega, fun p hp => ?_⟩
  have hxp : x ≠ p := fun z => by rw [z, hp] at hx; cases hx
  have hfp : Hf p = none := sb.none hp
  have st0 : Ste [x] Hf H (upd Hf p (.tup (rest.drop n))) (upd H p (.tup (rest.drop n))) := .new sb hp
  refine ⟨by simp; omega, x, C, dx, rest.take n ++ [.ref p], upd Hf p (.tup (rest.drop n)), ds.take n ++ [.tup (ds.drop n)], by simp, st0.top, by rw [upd_ne hxp]; exact hf, by rw [upd_ne hxp]; exact hx, c, na, ?_, ?_⟩
  · refine ((l.take n).mono st0.sub).app (.cons ⟨by simp; omega, p, rest.drop n, rfl, .inl (.inl upd_same), (l.drop n).mono st0.sub⟩ .nil)
  · cases z : g (ds.take n ++ [.tup (ds.drop n)]) with
    | ok es => rw [z] at q; intro us Hf' H' st h1 h2 h3 h4; exact q us Hf' H' (st0.trans st) h1 h2 h3 h4
    | ex e => rw [z] at q; intro cls dd Hf' H' st xi; exact q cls dd Hf' H' (st0.trans st) xi
    | stuck => rw [z] at q; exact q
/-- an __init__ with a star, by its body -/
theorem fnI_star {P : Program} {w : World} {base : Heap} {x qual : Str} {st : Stmt} {f : Addr} {fd : FuncData} {N ps ns : List Str} {pv : Str} {k n : Nat} {g : List D → R (List D)} (F : Fun K x qual st f fd) (Sc : FnScope N (ps ++ [pv]) (defScope st)) (hn : ps.length = n + 1) (hN : n + 2 ≤ N.length)
    (hb0 : ∀ us rest : List Value, us.length = ps.length → bindArgs fd ⟨us ++ rest, []⟩ = (newTuple rest >>= fun t => pure (ps.zip us ++ [(pv, t)])))
    (hb : ∀ (cdv : Value) (A : Around) (outer : List Env) (s : Shared) (H Hf : Hp) (E : XK) (o : Addr) (ds : List D), Cok (cxOf (CXm P w mg) P w K mg base N qual (defScope st) f cdv A outer s H E) (fxI ns o H Hf E) k → ds.length = n + 1 →
      ∃ body : R (Fl (List D) Empty), PSs (cxOf (CXm P w mg) P w K mg base N qual (defScope st) f cdv A outer s H E) (defBody st)
        (tS (cxOf (CXm P w mg) P w K mg base N qual (defScope st) f cdv A outer s H E).K (cxOf (CXm P w mg) P w K mg base N qual (defScope st) f cdv A outer s H E).mg (fxI ns o H Hf E) (GI N ds) (exI N ns) Empty.elim body) ∧ g ds = runI body) :
    FnP P w K mg base (k + 1) f [] (spI K mg ns (fun _ => True) (starD n g)) := by
  refine FnP.imp (fnP_star (sp := spI K mg ns (fun l => l = n + 2) g) F Sc hb0 fun cdv A outer s H vs Q E gd hr h => ?_) fun vs H Q E h => by rw [hn]; exact spI_star h
  obtain ⟨hl, o, C, dx, rest, Hf, ds, rfl, sb, hf, hx, c, na, l, q⟩ := h
  have Ck : Cok (cxOf (CXm P w mg) P w K mg base N qual (defScope st) f cdv A outer s H E) (fxI ns o H Hf E) k := ⟨rfl, fun _ => passes_of rfl, takes_of rfl rfl rfl rfl, hr, Sc.nd, gd⟩
  have hl' : rest.length = n + 1 := by simpa using hl
  obtain ⟨body, hp, hg⟩ := hb cdv A outer s H Hf E o ds Ck (l.len.trans hl')
  refine ⟨_, hp, Hf, ⟨0, 0, 0, [], false⟩, .initI sb hf hx c na l (by omega), ?_⟩
  rw [hg] at q
  exact runI_read hx q
end
end DL
/-! ### partition, ints of texts, f-strings, constants of classes, defs called by names -/
namespace DL
open PySem PySem.Spec PyProof.Rows L2
/-! f-strings -/
end DL
/-! ### constants of classes, static methods, keyword-only parameters with defaults -/
namespace DL
open PySem PySem.Spec PyProof.Rows L2 StX
/-! keyword-only parameters -/
end DL
namespace DL
open PySem PySem.Spec PyProof.Rows L2
def apI1 (fn : D → R (List D)) : List D → R (List D)
  | [a] => fn a
  | _ => .stuck
end DL
namespace DL
open PySem PySem.Spec PyProof.Rows L2
end DL
namespace DL
open PySem
/-- isinstance of plain data against an own class -/
def noneOfB : List (String × Bool) := [("NoneType", false), ("bool", false), ("int", false), ("str", false), ("tuple", false), ("list", false), ("dict", false)]
end DL
/-! ### a, b, c = [..], [..], 'text' -/
namespace DL
open PySem PySem.Spec PyProof.Rows L2
end DL
/-! ### an own list becomes the bag; keyword calls of defs -/
namespace DL
open PySem PySem.Spec PyProof.Rows L2 StX
/-! keyword calls of defs without defaults -/
end DL
namespace DL
open PySem PySem.Spec PyProof.Rows L2
end DL
/-! ### text.index(sign) -/
namespace DL
open PySem PySem.Spec PyProof.Rows L2
end DL
/-! ### fields as targets of an unpacking -/
namespace DL
open PySem PySem.Spec PyProof.Rows L2
end DL
namespace DL
open PySem L2
/-! ### plain laws -/
instance : LawfulMonad R := LawfulMonad.mk' (m := R) (id_map := fun x => by cases x <;> rfl) (pure_bind := fun _ _ => rfl) (bind_assoc := fun x _ _ => by cases x <;> rfl)
theorem M.ext {α : Type} {x y : M α} (h : ∀ s, x s = y s) : x = y := funext h
instance : LawfulMonad M := LawfulMonad.mk' (m := M)
  (id_map := fun x => M.ext fun s => by
    show (x s).bd (fun a s => .ok a s) = x s
    cases x s <;> rfl)
  (pure_bind := fun _ _ => rfl)
  (bind_assoc := fun x f g => M.ext fun s => by
    show ((x s).bd f).bd g = (x s).bd fun a => f a >>= g
    cases x s <;> rfl)
@[simp] theorem lift_R {α : Type} (r : R α) : (Mo.lift r : R α) = r := rfl
@[simp] theorem lift_M {α : Type} (a : α) : (Mo.lift (R.ok a) : M α) = pure a := rfl
@[simp] theorem noex_R {α : Type} (a : α) : (Mo.noex (R.ok a) : R α) = .ok a := rfl
@[simp] theorem noex_M {α : Type} (a : α) : (Mo.noex (pure a : M α) : M α) = pure a := rfl
@[simp] theorem askM {α : Type} (a : α) : (ask (some a) : M α) = pure a := rfl
@[simp] theorem mkL_R (ds : List D) : (mkL (R.ok ds) : R D) = .ok (.lst ds) := rfl
@[simp] theorem mkL_M (ds : List D) : (mkL (pure ds : M (List D)) : M D) = pure (.lst ds) := rfl
def Inv (s : S) : Prop := s.w = false ∧ 0 ≤ s.y ∧ s.y < 4294967296
def Ok {α : Type} (x : M α) (Q : α → Prop) : Prop := ∀ s, Inv s → ∃ a s', x s = .ok a s' ∧ Inv s' ∧ Q a
def OkR {α : Type} (x : R α) (Q : α → Prop) : Prop := ∃ a, x = .ok a ∧ Q a
section
variable {α β γ : Type} {Q : β → Prop} {P : α → Prop}
theorem okr_pure {a : β} (h : Q a) : OkR (.ok a) Q := ⟨a, rfl, h⟩
theorem okr_bind {x : R α} {f : α → R β} (h : OkR x fun a => OkR (f a) Q) : OkR (x >>= f) Q := by
  obtain ⟨a, rfl, q⟩ := h
  exact q
theorem okr_mono {x : R α} {P' : α → Prop} (h : OkR x P) (w : ∀ a, P a → P' a) : OkR x P' := by
  obtain ⟨a, rfl, q⟩ := h
  exact ⟨a, rfl, w a q⟩
end
/-! defs -/
def FlQ (nr : Bool) (Q : D → Prop) : Fl Unit Empty → Prop
  | .nx _ => nr = false ∧ Q .non
  | .rt d => Q d
  | _ => False
theorem okr_runR {nr : Bool} {x : R (Fl Unit Empty)} {Q : D → Prop} (h : OkR x (FlQ nr Q)) : OkR (runR nr x) Q := by
  obtain ⟨a, rfl, q⟩ := h
  cases a with
  | nx a =>
    obtain ⟨q1, q2⟩ := q
    subst q1
    exact ⟨.non, rfl, q2⟩
  | rt d => exact ⟨d, rfl, q⟩
  | bk b => exact b.elim
  | ct b => exact b.elim
theorem runR_rt {nr : Bool} {d : D} : runR nr (.ok (.rt d)) = .ok d := rfl
/-! flow -/
section
variable {α β γ : Type}
@[simp] theorem seqR_nx {a : α} {k : α → R (Fl γ β)} : seqF (R.ok (.nx a)) k = k a := rfl
@[simp] theorem seqR_rt {d : D} {k : α → R (Fl γ β)} : seqF (R.ok (.rt d)) k = .ok (.rt d) := rfl
@[simp] theorem seqR_bk {b : β} {k : α → R (Fl γ β)} : seqF (R.ok (.bk b)) k = .ok (.bk b) := rfl
@[simp] theorem seqR_ct {b : β} {k : α → R (Fl γ β)} : seqF (R.ok (.ct b)) k = .ok (.ct b) := rfl
def SeqQ (k : α → Prop) (Q : Fl γ β → Prop) : Fl α β → Prop
  | .nx a => k a
  | .rt d => Q (.rt d)
  | .bk b => Q (.bk b)
  | .ct b => Q (.ct b)
theorem okr_seq {x : R (Fl α β)} {k : α → R (Fl γ β)} {Q : Fl γ β → Prop} (h : OkR x (SeqQ (fun a => OkR (k a) Q) Q)) : OkR (seqF x k) Q := okr_bind (okr_mono h fun f q => by
  cases f with
  | nx a => exact q
  | rt d => exact okr_pure q
  | bk b => exact okr_pure q
  | ct b => exact okr_pure q)
/-- what a turn of a loop leaves -/
def TurnQ (I : α → Prop) (Q : Fl α β → Prop) : Fl α α → Prop
  | .nx a => I a
  | .ct a => I a
  | .bk a => Q (.nx a)
  | .rt d => Q (.rt d)
theorem okr_for {u : D → Option γ} {xb : α → γ → R (Fl α α)} {Q : Fl α β → Prop} (I : Nat → α → Prop) (ds : List D) (a0 : α) (h0 : I 0 a0) (hs : ∀ i d a, ds[i]? = some d → I i a → ∃ c, u d = some c ∧ OkR (xb a c) (TurnQ (I (i + 1)) Q)) (he : ∀ a, I ds.length a → Q (.nx a)) : OkR (forF u xb ds a0) Q := by
  induction ds generalizing I a0 with
  | nil => exact okr_pure (he _ h0)
  | cons d ds ih =>
    unfold forF
    obtain ⟨c, e, h⟩ := hs 0 d a0 rfl h0
    rw [e]
    refine okr_bind (okr_pure (okr_bind (okr_mono h fun f q => ?_)))
    cases f with
    | nx a => exact ih (fun i => I (i + 1)) a q (fun i d' a' e' q' => hs (i + 1) d' a' (by simpa using e') q') (fun a q => he a (by simpa using q))
    | ct a => exact ih (fun i => I (i + 1)) a q (fun i d' a' e' q' => hs (i + 1) d' a' (by simpa using e') q') (fun a q => he a (by simpa using q))
    | bk a => exact okr_pure q
    | rt d => exact okr_pure q
end
/-! comprehensions -/
theorem lcR {γ : Type} {u : D → Option γ} {xt : γ → R Bool} {xe : γ → R D} (c : D → γ) (p : D → Bool) (f : D → D) : ∀ ds : List D, (∀ d ∈ ds, u d = some (c d)) → (∀ d ∈ ds, xt (c d) = .ok (p d)) → (∀ d ∈ ds, p d = true → xe (c d) = .ok (f d)) → lcF u xt xe ds = .ok ((ds.filter p).map f)
  | [], _, _, _ => rfl
  | d :: ds, h1, h2, h3 => by
    have ih := lcR c p f ds (fun x m => h1 x (.tail _ m)) (fun x m => h2 x (.tail _ m)) (fun x m => h3 x (.tail _ m))
    unfold lcF
    rw [h1 d (.head _)]
    simp only [ask_some, R.bind_eq, R.bd, h2 d (.head _), noex_R]
    cases q : p d with
    | false => simp only [Bool.false_eq_true, if_false, ih, List.filter_cons, q]
    | true =>
      simp only [if_true, List.filter_cons, q, List.map_cons]
      rw [h3 d (.head _) q, ih]
      rfl
inductive All2 {α β : Type} (P : α → β → Prop) : List α → List β → Prop
  | nil : All2 P [] []
  | cons {x : α} {y : β} {xs : List α} {ys : List β} (h : P x y) (t : All2 P xs ys) : All2 P (x :: xs) (y :: ys)
/-! the bag -/
/-! numbers -/
theorem mul_ii {i j : Int} (hi : i.natAbs < 2 ^ 64) (hj : j.natAbs < 2 ^ 64) : mulD (.int i) (.int j) = some (.int (i * j)) := by
  have h1 := PySem.Flt.log2_lt_of (n := i.natAbs) (k := 64) (by decide) hi
  have h2 := PySem.Flt.log2_lt_of (n := j.natAbs) (k := 64) (by decide) hj
  exact if_pos (show i.natAbs.log2 + j.natAbs.log2 < 1000000 by omega)
theorem mod_ii {i j : Int} (hj : 0 < j) : modD (.int i) (.int j) = some (.int (i % j)) := if_pos hj
theorem fdiv_ii {i j : Int} (hj : 0 < j) (h : j.natAbs < 2 ^ 64) : fdivD (.int i) (.int j) = some (.int (i / j)) := by
  have h1 := PySem.Flt.log2_lt_of (n := j.natAbs) (k := 64) (by decide) h
  exact if_pos (show 0 < j ∧ j.natAbs.log2 < 9000 from ⟨hj, by omega⟩)
@[simp] theorem add_ii {i j : Int} : addD (.int i) (.int j) = some (.int (i + j)) := rfl
@[simp] theorem sub_ii {i j : Int} : subD (.int i) (.int j) = some (.int (i - j)) := rfl
@[simp] theorem lt_ii {i j : Int} : ltD (.int i) (.int j) = some (.bl (decide (i < j))) := rfl
@[simp] theorem le_ii {i j : Int} : leD (.int i) (.int j) = some (.bl (decide (i ≤ j))) := rfl
@[simp] theorem gt_ii {i j : Int} : gtD (.int i) (.int j) = some (.bl (decide (j < i))) := rfl
@[simp] theorem ge_ii {i j : Int} : geD (.int i) (.int j) = some (.bl (decide (j ≤ i))) := rfl
@[simp] theorem eq_ii {i j : Int} : eqD (.int i) (.int j) = some (.bl (decide (i = j))) := rfl
@[simp] theorem ne_ii {i j : Int} : neD (.int i) (.int j) = some (.bl (!decide (i = j))) := rfl
@[simp] theorem eq_ss {a b : List Nat} : eqD (.str a) (.str b) = some (.bl (decide (a = b))) := rfl
@[simp] theorem ne_ss {a b : List Nat} : neD (.str a) (.str b) = some (.bl (!decide (a = b))) := rfl
@[simp] theorem bOf_bl {b : Bool} : bOf (.bl b) = some b := rfl
@[simp] theorem tru_bl {b : Bool} : truD (.bl b) = some b := rfl
@[simp] theorem tru_str {s : List Nat} : truD (.str s) = some (!s.isEmpty) := rfl
@[simp] theorem tru_lst {s : List D} : truD (.lst s) = some (!s.isEmpty) := rfl
@[simp] theorem tru_tup {s : List D} : truD (.tup s) = some (!s.isEmpty) := rfl
@[simp] theorem tru_int {i : Int} : truD (.int i) = some (i != 0) := rfl
@[simp] theorem int_int {i : Int} : intD [.int i] = some (.int i) := rfl
@[simp] theorem len_lst {s : List D} : lenD [.lst s] = some (.int s.length) := rfl
@[simp] theorem len_tup {s : List D} : lenD [.tup s] = some (.int s.length) := rfl
@[simp] theorem len_str {s : List Nat} : lenD [.str s] = some (.int s.length) := rfl
@[simp] theorem len_scr {s : List Int} : lenD [.scr s] = some (.int s.length) := rfl
@[simp] theorem it_lst {s : List D} : itD (.lst s) = some s := rfl
@[simp] theorem it_tup {s : List D} : itD (.tup s) = some s := rfl
@[simp] theorem it_str {s : List Nat} : itD (.str s) = some (chrs s) := rfl
@[simp] theorem int_of {i : Int} : intOf (.int i) = some i := rfl
@[simp] theorem flat_int {i : Int} : flatD (.int i) = some (.int i) := rfl
@[simp] theorem flat_bl {i : Bool} : flatD (.bl i) = some (.bl i) := rfl
@[simp] theorem flat_str {i : List Nat} : flatD (.str i) = some (.str i) := rfl
@[simp] theorem str_of {i : List Nat} : strOf (.str i) = some i := rfl
theorem sz_ok {ds : List D} (h : ds.length ≤ 1000000) : szL ds = some ds := if_pos (by rw [sizeLine_eq]; omega)
theorem apd_ok {ds : List D} {d : D} (h : ds.length < 1000000) : apd ds d = some (ds ++ [d]) := if_pos (by rw [sizeLine_eq]; omega)
theorem rng1_ok {j : Int} (h0 : -4611686018427387904 ≤ j) (h : j ≤ 1000000) : rng1 [.int j] = some (rangeL 0 j.toNat) := if_pos ⟨h0, h⟩
theorem range_len {lo : Int} {n : Nat} : (rangeL lo n).length = n := by simp [rangeL]
theorem range_get {lo : Int} {n i : Nat} {d : D} (h : (rangeL lo n)[i]? = some d) : i < n ∧ d = .int (lo + i) := by
  unfold rangeL at h
  rw [List.getElem?_map] at h
  by_cases c : i < n
  · rw [List.getElem?_range c] at h
    cases h
    exact ⟨c, rfl⟩
  · rw [List.getElem?_eq_none (by simpa using c)] at h
    cases h
theorem ix_lst {ds : List D} {i : Int} (h0 : 0 ≤ i) (h : i < ds.length) : ixD (.lst ds) (.int i) = some (ds[i.toNat]'(by omega)) := by
  unfold ixD L2.atI ixN
  simp only
  rw [if_pos h0, if_pos h]
  exact List.getElem?_eq_getElem (by omega)
theorem ixN_ok {n : Nat} {i : Int} (h0 : 0 ≤ i) (h : i < n) : ixN n i = some i.toNat := by
  unfold ixN
  rw [if_pos h0, if_pos h]
theorem set_ok {ds : List D} {i : Int} {d : D} (h0 : 0 ≤ i) (h : i < ds.length) : setI ds (.int i) d = some (ds.set i.toNat d) := by
  unfold setI
  simp only [ixN_ok h0 h]
  rfl
end DL
namespace FN
open DL
def c_CHARACTERS : D := (.str [48, 49, 50, 51, 52, 53, 54, 55, 56, 57, 97, 98, 99, 100, 101, 102, 103, 104, 105, 106, 107, 108, 109, 110, 111, 112, 113, 114, 115, 116, 117, 118, 119, 120, 121, 122])
def c_LONGEST_LABEL : D := (.int (20))
def c_MOST_LABELS : D := (.int (20))
def b_is_label_344b (a0 : D) : R (Fl Unit Empty) := (do let t16 ← (DL.orM (DL.notM (do let x2 ← (do let x1 ← (pure a0); DL.ask (isiD "str" x1)); DL.ask (truD x2))) (DL.notM (do let x6 ← (chainM leD leD (pure (.int 1)) (do let r5 ← (do let x3 ← (pure a0); let r4 ← pure []; pure (x3 :: r4)); DL.ask (lenD r5)) (pure c_LONGEST_LABEL)); DL.ask (bOf x6)))); seqF (if t16 = true then (do let v8 ← (pure (.bl false)); pure (.rt v8)) else (pure (.nx ()))) fun (a7 : Unit) => (do let v15 ← (notV (mkL (do let r14 ← (do let r9 ← (pure a0); DL.ask (itD r9)); lcF (fun d => some d) (fun (c11 : D) => (do let x12 ← (pure c11); let y13 ← (pure c_CHARACTERS); DL.ask ((notInD x12 y13).bind bOf))) (fun (c11 : D) => (pure c11)) r14))); pure (.rt v15)))
def m_is_label_344b : List D → R D := apR1 fun a0 => runR false (b_is_label_344b a0)
theorem n_is_label_344b : ∀ ds : List D, m_is_label_344b ds ≠ .stuck → ds.length = 1 := apR1_len _
def b_is_path_08e1 (a0 : D) : R (Fl Unit Empty) := (do let t19 ← (DL.orM (DL.notM (do let x2 ← (do let x1 ← (pure a0); DL.ask (isiD "tuple" x1)); DL.ask (truD x2))) (do let x6 ← (do let r5 ← (do let x3 ← (pure a0); let r4 ← pure []; pure (x3 :: r4)); DL.ask (lenD r5)); let y7 ← (pure c_MOST_LABELS); DL.ask ((gtD x6 y7).bind bOf))); seqF (if t19 = true then (do let v9 ← (pure (.bl false)); pure (.rt v9)) else (pure (.nx ()))) fun (a8 : Unit) => (do let v18 ← (notV (mkL (do let r17 ← (do let r10 ← (pure a0); DL.ask (itD r10)); lcF (fun d => some d) (fun (c12 : D) => (DL.notM (do let x16 ← (do let r15 ← (do let x13 ← (pure c12); let r14 ← pure []; pure (x13 :: r14)); Mo.lift (m_is_label_344b r15)); DL.ask (truD x16)))) (fun (c12 : D) => (pure c12)) r17))); pure (.rt v18)))
def m_is_path_08e1 : List D → R D := apR1 fun a0 => runR false (b_is_path_08e1 a0)
theorem n_is_path_08e1 : ∀ ds : List D, m_is_path_08e1 ds ≠ .stuck → ds.length = 1 := apR1_len _
def b_is_host_45ba (a0 : D) : R (Fl Unit Empty) := (do let v9 ← (andV (do let r3 ← (do let x1 ← (pure a0); let r2 ← pure []; pure (x1 :: r2)); Mo.lift (m_is_path_08e1 r3)) (do let x7 ← (do let r6 ← (do let x4 ← (pure a0); let r5 ← pure []; pure (x4 :: r5)); DL.ask (lenD r6)); let y8 ← (pure (.int 0)); DL.ask (gtD x7 y8))); pure (.rt v9))
def m_is_host_45ba : List D → R D := apR1 fun a0 => runR false (b_is_host_45ba a0)
theorem n_is_host_45ba : ∀ ds : List D, m_is_host_45ba ds ≠ .stuck → ds.length = 1 := apR1_len _
/-! ### what they do -/
/-- the thirty-six signs -/
def CH : List Nat := [48, 49, 50, 51, 52, 53, 54, 55, 56, 57, 97, 98, 99, 100, 101, 102, 103, 104, 105, 106, 107, 108, 109, 110, 111, 112, 113, 114, 115, 116, 117, 118, 119, 120, 121, 122]
/-! labels, paths, hosts -/
def isLab (n : Nat) (z : List Nat) : Bool := decide (1 ≤ z.length) && (decide (z.length ≤ n) && z.all fun c => decide (c ∈ CH))
def labD : D → Bool
  | .str z => isLab 20 z
  | _ => false
theorem labD_str {z : List Nat} : labD (.str z) = isLab 20 z := rfl
def isStr : D → Bool
  | .str _ => true
  | _ => false
def isTup : D → Bool
  | .tup _ => true
  | _ => false
theorem isi_str {d : D} {T : String} (h : tyD d = some T) : isiD "str" d = some (.bl (isStr d)) := by
  cases d with
  | non => exact congrArg (Option.map D.bl) (show L2.kitB "NoneType" "str" = some false by decide +kernel)
  | bl _ => exact congrArg (Option.map D.bl) (show L2.kitB "bool" "str" = some false by decide +kernel)
  | int _ => exact congrArg (Option.map D.bl) (show L2.kitB "int" "str" = some false by decide +kernel)
  | str _ => exact congrArg (Option.map D.bl) (show L2.kitB "str" "str" = some true by decide +kernel)
  | tup _ => exact congrArg (Option.map D.bl) (show L2.kitB "tuple" "str" = some false by decide +kernel)
  | lst _ => exact congrArg (Option.map D.bl) (show L2.kitB "list" "str" = some false by decide +kernel)
  | scr _ => exact congrArg (Option.map D.bl) (show L2.kitB "list" "str" = some false by decide +kernel)
  | dic _ _ => exact congrArg (Option.map D.bl) (show L2.kitB "dict" "str" = some false by decide +kernel)
  | ins _ _ _ => cases h
  | xc _ _ _ _ => cases h
theorem isi_tup {d : D} {T : String} (h : tyD d = some T) : isiD "tuple" d = some (.bl (isTup d)) := by
  cases d with
  | non => exact congrArg (Option.map D.bl) (show L2.kitB "NoneType" "tuple" = some false by decide +kernel)
  | bl _ => exact congrArg (Option.map D.bl) (show L2.kitB "bool" "tuple" = some false by decide +kernel)
  | int _ => exact congrArg (Option.map D.bl) (show L2.kitB "int" "tuple" = some false by decide +kernel)
  | str _ => exact congrArg (Option.map D.bl) (show L2.kitB "str" "tuple" = some false by decide +kernel)
  | tup _ => exact congrArg (Option.map D.bl) (show L2.kitB "tuple" "tuple" = some true by decide +kernel)
  | lst _ => exact congrArg (Option.map D.bl) (show L2.kitB "list" "tuple" = some false by decide +kernel)
  | scr _ => exact congrArg (Option.map D.bl) (show L2.kitB "list" "tuple" = some false by decide +kernel)
  | dic _ _ => exact congrArg (Option.map D.bl) (show L2.kitB "dict" "tuple" = some false by decide +kernel)
  | ins _ _ _ => cases h
  | xc _ _ _ _ => cases h
theorem chrs_mem {z : List Nat} {d : D} (h : d ∈ chrs z) : ∃ c ∈ z, d = .str [c] := by
  obtain ⟨c, m, rfl⟩ := List.mem_map.mp h
  exact ⟨c, m, rfl⟩
def sgn : D → Nat
  | .str [c] => c
  | _ => 0
theorem filter_chrs (p : Nat → Bool) : ∀ z : List Nat, (chrs z).filter (fun d => p (sgn d)) = chrs (z.filter p)
  | [] => rfl
  | c :: z => by
    show ((D.str [c]) :: chrs z).filter (fun d => p (sgn d)) = _
    rw [List.filter_cons, List.filter_cons, filter_chrs p z]
    show (if p c = true then _ else _) = _
    cases p c <;> rfl
theorem filter_none {α : Type} (p : α → Bool) (z : List α) : (z.filter fun c => !p c).isEmpty = z.all p := by
  induction z with
  | nil => rfl
  | cons c z ih =>
    rw [List.filter_cons, List.all_cons, ← ih]
    cases p c <;> rfl
theorem chrs_empty (z : List Nat) : (chrs z).isEmpty = z.isEmpty := by cases z <;> rfl
theorem is_label_ok {d : D} {T : String} (h : tyD d = some T) : m_is_label_344b [d] = .ok (.bl (labD d)) := by
  unfold m_is_label_344b apR1 b_is_label_344b
  simp only [R.pure_eq, R.bind_eq, R.bd, isi_str h, ask_some, tru_bl, DL.orM, DL.notM]
  cases d with
  | str z =>
    simp only [isStr, Bool.not_true, Bool.false_eq_true, if_false, chainM, R.pure_eq, R.bind_eq, R.bd, len_str, ask_some, le_ii, Option.bind_some, bOf_bl, c_LONGEST_LABEL]
    by_cases h1 : 1 ≤ z.length
    · have e1 : decide ((1 : Int) ≤ (z.length : Int)) = true := decide_eq_true (by omega)
      simp only [e1, if_true, R.bd, ask_some, bOf_bl]
      by_cases h2 : z.length ≤ 20
      · have e2 : decide ((z.length : Int) ≤ 20) = true := decide_eq_true (by omega)
        simp only [e2, Bool.not_true, Bool.false_eq_true, if_false, seqR_nx, it_str, ask_some, R.bd]
        rw [lcR (c := fun d => d) (p := fun d => !decide (sgn d ∈ CH)) (f := fun d => d) _ (fun _ _ => rfl) (fun d m => ?_) (fun _ _ _ => rfl)]
        · rw [filter_chrs (fun c => !decide (c ∈ CH))]
          simp only [List.map_id', mkL_R, notV, R.bind_eq, R.bd, tru_lst, ask_some, R.pure_eq, runR_rt, chrs_empty, filter_none, Bool.not_not]
          rw [labD_str]
          unfold isLab
          rw [decide_eq_true h1, decide_eq_true h2]
          rfl
        · obtain ⟨c, _, rfl⟩ := chrs_mem m
          rfl
      · have e2 : decide ((z.length : Int) ≤ 20) = false := decide_eq_false (by omega)
        simp only [e2, Bool.not_false, if_true, seqR_rt, runR_rt]
        rw [labD_str]
        unfold isLab
        rw [decide_eq_true h1, decide_eq_false h2]
        rfl
    · have e1 : decide ((1 : Int) ≤ (z.length : Int)) = false := decide_eq_false (by omega)
      simp only [e1, Bool.false_eq_true, if_false, R.bd, ask_some, bOf_bl, Bool.not_false, if_true, seqR_rt, runR_rt]
      rw [labD_str]
      unfold isLab
      rw [decide_eq_false h1]
      rfl
  | ins _ _ _ => cases h
  | xc _ _ _ _ => cases h
  | _ => rfl
def pathD : D → Bool
  | .tup ds => decide (ds.length ≤ 20) && ds.all labD
  | _ => false
theorem pathD_tup {ds : List D} : pathD (.tup ds) = (decide (ds.length ≤ 20) && ds.all labD) := rfl
def kids : D → List D
  | .tup ds => ds
  | _ => []
theorem is_path_ok {d : D} {T : String} (h : tyD d = some T) (hk : ∀ x ∈ kids d, tyD x ≠ none) : m_is_path_08e1 [d] = .ok (.bl (pathD d)) := by
  unfold m_is_path_08e1 apR1 b_is_path_08e1
  simp only [R.pure_eq, R.bind_eq, R.bd, isi_tup h, ask_some, tru_bl, DL.orM, DL.notM]
  cases d with
  | tup ds =>
    simp only [isTup, Bool.not_true, Bool.false_eq_true, if_false, R.bd, len_tup, ask_some, gt_ii, Option.bind_some, bOf_bl, c_MOST_LABELS]
    by_cases h2 : ds.length ≤ 20
    · have e2 : decide ((20 : Int) < (ds.length : Int)) = false := decide_eq_false (by omega)
      simp only [e2, Bool.false_eq_true, if_false, seqR_nx, it_tup, ask_some, R.bd]
      rw [lcR (c := fun d => d) (p := fun d => !labD d) (f := fun d => d) _ (fun _ _ => rfl) (fun d m => ?_) (fun _ _ _ => rfl)]
      · simp only [List.map_id', mkL_R, notV, R.bind_eq, R.bd, tru_lst, ask_some, R.pure_eq, runR_rt, filter_none, Bool.not_not]
        rw [pathD_tup, decide_eq_true h2]
        rfl
      · cases e : tyD d with
        | none => exact absurd e (hk d m)
        | some T => simp only [lift_R, is_label_ok e, R.bd, tru_bl, ask_some]
    · have e2 : decide ((20 : Int) < (ds.length : Int)) = true := decide_eq_true (by omega)
      simp only [e2, if_true, seqR_rt, runR_rt]
      rw [pathD_tup, decide_eq_false h2]
      rfl
  | ins _ _ _ => cases h
  | xc _ _ _ _ => cases h
  | _ => rfl
def hostD (d : D) : Bool := pathD d && !(kids d).isEmpty
theorem is_host_ok {d : D} {T : String} (h : tyD d = some T) (hk : ∀ x ∈ kids d, tyD x ≠ none) : m_is_host_45ba [d] = .ok (.bl (hostD d)) := by
  unfold m_is_host_45ba apR1 b_is_host_45ba
  simp only [R.pure_eq, R.bind_eq, R.bd, lift_R, is_path_ok h hk, andV, tru_bl, ask_some]
  unfold hostD
  cases e : pathD d with
  | false => rfl
  | true =>
    cases d with
    | tup ds =>
      simp only [if_true, R.bd, len_tup, ask_some, gt_ii, runR_rt, kids, Bool.true_and]
      congr 2
      cases ds with
      | nil => rfl
      | cons x xs => exact decide_eq_true (by simp only [List.length_cons]; omega)
    | _ => cases e
end FN
namespace DL
open PySem
theorem okr_seqP {α β γ : Type} {x : R (Fl α β)} {k : α → R (Fl γ β)} {Q : Fl γ β → Prop} (P : α → Prop) (h : OkR x (SeqQ P Q)) (w : ∀ a, P a → OkR (k a) Q) : OkR (seqF x k) Q := okr_seq (okr_mono h fun f q => by
  cases f with
  | nx a => exact w a q
  | rt d => exact q
  | bk b => exact q
  | ct b => exact q)
theorem askR {α : Type} {a : α} : (ask (some a) : R α) = pure a := rfl
theorem okpR {α : Type} {a : α} : (R.ok a) = (pure a : R α) := rfl
theorem lift_pR {α : Type} {a : R α} : (Mo.lift a : R α) = a := rfl
theorem okr_p {α : Type} {a : α} {Q : α → Prop} (h : Q a) : OkR (pure a : R α) Q := ⟨a, rfl, h⟩
/-! ### texts -/
theorem mul_s {a : List Nat} {k : Nat} (h0 : k < 1000000) (h : a.length * k ≤ 1000000) : mulD (.str a) (.int k) = some (.str (List.replicate k a).flatten) := by
  have e : ∀ i : Int, mulD (.str a) (.int i) = if 0 ≤ i ∧ i < 1000000 ∧ a.length * i.toNat ≤ 1000000 then some (.str (List.replicate i.toNat a).flatten) else none := fun i => rfl
  rw [e, Int.toNat_natCast, if_pos ⟨by omega, by omega, h⟩]
def Tx (n : Nat) (z : List Nat) : Prop := z.length ≤ n ∧ ∀ c ∈ z, c < 1114112
theorem Tx.up {n m : Nat} {z : List Nat} (h : Tx n z) (w : n ≤ m) : Tx m z := ⟨Nat.le_trans h.1 w, h.2⟩
theorem Tx.app {n m : Nat} {a b : List Nat} (h : Tx n a) (k : Tx m b) : Tx (n + m) (a ++ b) := ⟨by rw [List.length_append]; exact Nat.add_le_add h.1 k.1, fun c hc => by
  rcases List.mem_append.mp hc with hc | hc
  · exact h.2 c hc
  · exact k.2 c hc⟩
theorem add_ss {a b : List Nat} (h : a.length + b.length ≤ 1000000) : addD (.str a) (.str b) = some (.str (a ++ b)) := if_pos (by rw [sizeLine_eq]; omega)
theorem add_ll {a b : List D} (h : a.length + b.length ≤ 1000000) : addD (.lst a) (.lst b) = some (.lst (a ++ b)) := if_pos (by rw [sizeLine_eq]; omega)
@[simp] theorem slice_s {z : List Nat} {lo hi : Option Int} : sliceD (.str z) lo hi = some (.str (cutL z lo hi)) := rfl
@[simp] theorem slice_l {z : List D} {lo hi : Option Int} : sliceD (.lst z) lo hi = some (.lst (cutL z lo hi)) := rfl
theorem cut_hi {α : Type} {z : List α} {i : Int} (h : 0 ≤ i) : cutL z none (some i) = z.take i.toNat := by
  unfold cutL
  have e1 : HT.sIx z.length 0 none = 0 := rfl
  have e2 : HT.sIx z.length z.length (some i) = min i.toNat z.length := by
    unfold HT.sIx
    simp only
    split <;> omega
  rw [e1, e2, List.drop_zero, Nat.sub_zero, List.take_eq_take_iff]
  omega
theorem joinN_nil : ∀ ps : List (List Nat), joinN [] ps = ps.flatten
  | [] => rfl
  | [p] => by simp [joinN]
  | p :: q :: r => by rw [joinN, joinN_nil (q :: r)]; simp
theorem strs_map : ∀ ps : List (List Nat), strsOf (ps.map .str) = some ps
  | [] => rfl
  | p :: ps => by
    show (strsOf (ps.map .str)).map (p :: ·) = _
    rw [strs_map ps]
    rfl
theorem join_ok {S : List Nat} {ps : List (List Nat)} (h : (ps.map (·.length)).sum + ps.length * S.length ≤ 16777216) : joinD (.str S) (.lst (ps.map .str)) = some (.str (joinN S ps)) := by
  unfold joinD
  show (match strsOf (ps.map .str) with | some ps => _ | none => _) = _
  rw [strs_map]
  exact if_pos h
theorem flat_ones : ∀ z : List Nat, (z.map fun c => [c]).flatten = z
  | [] => rfl
  | c :: z => by simp [flat_ones z]
theorem sum_ones : ∀ z : List Nat, ((z.map fun c => [c]).map (·.length)).sum = z.length
  | [] => rfl
  | c :: z => by rw [List.map_cons, List.map_cons, List.sum_cons, sum_ones z]; simp; omega
/-- the text of drawn signs -/
theorem join_chrs {z : List Nat} (h : z.length ≤ 1000000) : joinD (.str []) (.lst (chrs z)) = some (.str z) := by
  have e : chrs z = (z.map fun c => [c]).map .str := by unfold chrs; rw [List.map_map]; rfl
  rw [e, join_ok, joinN_nil, flat_ones]
  rw [sum_ones]
  simp
  omega
/-! ### repr -/
theorem toPyL_strs : ∀ zs : List (List Nat), toPyL (zs.map .str) = some (zs.map fun z => .str ⟨z.toArray⟩)
  | [] => by simp [toPyL]
  | z :: zs => by simp [toPyL, toPy, toPyL_strs zs]
theorem lay_strs : ∀ {zs : List (List Nat)}, (∀ z ∈ zs, Tx 1000 z) → PyData.canLayAll0 (zs.map fun z => .str ⟨z.toArray⟩) = true ∧ PyData.depthAll (zs.map fun z => .str ⟨z.toArray⟩) = 0 ∧ PyData.weightAll (zs.map fun z => .str ⟨z.toArray⟩) ≤ zs.length * 1001 ∧ PyData.intsShortAll 13 (zs.map fun z => .str ⟨z.toArray⟩) = true ∧ PyData.showableAll (zs.map fun z => .str ⟨z.toArray⟩) = true
  | [], _ => by simp [PyData.canLayAll0, PyData.depthAll, PyData.weightAll, PyData.intsShortAll, PyData.showableAll]
  | z :: zs, h => by
    obtain ⟨h1, h2, h3, h4, h5⟩ := lay_strs fun x m => h x (.tail _ m)
    have hz := h z (.head _)
    refine ⟨?_, ?_, ?_, ?_, ?_⟩
    · rw [List.map_cons, PyData.canLayAll0, h1]
      simp only [PyData.canLay0, Bool.and_true, PyData.strOk]
      simpa using hz.2
    · rw [List.map_cons, PyData.depthAll, h2, PyData.depth]; rfl
    · rw [List.map_cons, PyData.weightAll, PyData.weight, List.length_cons]
      have := hz.1
      simp only [List.size_toArray]
      omega
    · rw [List.map_cons, PyData.intsShortAll, h4, PyData.intsShort]; rfl
    · rw [List.map_cons, PyData.showableAll, h5, PyData.showable]; rfl
theorem str_beq (a b : List Nat) : PyData.eqv (.str ⟨a.toArray⟩) (.str ⟨b.toArray⟩) = decide (a = b) := by
  rw [PyData.eqv]
  by_cases h : a = b
  · subst h
    simp
  · rw [decide_eq_false h]
    have : (⟨a.toArray⟩ : Str) ≠ ⟨b.toArray⟩ := fun z => by
      have z2 : a.toArray = b.toArray := Str.mk.inj z
      exact h (by simpa using z2)
    simpa using this
theorem any_strs (a : List Nat) : ∀ zs : List (List Nat), ((zs.map fun z => PyData.str ⟨z.toArray⟩).any fun z => PyData.eqv z (.str ⟨a.toArray⟩)) = decide (a ∈ zs)
  | [] => rfl
  | z :: zs => by
    rw [List.map_cons, List.any_cons, any_strs a zs, str_beq]
    by_cases h : a = z
    · subst h; simp
    · have h' : ¬ z = a := fun e => h e.symm
      simp [h, h']
theorem shaped_str {n : Nat} {a : List Nat} (h : Tx n a) : SeqAt.shaped (.str ⟨a.toArray⟩) = true := by
  unfold SeqAt.shaped
  simp only [PyData.canLay0, PyData.strOk, PyData.depth]
  simpa using h.2
theorem shaped_strs {zs : List (List Nat)} (h : ∀ z ∈ zs, Tx 1000 z) : SeqAt.shaped (.list (zs.map fun z => .str ⟨z.toArray⟩)) = true ∧ SeqAt.shaped (.tuple (zs.map fun z => .str ⟨z.toArray⟩)) = true := by
  obtain ⟨h1, h2, _⟩ := lay_strs h
  unfold SeqAt.shaped
  simp only [PyData.canLay0, h1, PyData.depth, h2]
  exact ⟨rfl, rfl⟩
theorem in_strs {n : Nat} {a : List Nat} {zs : List (List Nat)} (ha : Tx n a) (h : ∀ z ∈ zs, Tx 1000 z) : inD (.str a) (.lst (zs.map .str)) = some (.bl (decide (a ∈ zs))) := by
  have e : inP (.str a) (.lst (zs.map .str)) = some (decide (a ∈ zs)) := by
    unfold inP
    split
    · rename_i q; cases q
    · rename_i ds _ q
      cases q
      rw [toPy, toPy, toPyL_strs]
      simp only [Option.map_some, shaped_str ha, (shaped_strs h).1, Bool.and_self, if_true, any_strs]
    · rename_i q; cases q
    · rename_i q _ _; exact absurd rfl (q _)
  unfold inD
  rw [e]
  rfl
theorem bols_map {α : Type} (f : α → Bool) : ∀ xs : List α, bolsOf (xs.map fun x => .bl (f x)) = some (xs.map f)
  | [] => rfl
  | x :: xs => by
    show (bolsOf _).map (_ :: ·) = _
    rw [bols_map f xs]
    rfl
theorem all_map {α : Type} (f : α → Bool) (xs : List α) : allD [.lst (xs.map fun x => .bl (f x))] = some (.bl (xs.all f)) := by
  unfold allD
  simp only [bols_map, Option.map_some, List.all_map]
  rfl
end DL
/-! ### plain data of a bounded depth: repr, ==, in -/
namespace DL
open PySem
mutual
def wt : D → Nat
  | .str z => z.length
  | .tup ds => wtL ds + 1
  | .lst ds => wtL ds + 1
  | .int _ => 70
  | _ => 1
def wtL : List D → Nat
  | [] => 0
  | d :: ds => wt d + 1 + wtL ds
end
mutual
def nic : Nat → D → Bool
  | _, .non => true
  | _, .bl _ => true
  | _, .int i => decide (i.natAbs < 10 ^ 20)
  | _, .str z => z.all fun c => decide (c < 1114112)
  | n + 1, .tup ds => nicL n ds
  | n + 1, .lst ds => nicL n ds
  | _, _ => false
def nicL : Nat → List D → Bool
  | _, [] => true
  | n, d :: ds => nic n d && nicL n ds
end
mutual
def py : D → PyData
  | .non => .none
  | .bl b => .bool b
  | .int i => .int i
  | .str s => .str ⟨s.toArray⟩
  | .tup ds => .tuple (pyL ds)
  | .lst ds => .list (pyL ds)
  | _ => .none
def pyL : List D → List PyData
  | [] => []
  | d :: ds => py d :: pyL ds
end
mutual
def deq : D → D → Bool
  | .non, .non => true
  | .bl a, .bl b => a == b
  | .bl a, .int j => (if a then 1 else 0) == j
  | .int i, .bl b => i == (if b then 1 else 0)
  | .int i, .int j => i == j
  | .str x, .str y => decide (x = y)
  | .lst xs, .lst ys => deqL xs ys
  | .tup xs, .tup ys => deqL xs ys
  | _, _ => false
def deqL : List D → List D → Bool
  | [], [] => true
  | x :: xs, y :: ys => deq x y && deqL xs ys
  | _, _ => false
end
theorem int20 {i : Int} (h : i.natAbs < 10 ^ 20) : i.natAbs.log2 < 67 := PySem.Flt.log2_lt_of (k := 67) (by decide) (Nat.lt_of_lt_of_le h (by decide))
theorem shown20 {i : Int} (h : i.natAbs < 10 ^ 20) : (PyData.shown (.int i)).length ≤ 21 := by
  have e := int_text_length_le10 (k := 20) (by decide) h
  show (Str.ofString (toString i)).length ≤ 21
  rw [ofString_length]; exact e
structure NicP (n : Nat) (w : Nat) (p : PyData) : Prop where
  lay : p.canLay0 = true
  dep : p.depth ≤ n
  sho : p.showable = true
  lea : p.leavesShort 25 = true
  wei : p.weight ≤ w
  nod : p.hasDict = false
structure NicL (n : Nat) (w : Nat) (p : List PyData) : Prop where
  lay : PyData.canLayAll0 p = true
  dep : PyData.depthAll p ≤ n
  sho : PyData.showableAll p = true
  lea : PyData.leavesShortAll 25 p = true
  wei : PyData.weightAll p ≤ w
  nod : PyData.hasDictAll p = false
mutual
theorem nic_ok : ∀ (n : Nat) (d : D), nic n d = true → toPy d = some (py d) ∧ NicP n (wt d) (py d)
  | n, .non, _ => ⟨by simp [toPy, py], by constructor <;> simp [py, PyData.canLay0, PyData.depth, PyData.showable, PyData.leavesShort, PyData.weight, PyData.hasDict, wt]⟩
  | n, .bl _, _ => ⟨by simp [toPy, py], by constructor <;> simp [py, PyData.canLay0, PyData.depth, PyData.showable, PyData.leavesShort, PyData.weight, PyData.hasDict, wt]⟩
  | n, .int i, h => by
    have h' : i.natAbs < 10 ^ 20 := by simpa [nic] using h
    have hl := int20 h'
    refine ⟨by simp [toPy, py], ?_⟩
    constructor <;> simp [py, PyData.canLay0, PyData.depth, PyData.showable, PyData.leavesShort, PyData.hasDict]
    · omega
    · have := shown20 h'; omega
    · simp only [PyData.weight, wt]
      split <;> omega
  | n, .str z, h => by
    have h' : ∀ c ∈ z, c < 1114112 := by simpa [nic] using h
    refine ⟨by simp [toPy, py], ?_⟩
    constructor <;> simp [py, PyData.canLay0, PyData.depth, PyData.showable, PyData.leavesShort, PyData.hasDict, PyData.strOk, PyData.weight, wt]
    · exact h'
    · intro c hc; have := h' c hc; omega
  | n + 1, .tup ds, h => by
    obtain ⟨e, q⟩ := nicL_ok n ds (by simpa [nic] using h)
    refine ⟨by rw [toPy, e]; simp [py], ?_⟩
    constructor <;> simp only [py, PyData.canLay0, PyData.depth, PyData.showable, PyData.leavesShort, PyData.hasDict, PyData.weight, wt]
    · exact q.lay
    · exact Nat.succ_le_succ q.dep
    · exact q.sho
    · exact q.lea
    · exact Nat.le_succ_of_le q.wei
    · exact q.nod
  | n + 1, .lst ds, h => by
    obtain ⟨e, q⟩ := nicL_ok n ds (by simpa [nic] using h)
    refine ⟨by rw [toPy, e]; simp [py], ?_⟩
    constructor <;> simp only [py, PyData.canLay0, PyData.depth, PyData.showable, PyData.leavesShort, PyData.hasDict, PyData.weight, wt]
    · exact q.lay
    · exact Nat.succ_le_succ q.dep
    · exact q.sho
    · exact q.lea
    · exact Nat.le_succ_of_le q.wei
    · exact q.nod
  | 0, .tup _, h => by simp [nic] at h
  | 0, .lst _, h => by simp [nic] at h
  | n, .dic _ _, h => by simp [nic] at h
  | n, .ins _ _ _, h => by simp [nic] at h
  | n, .scr _, h => by simp [nic] at h
  | n, .xc _ _ _ _, h => by simp [nic] at h
theorem nicL_ok : ∀ (n : Nat) (ds : List D), nicL n ds = true → toPyL ds = some (pyL ds) ∧ NicL n (wtL ds) (pyL ds)
  | n, [], _ => ⟨by simp [toPyL, pyL], by constructor <;> simp [pyL, PyData.canLayAll0, PyData.depthAll, PyData.showableAll, PyData.leavesShortAll, PyData.weightAll, PyData.hasDictAll, wtL]⟩
  | n, d :: ds, h => by
    have h' : nic n d = true ∧ nicL n ds = true := by simpa [nicL] using h
    obtain ⟨e1, q1⟩ := nic_ok n d h'.1
    obtain ⟨e2, q2⟩ := nicL_ok n ds h'.2
    refine ⟨by simp [toPyL, e1, e2, pyL], ?_⟩
    have := q1.wei
    have := q2.wei
    have := q1.dep
    have := q2.dep
    constructor <;> simp only [pyL, PyData.canLayAll0, PyData.depthAll, PyData.showableAll, PyData.leavesShortAll, PyData.weightAll, PyData.hasDictAll, wtL]
    · rw [q1.lay, q2.lay]; rfl
    · omega
    · rw [q1.sho, q2.sho]; rfl
    · rw [q1.lea, q2.lea]; rfl
    · omega
    · rw [q1.nod, q2.nod]; rfl
end
theorem shaped_nic {n : Nat} {d : D} (h : nic n d = true) (hn : n ≤ 60) : toPy d = some (py d) ∧ SeqAt.shaped (py d) = true := by
  obtain ⟨e, q⟩ := nic_ok n d h
  refine ⟨e, ?_⟩
  unfold SeqAt.shaped
  rw [q.lay]
  have := q.dep
  simp only [Bool.true_and, decide_eq_true_eq]
  omega
theorem str_eqv (x y : List Nat) : ((⟨x.toArray⟩ : Str) == ⟨y.toArray⟩) = decide (x = y) := by
  have := str_beq x y
  rw [PyData.eqv] at this
  exact this
mutual
theorem deq_py : ∀ (n m : Nat) (a b : D), nic n a = true → nic m b = true → PyData.eqv (py a) (py b) = deq a b
  | n, m, .non, b, _, hb => by cases b <;> simp [py, PyData.eqv, deq] <;> simp [nic] at hb
  | n, m, .bl x, b, _, hb => by cases b <;> simp [py, PyData.eqv, deq] <;> simp [nic] at hb
  | n, m, .int x, b, _, hb => by cases b <;> simp [py, PyData.eqv, deq] <;> simp [nic] at hb
  | n, m, .str x, b, _, hb => by cases b <;> simp [py, PyData.eqv, deq, str_eqv] <;> simp [nic] at hb
  | n + 1, m, .tup x, b, ha, hb => by
    cases b with
    | tup y =>
      cases m with
      | zero => simp [nic] at hb
      | succ m =>
        simp only [py, PyData.eqv, deq]
        exact deqL_py n m x y (by simpa [nic] using ha) (by simpa [nic] using hb)
    | _ => simp [py, PyData.eqv, deq] <;> simp [nic] at hb
  | n + 1, m, .lst x, b, ha, hb => by
    cases b with
    | lst y =>
      cases m with
      | zero => simp [nic] at hb
      | succ m =>
        simp only [py, PyData.eqv, deq]
        exact deqL_py n m x y (by simpa [nic] using ha) (by simpa [nic] using hb)
    | _ => simp [py, PyData.eqv, deq] <;> simp [nic] at hb
  | 0, m, .tup _, b, h, _ => by simp [nic] at h
  | 0, m, .lst _, b, h, _ => by simp [nic] at h
  | n, m, .dic _ _, b, h, _ => by simp [nic] at h
  | n, m, .ins _ _ _, b, h, _ => by simp [nic] at h
  | n, m, .scr _, b, h, _ => by simp [nic] at h
  | n, m, .xc _ _ _ _, b, h, _ => by simp [nic] at h
theorem deqL_py : ∀ (n m : Nat) (a b : List D), nicL n a = true → nicL m b = true → PyData.eqvAll (pyL a) (pyL b) = deqL a b
  | n, m, [], [], _, _ => by simp [pyL, PyData.eqvAll, deqL]
  | n, m, [], _ :: _, _, _ => by simp [pyL, PyData.eqvAll, deqL]
  | n, m, _ :: _, [], _, _ => by simp [pyL, PyData.eqvAll, deqL]
  | n, m, x :: xs, y :: ys, h, k => by
    have h' : nic n x = true ∧ nicL n xs = true := by simpa [nicL] using h
    have k' : nic m y = true ∧ nicL m ys = true := by simpa [nicL] using k
    simp only [pyL, PyData.eqvAll, deqL]
    rw [deq_py n m x y h'.1 k'.1, deqL_py n m xs ys h'.2 k'.2]
end
theorem eqP_nic {n m : Nat} {a b : D} (ha : nic n a = true) (hb : nic m b = true) (hn : n ≤ 60) (hm : m ≤ 60) : eqP a b = some (deq a b) := by
  have e : eqS a b = some (deq a b) := by
    obtain ⟨e1, s1⟩ := shaped_nic ha hn
    obtain ⟨e2, s2⟩ := shaped_nic hb hm
    unfold eqS
    rw [e1, e2]
    simp only [s1, s2, Bool.and_self, if_true, deq_py n m a b ha hb]
  unfold eqP
  split
  · simp [deq]
  · simp [deq]; rw [Bool.eq_iff_iff]; simp
  · simp [deq]; rw [Bool.eq_iff_iff]; simp
  · simp [deq]
  · exact e
theorem eq_nic {n m : Nat} {a b : D} (ha : nic n a = true) (hb : nic m b = true) (hn : n ≤ 60) (hm : m ≤ 60) : eqD a b = some (.bl (deq a b)) := by unfold eqD; rw [eqP_nic ha hb hn hm]; rfl
theorem ne_nic {n m : Nat} {a b : D} (ha : nic n a = true) (hb : nic m b = true) (hn : n ≤ 60) (hm : m ≤ 60) : neD a b = some (.bl (!deq a b)) := by unfold neD; rw [eqP_nic ha hb hn hm]; rfl
mutual
theorem deq_refl : ∀ (n : Nat) (a : D), nic n a = true → deq a a = true
  | n, .non, _ => by simp [deq]
  | n, .bl _, _ => by simp [deq]
  | n, .int _, _ => by simp [deq]
  | n, .str _, _ => by simp [deq]
  | n + 1, .tup x, h => by simp only [deq]; exact deqL_refl n x (by simpa [nic] using h)
  | n + 1, .lst x, h => by simp only [deq]; exact deqL_refl n x (by simpa [nic] using h)
  | 0, .tup _, h => by simp [nic] at h
  | 0, .lst _, h => by simp [nic] at h
  | n, .dic _ _, h => by simp [nic] at h
  | n, .ins _ _ _, h => by simp [nic] at h
  | n, .scr _, h => by simp [nic] at h
  | n, .xc _ _ _ _, h => by simp [nic] at h
theorem deqL_refl : ∀ (n : Nat) (a : List D), nicL n a = true → deqL a a = true
  | n, [], _ => by simp [deqL]
  | n, x :: xs, h => by
    have h' : nic n x = true ∧ nicL n xs = true := by simpa [nicL] using h
    simp only [deqL, deq_refl n x h'.1, deqL_refl n xs h'.2, Bool.and_self]
end
theorem nicL_iff {n : Nat} : ∀ {ds : List D}, nicL n ds = true ↔ ∀ d ∈ ds, nic n d = true
  | [] => by simp [nicL]
  | d :: ds => by simp [nicL, nicL_iff (ds := ds)]
theorem nic_strs {n : Nat} {zs : List (List Nat)} (h : ∀ z ∈ zs, ∀ c ∈ z, c < 1114112) : nicL n (zs.map .str) = true := nicL_iff.mpr fun d m => by
  obtain ⟨z, hz, rfl⟩ := List.mem_map.mp m
  simpa [nic] using h z hz
theorem deqL_strs : ∀ {A B : List (List Nat)}, deqL (A.map .str) (B.map .str) = decide (A = B)
  | [], [] => by simp [deqL]
  | [], _ :: _ => by simp [deqL]
  | _ :: _, [] => by simp [deqL]
  | a :: A, b :: B => by
    simp only [List.map_cons, deqL, deq, deqL_strs (A := A) (B := B)]
    by_cases h : a = b <;> by_cases k : A = B <;> simp [h, k]
mutual
theorem nic_mono : ∀ (n m : Nat) (d : D), n ≤ m → nic n d = true → nic m d = true
  | n, m, .non, _, _ => by simp [nic]
  | n, m, .bl _, _, _ => by simp [nic]
  | n, m, .int _, _, h => by simpa [nic] using h
  | n, m, .str _, _, h => by simpa [nic] using h
  | n + 1, m + 1, .tup ds, k, h => by
    have := nicL_mono n m ds (by omega) (by simpa [nic] using h)
    simpa [nic] using this
  | n + 1, m + 1, .lst ds, k, h => by
    have := nicL_mono n m ds (by omega) (by simpa [nic] using h)
    simpa [nic] using this
  | n + 1, 0, .tup _, k, h => by omega
  | n + 1, 0, .lst _, k, h => by omega
  | 0, m, .tup _, _, h => by simp [nic] at h
  | 0, m, .lst _, _, h => by simp [nic] at h
  | n, m, .dic _ _, _, h => by simp [nic] at h
  | n, m, .ins _ _ _, _, h => by simp [nic] at h
  | n, m, .scr _, _, h => by simp [nic] at h
  | n, m, .xc _ _ _ _, _, h => by simp [nic] at h
theorem nicL_mono : ∀ (n m : Nat) (ds : List D), n ≤ m → nicL n ds = true → nicL m ds = true
  | n, m, [], _, _ => by simp [nicL]
  | n, m, d :: ds, k, h => by
    have h' : nic n d = true ∧ nicL n ds = true := by simpa [nicL] using h
    simp only [nicL, nic_mono n m d k h'.1, nicL_mono n m ds k h'.2, Bool.and_self]
end
theorem nic_tup {n : Nat} {ds : List D} : nic (n + 1) (.tup ds) = nicL n ds := by simp [nic]
theorem nic_lst {n : Nat} {ds : List D} : nic (n + 1) (.lst ds) = nicL n ds := by simp [nic]
end DL
namespace DL
open PySem PySem.W
/-! ### orders of rows of labels -/
def pr (z : List Nat) : PyData := .tuple [.int z.length, .str ⟨z.toArray⟩]
end DL
namespace FN
open DL
/-! ### rows in their order -/
def okRow (A : List (List Nat)) : Bool := decide (A.length ≤ 20) && A.all (isLab 20)
theorem row_kids (A : List (List Nat)) : ∀ x ∈ kids (.tup (A.map .str)), tyD x ≠ none := fun x m => by
  obtain ⟨z, _, rfl⟩ := List.mem_map.mp (show x ∈ A.map .str from m)
  simp [tyD]
theorem path_row (A : List (List Nat)) : pathD (.tup (A.map .str)) = okRow A := by
  rw [pathD_tup, List.length_map, List.all_map]
  rfl
theorem host_row (A : List (List Nat)) : hostD (.tup (A.map .str)) = (okRow A && !A.isEmpty) := by
  unfold hostD
  rw [path_row]
  cases A <;> rfl
theorem is_host_row (A : List (List Nat)) : m_is_host_45ba [.tup (A.map .str)] = .ok (.bl (okRow A && !A.isEmpty)) := by
  rw [is_host_ok (d := .tup (A.map .str)) rfl (row_kids A), host_row]
/-! ### drawn labels -/
theorem isLab_iff {n : Nat} {z : List Nat} : isLab n z = true ↔ 1 ≤ z.length ∧ z.length ≤ n ∧ ∀ c ∈ z, c ∈ CH := by
  unfold isLab
  simp
theorem ch_lt {c : Nat} (h : c ∈ CH) : c < 1114112 := by
  have : ∀ x ∈ CH, x < 1114112 := by decide
  exact this c h
theorem lab_tx {z : List Nat} (h : isLab 20 z = true) : Tx 20 z := ⟨(isLab_iff.mp h).2.1, fun c m => ch_lt ((isLab_iff.mp h).2.2 c m)⟩
end FN
/-! ### pages: shared mirrors and what they do -/
namespace FN
open DL
end FN
namespace FN
open DL PySem PySem.W
theorem abs_i {i : Int} : absD [.int i] = some (.int (if i < 0 then -i else i)) := rfl
theorem ix_str {z : List Nat} {i : Int} (h0 : 0 ≤ i) (h : i < z.length) : ∃ c, c ∈ z ∧ ixD (.str z) (.int i) = some (.str [c]) := by
  refine ⟨z[i.toNat]'(by omega), List.getElem_mem _, ?_⟩
  unfold ixD L2.atI
  simp only [ixN_ok h0 h]
  show Option.map (fun c => D.str [c]) (z[i.toNat]?) = _
  rw [List.getElem?_eq_getElem (by omega)]
  rfl
theorem tup_lst {ds : List D} : tupleD [.lst ds] = some (.tup ds) := rfl
theorem sub_ii {i j : Int} : subD (.int i) (.int j) = some (.int (i - j)) := rfl
theorem eqi {i j : Int} : (eqD (.int i) (.int j)).bind bOf = some (decide (i = j)) := rfl
def Sm (n W : Nat) (d : D) : Prop := nic n d = true ∧ wt d ≤ W
theorem Sm.mono {n m W V : Nat} {d : D} (h : Sm n W d) (h1 : n ≤ m) (h2 : W ≤ V) : Sm m V d := ⟨nic_mono n m d h1 h.1, Nat.le_trans h.2 h2⟩
theorem join_tup {S : List Nat} {ps : List (List Nat)} (h : (ps.map (·.length)).sum + ps.length * S.length ≤ 16777216) : joinD (.str S) (.tup (ps.map .str)) = some (.str (joinN S ps)) := by
  unfold joinD
  show (match strsOf (ps.map .str) with | some ps => _ | none => _) = _
  rw [strs_map]
  exact if_pos h
theorem sum_le {A : List (List Nat)} {k : Nat} (h : ∀ z ∈ A, z.length ≤ k) : (A.map (·.length)).sum ≤ A.length * k := by
  induction A with
  | nil => simp
  | cons z A ih =>
    have h1 := h z (.head _)
    have h2 := ih fun w m => h w (.tail _ m)
    rw [List.map_cons, List.sum_cons, List.length_cons, Nat.succ_mul]
    omega
theorem le_l {i j : Int} : leD (.int i) (.int j) = some (.bl (decide (i ≤ j))) := rfl
theorem row_sum {A : List (List Nat)} (h : okRow A = true) : A.length ≤ 20 ∧ (A.map (·.length)).sum ≤ 400 := by
  simp only [okRow, Bool.and_eq_true, decide_eq_true_eq, List.all_eq_true] at h
  have := sum_le (A := A) (k := 20) fun z m => (lab_tx (h.2 z m)).1
  exact ⟨h.1, by omega⟩
end FN
/-! ### pages read and compared: shared mirrors and what they do -/
namespace FN
open DL
end FN
namespace FN
open DL PySem PySem.W
section
variable {w w' : List Nat} {A A' B B' : List (List Nat)} {i i' : Int}
def pre (w : List Nat) (A : List (List Nat)) : List Nat := w ++ [58, 47, 47] ++ joinN [46] A
theorem join_row2 {S : List Nat} {A : List (List Nat)} (h : okRow A = true) (hS : S.length ≤ 1) : joinD (.str S) (.tup (A.map .str)) = some (.str (joinN S A)) ∧ (joinN S A).length ≤ 1000 := by
  obtain ⟨h1, h2⟩ := row_sum h
  have h3 : A.length * S.length ≤ 20 * 1 := Nat.mul_le_mul h1 hS
  refine ⟨join_tup (by omega), ?_⟩
  have := joinN_len S A
  omega
theorem join_tx {S : Nat} {A : List (List Nat)} (h : okRow A = true) (hS : S < 1114112) : ∀ c ∈ joinN [S] A, c < 1114112 := by
  simp only [okRow, Bool.and_eq_true, decide_eq_true_eq, List.all_eq_true] at h
  have hA := h.2
  clear h
  induction A with
  | nil => intro c hc; cases hc
  | cons z A ih =>
    have hz := (lab_tx (hA z (.head _))).2
    have ih' := ih fun w m => hA w (.tail _ m)
    cases A with
    | nil => intro c hc; exact hz c (by simpa [joinN] using hc)
    | cons y A =>
      intro c hc
      rw [joinN] at hc
      rcases List.mem_append.mp hc with hc | hc
      · exact hz c hc
      · rcases List.mem_append.mp hc with hc | hc
        · rw [List.mem_singleton.mp hc]; exact hS
        · exact ih' c hc
theorem row_of (h1 : A.length ≤ 20) (h2 : ∀ z ∈ A, isLab 20 z = true) : okRow A = true := by
  simp only [okRow, Bool.and_eq_true, decide_eq_true_eq, List.all_eq_true]; exact ⟨h1, h2⟩
theorem ch_free {s : Nat} (h : ¬ s ∈ CH) {z : List Nat} (hz : isLab 20 z = true) : s ∉ z := fun m => h ((isLab_iff.mp hz).2.2 s m)
theorem split_ok {s : Nat} (hs : s < 256) (hc : ¬ s ∈ CH) (hA : ∀ z ∈ A, isLab 20 z = true) (h0 : A ≠ []) (hl : (joinN [s] A).length ≤ 1000000) : splitD (.str (joinN [s] A)) (.str [s]) = some (A.map .str) := by
  show (if s < 256 ∧ (joinN [s] A).length ≤ 1000000 then some ((TL.spl [s] 0 [] (joinN [s] A)).map D.str) else none) = _
  rw [if_pos ⟨hs, hl⟩, joinN_eq, TL.spl_join h0 fun p m => ch_free hc (hA p m)]
end
end FN
/-! ### text.replace(a, b, 1): a token is out -/
namespace DL
open PySem PySem.Spec PyProof.Rows L2
end DL
/-! ### texts cut and glued, ports of any text, rows: shared lemmas -/
namespace FN
open DL PySem PySem.W
theorem spl_len {S : List Nat} : ∀ (z : List Nat) (k : Nat) (acc : List Nat), (TL.spl S k acc z).length ≤ z.length + 1
  | [], k, acc => by rw [TL.spl_nil]; simp
  | x :: r, 0, acc => by
    by_cases hp : TL.pre S (x :: r) = true
    · rw [TL.spl_hit hp]
      have := spl_len (S := S) r (S.length - 1) []
      simp only [List.length_cons]; omega
    · rw [TL.spl_miss (by simpa using hp)]
      have := spl_len (S := S) r 0 (acc ++ [x])
      simp only [List.length_cons]; omega
  | x :: r, k + 1, acc => by
    have := spl_len (S := S) r k acc
    simp only [List.length_cons]
    show (TL.spl S k acc r).length ≤ _
    omega
theorem any_py {n m : Nat} {a : D} (ha : nic n a = true) : ∀ {ds : List D}, nicL m ds = true → ((pyL ds).any fun z => PyData.eqv z (py a)) = ds.any fun y => deq y a
  | [], _ => rfl
  | d :: ds, h => by
    have h' : nic m d = true ∧ nicL m ds = true := by simpa [nicL] using h
    simp only [pyL, List.any_cons, deq_py m n d a h'.1 ha, any_py (m := m) ha h'.2]
theorem in_nic {n m : Nat} {a : D} {ds : List D} (ha : nic n a = true) (hb : nicL m ds = true) (hn : n ≤ 60) (hm : m ≤ 59) : inP a (.lst ds) = some (ds.any fun y => deq y a) := by
  obtain ⟨e1, s1⟩ := shaped_nic ha hn
  have hb' : nic (m + 1) (.lst ds) = true := hb
  obtain ⟨e2, s2⟩ := shaped_nic hb' (by omega)
  have e : inP a (.lst ds) = match toPy a, toPy (.lst ds) with
    | some x, some (.list ys) => if SeqAt.shaped x && SeqAt.shaped (.list ys) then some (ys.any fun z => PyData.eqv z x) else none
    | _, _ => none := by
    unfold inP
    cases a with
    | str s => rcases s with _ | ⟨c, _ | _⟩ <;> rfl
    | _ => rfl
  have e3 : py (.lst ds) = .list (pyL ds) := rfl
  rw [e, e1, e2, e3]
  rw [e3] at s2
  show (if (SeqAt.shaped (py a) && SeqAt.shaped (.list (pyL ds))) = true then some ((pyL ds).any fun z => PyData.eqv z (py a)) else none) = _
  rw [if_pos (by rw [s1, s2]; rfl), any_py ha hb]
theorem sqp {α β γ : Type} {a : α} {k : α → R (Fl γ β)} : seqF (pure (Fl.nx a) : R (Fl α β)) k = k a := rfl
theorem noexM {α : Type} {a : α} : (Mo.noex (pure a : M α) : M α) = pure a := rfl
theorem isLab_up {n m : Nat} {z : List Nat} (h : isLab n z = true) (w : n ≤ m) : isLab m z = true := by
  obtain ⟨a, b, c⟩ := isLab_iff.mp h
  exact isLab_iff.mpr ⟨a, by omega, c⟩
def Rn (l n : Nat) (d : D) : Prop := ∃ A : List (List Nat), d = .tup (A.map .str) ∧ l ≤ A.length ∧ A.length ≤ n ∧ ∀ z ∈ A, isLab 20 z = true
theorem Rn.up {l n m : Nat} {d : D} (h : Rn l n d) (w : n ≤ m) : Rn l m d := by
  obtain ⟨A, a, b, c, e⟩ := h
  exact ⟨A, a, b, by omega, e⟩
end FN
/-! ### an __init__ that says super().__init__(..) and nothing else -/
namespace DL
open PySem PySem.Spec PyProof.Rows L2 NdefX ClX
end DL
/-! ### self.a, x, .. = e; objects of classes whose __init__ says super().__init__(..) -/
namespace DL
open PySem PySem.Spec PyProof.Rows L2
end DL
/-! ### list(zip(a, b)) of two tuples -/
namespace DL
open PySem PySem.Spec PyProof.Rows PySem.Calls L2 RZ
section
variable {prog : Program} {w : World} {A : Around} {E : Value → Shared → Prop} {s : Shared}
/-- a zip of two tuples, k of its pairs given out, all of them still held -/
structure ZpSt (h : Heap) (z TI TO i1 i2 l1 l2 S : Addr) (xs ys : Array Value) (k : Nat) : Prop where
  ti : IsPair h TI (.ref i1) (.ref i2)
  a1 : h.IsTupleIter i1 l1 k
  a2 : h.IsTupleIter i2 l2 k
  b1 : h.IsTuple l1 xs
  b2 : h.IsTuple l2 ys
  st : (IsZip h z TI TO .none ∧ IsPair h TO .none .none) ∨ ∃ T f oT, IsZipHeld h z TI TO T f ∧ h.get? T = some oT ∧ T ≠ z ∧ T ≠ i1 ∧ T ≠ i2 ∧ T ≠ S
structure ZpOff (z TI TO i1 i2 l1 l2 S : Addr) : Prop where
  z : z ≠ S
  TI : TI ≠ S
  TO : TO ≠ S
  i1 : i1 ≠ S
  i2 : i2 ≠ S
  l1 : l1 ≠ S
  l2 : l2 ≠ S
theorem ZpSt.keep {h h' : Heap} {z TI TO i1 i2 l1 l2 S : Addr} {xs ys : Array Value} {k : Nat} (o : ZpOff z TI TO i1 i2 l1 l2 S) (a : ZpSt h z TI TO i1 i2 l1 l2 S xs ys k) (hk : ∀ b o, b ≠ S → h.get? b = some o → h'.get? b = some o) : ZpSt h' z TI TO i1 i2 l1 l2 S xs ys k :=
  ⟨hk _ _ o.TI a.ti, a.a1.at fun u e => hk _ u o.i1 e, a.a2.at fun u e => hk _ u o.i2 e, a.b1.at fun u e => hk _ u o.l1 e, a.b2.at fun u e => hk _ u o.l2 e, by
    rcases a.st with ⟨h1, h2⟩ | ⟨T, f, oT, h1, h2, n1, n2, n3, n4⟩
    · exact .inl ⟨hk _ _ o.z h1, hk _ _ o.TO h2⟩
    · exact .inr ⟨T, f, oT, hk _ _ o.z h1, hk _ _ n4 h2, n1, n2, n3, n4⟩⟩
end
/-- the addresses as hold the pairs ps, in order, above lo -/
structure ZpG (ps : List (Value × Value)) (lo : Addr) (h : Heap) (as : List Addr) : Prop where
  rise : as.Pairwise (· < ·)
  above : ∀ a ∈ as, lo < a
  pairs : ∀ (j : Nat) (a : Addr), as[j]? = some a → ∃ p, ps[j]? = some p ∧ h.get? a = some { cls := .type "tuple", data := .seq #[p.1, p.2] }
theorem ZpG.there {ps : List (Value × Value)} {lo : Addr} {h : Heap} {as : List Addr} (g : ZpG ps lo h as) {a : Addr} (ha : a ∈ as) : a < h.objs.size := by
  obtain ⟨j, hj⟩ := List.mem_iff_getElem?.mp ha
  obtain ⟨_, _, e⟩ := g.pairs j a hj
  exact Heap.lt_size e
/-! the tracked heap -/
end DL
/-! ### text.count, text.find; a field set again; what is never reached -/
namespace DL
open PySem PySem.Spec PyProof.Rows L2
/-! calls of defs with keywords and defaults -/
/-! the facts of an __init__ that is super().__init__ -/
end DL
namespace DL
open PySem PySem.Spec PyProof.Rows L2
/-! an __init__ without defaults, called by names -/
/-! text.lstrip(signs) -/
end DL
/-! ### list.index of a list of texts -/
namespace DL
open PySem PySem.Spec PyProof.Rows L2
end DL
/-! ### patterns and rules: mirrors, texts, draws -/
namespace FN
open DL
def c_HOST : D := (.str [104, 111, 115, 116])
end FN
namespace FN
open DL PySem PySem.W
/-! ### texts of patterns -/
/-- an item of a pattern, not the gap -/
def isIt (z : List Nat) : Bool := decide (1 ≤ z.length) && decide (z.length ≤ 8) && decide (z.count 42 ≤ 1) && z.all fun c => decide (c = 42) || decide (c ∈ CH)
def gp : List Nat := [42, 42]
theorem cut_toD {z : List D} {n : Nat} : cutL z none (some (n : Int)) = z.take n := by rw [cut_hi (by omega)]; rfl
/-- items of a pattern: its head, its tail, whether a gap is between them -/
def PatI (l0 l1 mh mt : Nat) (I h t : List (List Nat)) (g : Bool) : Prop := (∀ z ∈ h ++ t, isIt z = true) ∧ ((g = false ∧ I = h ∧ t = [] ∧ l0 ≤ h.length ∧ h.length ≤ l1) ∨ (g = true ∧ I = h ++ gp :: t ∧ h.length ≤ mh ∧ t.length ≤ mt))
theorem pat_mem {l0 l1 mh mt : Nat} {I h t : List (List Nat)} {g : Bool} (p : PatI l0 l1 mh mt I h t g) : ∀ z ∈ I, z = gp ∨ isIt z = true := by
  obtain ⟨hz, ⟨rfl, rfl, rfl, h0, h1⟩ | ⟨rfl, rfl, h0, h1⟩⟩ := p
  · exact fun z m => .inr (hz z (by simpa using m))
  · intro z m
    rcases List.mem_append.mp m with m | m
    · exact .inr (hz z (List.mem_append_left _ m))
    · rcases List.mem_cons.mp m with m | m
      · exact .inl m
      · exact .inr (hz z (List.mem_append_right _ m))
theorem it_len {z : List Nat} (h : z = gp ∨ isIt z = true) : z.length ≤ 8 := by
  rcases h with rfl | h
  · decide
  · unfold isIt at h
    simp only [Bool.and_eq_true, decide_eq_true_eq] at h
    exact h.1.1.2
theorem join_len {s : Nat} : ∀ {I : List (List Nat)}, (∀ z ∈ I, z.length ≤ 8) → (joinN [s] I).length ≤ 9 * I.length
  | [], _ => Nat.zero_le _
  | [p], h => by
    show p.length ≤ 9 * 1
    have := h p (.head _)
    omega
  | p :: q :: r, h => by
    show (p ++ ([s] ++ joinN [s] (q :: r))).length ≤ _
    have ih := join_len (s := s) (I := q :: r) fun z m => h z (.tail _ m)
    have := h p (.head _)
    simp only [List.length_append, List.length_cons, List.length_nil] at ih ⊢
    omega
/-! ### rules of all pages: their ports -/
def PNs : List Str := ["text", "level", "head", "tail", "gap"]
def ptF (x : List Nat) (lv : D) (h t : List (List Nat)) (g : Bool) : List D := [.str x, lv, .tup (h.map .str), .tup (t.map .str), .bl g]
/-- a rule's host part: its name, near, host -/
inductive NmK : List Nat → D → D → Prop
  | near {A : List (List Nat)} (h0 : A ≠ []) (hl : A.length ≤ 4) (hA : ∀ z ∈ A, isLab 20 z = true) : NmK (126 :: joinN [46] A) (.tup (A.map .str)) .non
  | host {I h t : List (List Nat)} {g : Bool} (p : PatI 1 4 3 2 I.reverse h t g) (h0 : I ≠ []) (hl : I.length ≤ 10) : NmK (joinN [46] I) .non (.ins "HostPattern" PNs (ptF (joinN [46] I) c_HOST h t g))
theorem nm_len {nm : List Nat} {n h : D} (k : NmK nm n h) : nm.length ≤ 1000 := by
  cases k with
  | near h0 hl hA =>
    have hr : okRow _ = true := row_of (by omega) hA
    have e : ∀ {A : List (List Nat)}, (∀ z ∈ A, z.length ≤ 20) → (joinN [46] A).length ≤ 21 * A.length := by
      intro A
      induction A with
      | nil => intro _; exact Nat.zero_le _
      | cons z r ih =>
        intro h
        cases r with
        | nil =>
          show z.length ≤ 21 * 1
          have := h z (.head _)
          omega
        | cons q r =>
          show (z ++ ([46] ++ joinN [46] (q :: r))).length ≤ _
          have := ih fun z m => h z (.tail _ m)
          have := h z (.head _)
          simp only [List.length_append, List.length_cons, List.length_nil] at *
          omega
    have := e fun z m => (lab_tx (hA z m)).1
    simp only [List.length_cons]
    have hl' := hl
    omega
  | host p h0 hl =>
    have := join_len (s := 46) fun z m => it_len (pat_mem p z (by simpa using m))
    omega
theorem ch36 : CH.length = 36 := rfl
def Lab8 (zs : List (List Nat)) : Prop := zs ≠ [] ∧ zs.length ≤ 10 ∧ ∀ z ∈ zs, isLab 20 z = true
theorem all2_P {P : List Nat → Prop} : ∀ {ds rs : List D}, All2 (fun _ r => ∃ z, r = D.str z ∧ P z) ds rs → ∃ A : List (List Nat), rs = A.map .str ∧ A.length = ds.length ∧ ∀ z ∈ A, P z
  | [], [], _ => ⟨[], rfl, rfl, by simp⟩
  | [], _ :: _, h => by cases h
  | _ :: _, [], h => by cases h
  | d :: ds, r :: rs, h => by
    cases h with
    | cons h1 h2 =>
      obtain ⟨z, rfl, hz⟩ := h1
      obtain ⟨A, rfl, hl, hA⟩ := all2_P h2
      exact ⟨z :: A, rfl, by simp [hl], fun x m => by
        rcases List.mem_cons.mp m with rfl | m
        · exact hz
        · exact hA x m⟩
/-- what is drawn of hosts -/
inductive HpD : D → List Nat → D → D → Prop
  | near {A : List (List Nat)} (h0 : A ≠ []) (hl : A.length ≤ 4) (hA : ∀ z ∈ A, isLab 20 z = true) : HpD (.tup [.str [126], .tup (A.map .str)]) (126 :: joinN [46] A) (.tup (A.map .str)) .non
  | host {I h t : List (List Nat)} {g : Bool} (p : PatI 1 4 3 2 I.reverse h t g) (h0 : I ≠ []) (hl : I.length ≤ 10) : HpD (.tup [.str [], .lst (I.map .str)]) (joinN [46] I) .non (.ins "HostPattern" PNs (ptF (joinN [46] I) c_HOST h t g))
theorem HpD.nm {d : D} {nm : List Nat} {n h : D} (k : HpD d nm n h) : NmK nm n h := by
  cases k with
  | near h0 hl hA => exact .near h0 hl hA
  | host p h0 hl => exact .host p h0 hl
theorem sum_le8 {I : List (List Nat)} {k : Nat} (h : ∀ z ∈ I, z.length ≤ k) (hl : I.length ≤ 1000) (hk : k ≤ 100) : (I.map (·.length)).sum + I.length * 1 ≤ 16777216 := by
  have := sum_le h
  have : I.length * k ≤ 1000 * 100 := Nat.mul_le_mul hl hk
  omega
theorem HpD.join {d : D} {nm : List Nat} {n h : D} (k : HpD d nm n h) : ∃ p x r j, d = .tup [.str p, x] ∧ listD [x] = some r ∧ szL r = some r ∧ joinD (.str [46]) (.lst r) = some (.str j) ∧ nm = p ++ j ∧ p.length ≤ 1 ∧ j.length ≤ 1000 := by
  have hn := nm_len k.nm
  cases k with
  | @near A h0 hl hA =>
    refine ⟨[126], .tup (A.map .str), A.map .str, joinN [46] A, rfl, rfl, sz_ok (by rw [List.length_map]; omega), join_ok (sum_le8 (k := 20) (fun z m => (isLab_iff.mp (hA z m)).2.1) (by omega) (by omega)), rfl, by simp, ?_⟩
    simp only [List.length_cons] at hn
    omega
  | @host I h t g p h0 hl =>
    exact ⟨[], .lst (I.map .str), I.map .str, joinN [46] I, rfl, rfl, sz_ok (by rw [List.length_map]; omega), join_ok (sum_le8 (k := 8) (fun z m => it_len (pat_mem p z (by simpa using m))) (by omega) (by omega)), rfl, by simp, hn⟩
end FN
/-! ### own list += list; methods called with keywords; isinstance of two types -/
namespace DL
open PySem PySem.Spec PyProof.Rows L2
section
variable {X : Cx} {fx : Fx} {m : Type → Type} [Mo m] {G : List Sl} {α β : Type} {kk : Nat} {e : Expr} {rest : List Stmt} {ex : α → List Sl} {exb : β → List Sl} {pos : Pos} {x : m D}
theorem dss_augL {n : Str} {pos' : Pos} {k : List D → m (Fl α β)} {ds0 : List D} (C : Cok X fx kk) (i : Nat) (he : PE X e (tE X.K X.mg fx G x)) (hr : ∀ ds, PSs X rest (tS X.K X.mg fx (G.set i (.ow ds)) ex exb (k ds)))
    (hG : G[i]? = some (.ow ds0) := by rfl) (hi : X.N[i]? = some n := by rfl) (hx : Loc X.env.scope n := by first | exact Or.inl rfl | exact Or.inr rfl) (hf : X.fn n = true ∨ X.env.scope.names.lookup n = some .local := by first | exact .inl rfl | exact .inr rfl) (hg : GxOk fx G := by first | exact True.intro | repeat' (first | exact True.intro | exact Or.inl rfl | exact Or.inr rfl | refine And.intro ?_ ?_)) :
    PSs X (.AugAssign (.Name n pos') .Add e pos :: rest) (tS X.K X.mg fx G ex exb (do let d ← x; let r ← DL.ask (extI ds0 [d]); k r)) :=
  pssI (pss_cons (ps_aug (ti := rExt2) C.nd hi hx he (fun pins s σ H x y v u Q => iop_ext pins s σ H x y v u Q) hf) (pss_ex hr)) fun De σ H ⟨Hf, s, h⟩ => by
    obtain ⟨p, vs, ep, hp, hf', h0, nb, l, hz⟩ := h.1.sl i _ hG
    have hi' : i < G.length := (List.getElem?_eq_some_iff.mp hG).1
    have hsl := h.1.len
    refine ⟨.ref p, ep, ((h.bind hg).mono fun v H1 ⟨d, Hf1, s1, sb, r, h1⟩ => ?_).to⟩
    have w1 := Mo.wp_lift (Mo.wp_bind h1.2)
    have st1 := h1.1
    obtain ⟨p1, vs1, ep1, hp1, hf1, _, _, l1, hz1⟩ := st1.sl i _ hG
    have eq : p1 = p := by rw [ep] at ep1; cases ep1; rfl
    subst eq
    cases d with
    | lst fs =>
      by_cases hc : ds0.length + fs.length ≤ sizeLine
      · have e2 : extI ds0 [.lst fs] = some (ds0 ++ fs) := if_pos hc
        rw [e2] at w1
        obtain ⟨hz2, p2, w2, rfl, t2, l2⟩ := r
        refine ⟨p1, p2, vs1, w2, rfl, rfl, hp1, st1.top _ _ t2, by rw [← l1.len, ← l2.len]; exact hc, ?_⟩
        have e1 : σ.set i (some (.ref p1)) = σ := by
          apply List.ext_getElem?
          intro j
          by_cases c : i = j
          · subst c
            rw [List.getElem?_set_self (by rw [hsl]; exact hi'), ep]
          · rw [List.getElem?_set_ne c]
        show ∃ r, tS X.K X.mg fx (G.set i (.ow r)) ex exb (k r) De (σ.set i (some (.ref p1))) (upd H1 p1 (.lst (vs1 ++ w2)))
        rw [e1]
        exact ⟨ds0 ++ fs, Hf1, s1, st1.updOw hG ep (l1.app l2) (by rw [List.length_append]; exact hc), w1⟩
      · have e2 : extI ds0 [.lst fs] = none := if_neg hc
        rw [e2] at w1
        exact w1.elim
    | _ => exact w1.elim
end
section
variable {X : Cx} {fx : Fx} {m : Type → Type} [Mo m] {G : List Sl} {α β : Type} {ss : List Stmt} {ex : α → List Sl} {exb : β → List Sl}
/-- a block whose mirror has a name -/
theorem pss_k {k k' : m (Fl α β)} (e : k = k') (h : PSs X ss (tS X.K X.mg fx G ex exb k')) : PSs X ss (tS X.K X.mg fx G ex exb k) := by
  rw [e]
  exact h
end
section
variable {X : Cx} {fx : Fx} {m : Type → Type} [Mo m] {G : List Sl} {e : Expr} {p p1 p2 pt pos : Pos} {x : m D} {k : Nat}
def isi2D (T1 T2 : String) (d : D) : Option D := match tyD d with
  | some a => match kitB a T1, kitB a T2 with
    | some b, some c => some (.bl (b || c))
    | _, _ => none
  | none => none
theorem de_isi2 (T1 T2 : String) {n1 n2 : Str} (he : PE X e (tE X.K X.mg fx G x)) (hg : Gl X "isinstance") (hm : X.mg "isinstance" = none) (hg1 : Gl X n1) (hm1 : X.mg n1 = none) (hv1 : bootBuiltins n1 = some (.type T1)) (hg2 : Gl X n2) (hm2 : X.mg n2 = none) (hv2 : bootBuiltins n2 = some (.type T2))
    (hn1 : n1 ≠ "__name__" := by decide) (hdb1 : (n1 == ("__debug__" : Str)) = false := by decide) (hn2 : n2 ≠ "__name__" := by decide) (hdb2 : (n2 == ("__debug__" : Str)) = false := by decide)
    (hs : starEach [e, .Tuple [.Name n1 p1, .Name n2 p2] k pt] X.env = (false, eval e X.env) :: starEach [.Tuple [.Name n1 p1, .Name n2 p2] k pt] X.env := by rfl) (hs2 : starEach [.Tuple [.Name n1 p1, .Name n2 p2] k pt] X.env = (false, eval (.Tuple [.Name n1 p1, .Name n2 p2] k pt) X.env) :: starEach [] X.env := by rfl)
    (hs3 : starEach [.Name n1 p1, .Name n2 p2] X.env = (false, eval (.Name n1 p1) X.env) :: starEach [.Name n2 p2] X.env := by rfl) (hs4 : starEach [.Name n2 p2] X.env = (false, eval (.Name n2 p2) X.env) :: starEach [] X.env := by rfl)
    (hpl : (backTo pos (starEach [.Tuple [.Name n1 p1, .Name n2 p2] k pt] X.env)).any (·.1) = false := by rfl) :
    PE X (.Call (.Name "isinstance" p) [e, .Tuple [.Name n1 p1, .Name n2 p2] k pt] [] pos) (tE X.K X.mg fx G (do let d ← x; ask (isi2D T1 T2 d))) :=
  peI (pe_callB call_isiT hg hm rfl (pa_cons he (pa_cons (pe_tup (pa_cons (pe_bltn (v := .ty T1) hg1 hm1 hv1 rfl hn1 hdb1) (pa_cons (pe_bltn (v := .ty T2) hg2 hm2 hv2 rfl hn2 hdb2) pa_nil hs4) hs3)) pa_nil hs2) hs) (by decide) (by decide) hs hpl) fun σ H Q ⟨Hf, s, h⟩ =>
  (h.bind.mono fun v1 H1 ⟨d1, Hf1, s1, sb1, r1, h1⟩ => by
    obtain ⟨d, e, q⟩ := h1.ask
    unfold isi2D at e
    cases e1 : tyD d1 with
    | none => rw [e1] at e; cases e
    | some a =>
      simp only [e1] at e
      cases e2 : kitB a T1 with
      | none => rw [e2] at e; cases e
      | some b =>
        cases e3 : kitB a T2 with
        | none => rw [e2, e3] at e; cases e
        | some c =>
          rw [e2, e3] at e
          cases e
          refine ⟨(by show 2 ≤ sizeLine; decide), fun t ht => ?_⟩
          have sn : Ste ([] : List Addr) Hf1 H1 Hf1 (upd H1 t (.tup [.ty T1, .ty T2])) := Ste.new' h1.1.top ht
          refine ⟨v1, t, [.ty T1, .ty T2], _, [.type T1, .type T2], (b || c), rfl, upd_same, .cons (.ty T1) (.cons (.ty T2) .nil), tyD_is sn.top r1 e1, ?_, q _ Hf1 _ sn (is_bl _)⟩
          exact kitAny_cons (kit_ty e2) (fun z => by subst z; rw [Bool.false_or]; exact kitAny_cons (kit_ty e3) (fun z => by subst z; rfl) (fun z => z)) (fun z => by subst z; rfl)).to
end
end DL
/-! ### enumerate of a tuple -/
namespace DL
open PySem PySem.Spec PyProof.Rows L2
end DL
/-! ### rules and rows: mirrors, what fits (k40, k42, k43) -/
namespace FN
open DL PySem PySem.W
/-! ### labels and rows that patterns match -/
theorem notin_L {k : Nat} {z : List Nat} {S : List (List Nat)} (h : Tx k z) (hz : ∀ w ∈ S, Tx 1000 w) : (notInD (.str z) (.lst (S.map .str))).bind bOf = some (!decide (z ∈ S)) := by
  have e := in_strs h hz
  unfold inD at e
  unfold notInD
  cases q : inP (.str z) (.lst (S.map .str)) with
  | none => rw [q] at e; cases e
  | some b =>
    rw [q] at e
    cases e
    rfl
theorem strs_map : ∀ A : List (List Nat), strsOf (A.map D.str) = some A
  | [] => rfl
  | z :: r => by
    show (strsOf (r.map D.str)).map (z :: ·) = _
    rw [strs_map r]
    rfl
/-! ### hosts, backwards -/
theorem chain_ii {a b c : Int} : (chainM leD leD (pure (.int a)) (pure (.int b)) (pure (.int c)) : R D) = .ok (.bl (decide (a ≤ b) && decide (b ≤ c))) := by
  unfold chainM
  simp only [le_l, askR, pure_bind]
  cases h : decide (a ≤ b)
  · rfl
  · rfl
def Labs (R : List (List Nat)) : Prop := ∀ z ∈ R, isLab 20 z = true
end FN
/-! ### tables and groups: mirrors (k40, k42) -/
namespace FN
open DL PySem PySem.W
def c_LEAST_OF_GROUP : D := (.int (2))
def c_MOST_GROUPS : D := (.int (4))
def c_MOST_LABELS_OF_MEMBER : D := (.int (3))
def c_MOST_OF_GROUP : D := (.int (4))
def b_ends_with_d715 (a0 a1 : D) : R (Fl Unit Empty) := (do let v24 ← (andV (do let x7 ← (do let r3 ← (do let x1 ← (pure a0); let r2 ← pure []; pure (x1 :: r2)); DL.ask (lenD r3)); let y8 ← (do let r6 ← (do let x4 ← (pure a1); let r5 ← pure []; pure (x4 :: r5)); DL.ask (lenD r6)); DL.ask (geD x7 y8)) (do let x22 ← (do let x19 ← (pure a0); let l20 ← (do let x17 ← (do let x15 ← (do let r11 ← (do let x9 ← (pure a0); let r10 ← pure []; pure (x9 :: r10)); DL.ask (lenD r11)); let y16 ← (do let r14 ← (do let x12 ← (pure a1); let r13 ← pure []; pure (x12 :: r13)); DL.ask (lenD r14)); DL.ask (subD x15 y16)); let i18 ← DL.ask (intOf x17); pure (some i18)); let u21 ← (pure none); DL.ask (sliceD x19 l20 u21)); let y23 ← (pure a1); DL.ask (eqD x22 y23))); pure (.rt v24))
def m_ends_with_d715 : List D → R D := apR2 fun a0 a1 => (runR false (b_ends_with_d715 a0 a1))
theorem n_ends_with_d715 : ∀ ds : List D, m_ends_with_d715 ds ≠ .stuck → ds.length = 2 := apR2_len _
def b_member_and_head_c6a4 (a0 a1 : D) : R (Fl Unit Empty) := (do let v1 ← (pure .non); (do let r41 ← (do let r2 ← (pure a0); DL.ask (itD r2)); seqF (forF (fun d => some d) (fun (q3 : D) (c4 : D) => (do let r38 ← (do let r5 ← (pure c4); DL.ask (itD r5)); seqF (forF (fun d => some d) (fun (q6 : D) (c7 : D) => (do let t36 ← (DL.andM (do let x13 ← (do let r12 ← (do let x10 ← (pure a1); let r11 ← (do let x8 ← (pure c7); let r9 ← pure []; pure (x8 :: r9)); pure (x10 :: r11)); Mo.lift (m_ends_with_d715 r12)); DL.ask (truD x13)) (DL.orM (do let x14 ← (pure q6); let y15 ← (pure .non); DL.ask ((isD x14 y15).bind bOf)) (do let x24 ← (do let r18 ← (do let x16 ← (pure c7); let r17 ← pure []; pure (x16 :: r17)); DL.ask (lenD r18)); let y25 ← (do let r23 ← (do let x21 ← (do let x19 ← (pure q6); let y20 ← (pure (.int 0)); DL.ask (ixD x19 y20)); let r22 ← pure []; pure (x21 :: r22)); DL.ask (lenD r23)); DL.ask ((gtD x24 y25).bind bOf)))); seqF (if t36 = true then (do let v27 ← (do let r34 ← (do let x32 ← (pure c7); let r33 ← (do let x30 ← (do let x28 ← (pure c4); let y29 ← (pure (.int 0)); DL.ask (ixD x28 y29)); let r31 ← pure []; pure (x30 :: r31)); pure (x32 :: r33)); let r35 ← DL.ask (szL r34); pure (.tup r35)); (pure (.nx v27))) else (pure (.nx q6))) fun (q26 : D) => (pure (.nx q26)))) r38 q3) fun (q37 : D) => (pure (.nx q37)))) r41 v1) fun (q39 : D) => (do let v40 ← (pure q39); pure (.rt v40))))
def m_member_and_head_c6a4 : List D → R D := apR2 fun a0 a1 => (runR false (b_member_and_head_c6a4 a0 a1))
theorem n_member_and_head_c6a4 : ∀ ds : List D, m_member_and_head_c6a4 ds ≠ .stuck → ds.length = 2 := apR2_len _
def b_moved_8ac7 (a0 a1 : D) : R (Fl Unit Empty) := (do let v1 ← (do let r6 ← (do let x4 ← (pure a0); let r5 ← (do let x2 ← (pure a1); let r3 ← pure []; pure (x2 :: r3)); pure (x4 :: r5)); Mo.lift (m_member_and_head_c6a4 r6)); (do let t29 ← (do let x7 ← (pure v1); let y8 ← (pure .non); DL.ask ((isD x7 y8).bind bOf)); seqF (if t29 = true then (do let v10 ← (pure a1); pure (.rt v10)) else (pure (.nx ()))) fun (q9 : Unit) => (do let v11 ← (pure v1); let c12 ← DL.ask (un2 v11); (do let v28 ← (do let x26 ← (do let x23 ← (pure a1); let l24 ← (pure none); let u25 ← (do let x21 ← (do let x19 ← (do let r15 ← (do let x13 ← (pure a1); let r14 ← pure []; pure (x13 :: r14)); DL.ask (lenD r15)); let y20 ← (do let r18 ← (do let x16 ← (pure c12.1); let r17 ← pure []; pure (x16 :: r17)); DL.ask (lenD r18)); DL.ask (subD x19 y20)); let i22 ← DL.ask (intOf x21); pure (some i22)); DL.ask (sliceD x23 l24 u25)); let y27 ← (pure c12.2); DL.ask (addD x26 y27)); pure (.rt v28)))))
def m_moved_8ac7 : List D → R D := apR2 fun a0 a1 => (runR false (b_moved_8ac7 a0 a1))
theorem n_moved_8ac7 : ∀ ds : List D, m_moved_8ac7 ds ≠ .stuck → ds.length = 2 := apR2_len _
def b_host_of_5eec (a0 : D) : R (Fl Unit Empty) := (do let t20 ← (DL.orM (DL.notM (do let x2 ← (do let x1 ← (pure a0); DL.ask (isiD "str" x1)); DL.ask (truD x2))) (DL.notM (do let x11 ← (do let r10 ← (do let x8 ← (do let r7 ← (do let x5 ← (mkL (do let x3 ← (pure a0); let _ ← DL.ask (strOf x3); let y4 ← (pure (.str [46])); DL.ask (splitD x3 y4))); let r6 ← pure []; pure (x5 :: r6)); DL.ask (tupleD r7)); let r9 ← pure []; pure (x8 :: r9)); Mo.lift (m_is_host_45ba r10)); DL.ask (truD x11)))); seqF (if t20 = true then (do let v13 ← (pure a0); raiseX "BadHost" "host" v13) else (pure (.nx ()))) fun (q12 : Unit) => (do let v19 ← (do let r18 ← (do let x16 ← (mkL (do let x14 ← (pure a0); let _ ← DL.ask (strOf x14); let y15 ← (pure (.str [46])); DL.ask (splitD x14 y15))); let r17 ← pure []; pure (x16 :: r17)); DL.ask (tupleD r18)); pure (.rt v19)))
theorem e_host_of_5eec (a0 : D) : b_host_of_5eec a0 = (do let t20 ← (DL.orM (DL.notM (do let x2 ← (DL.ask (isiD "str" a0)); DL.ask (truD x2))) (DL.notM (do let _ ← DL.ask (strOf a0); let x5 ← (DL.ask (splitD a0 (.str [46]))); let x8 ← (DL.ask (tupleD [(.lst x5)])); let x11 ← (Mo.lift (m_is_host_45ba [x8])); DL.ask (truD x11)))); seqF (if t20 = true then (raiseX "BadHost" "host" a0) else (pure (.nx ()))) fun (q12 : Unit) => (do let _ ← DL.ask (strOf a0); let x16 ← (DL.ask (splitD a0 (.str [46]))); let v19 ← (DL.ask (tupleD [(.lst x16)])); pure (.rt v19))) := by
  unfold b_host_of_5eec; simp only [pure_bind, bind_assoc, mkL]
def m_host_of_5eec : List D → R D := apR1 fun a0 => (runR false (b_host_of_5eec a0))
theorem n_host_of_5eec : ∀ ds : List D, m_host_of_5eec ds ≠ .stuck → ds.length = 1 := apR1_len _
def b_host_text_f5b6 (a0 : D) : R (Fl Unit Empty) := (do let t10 ← (DL.notM (do let x4 ← (do let r3 ← (do let x1 ← (pure a0); let r2 ← pure []; pure (x1 :: r2)); Mo.lift (m_is_host_45ba r3)); DL.ask (truD x4))); seqF (if t10 = true then (do let v6 ← (pure a0); raiseX "BadHost" "host" v6) else (pure (.nx ()))) fun (q5 : Unit) => (do let v9 ← (do let x7 ← (pure (.str [46])); let _ ← DL.ask (strOf x7); let y8 ← (pure a0); DL.ask (joinD x7 y8)); pure (.rt v9)))
theorem e_host_text_f5b6 (a0 : D) : b_host_text_f5b6 a0 = (do let t10 ← (DL.notM (do let x4 ← (Mo.lift (m_is_host_45ba [a0])); DL.ask (truD x4))); seqF (if t10 = true then (raiseX "BadHost" "host" a0) else (pure (.nx ()))) fun (q5 : Unit) => (do let _ ← DL.ask (strOf (.str [46])); let v9 ← (DL.ask (joinD (.str [46]) a0)); pure (.rt v9))) := by
  unfold b_host_text_f5b6; simp only [pure_bind, bind_assoc, mkL]
def m_host_text_f5b6 : List D → R D := apR1 fun a0 => (runR false (b_host_text_f5b6 a0))
theorem n_host_text_f5b6 : ∀ ds : List D, m_host_text_f5b6 ds ≠ .stuck → ds.length = 1 := apR1_len _
def b_checked_group_64d1 (a0 a1 : D) : R (Fl Unit Empty) := (do let t56 ← (DL.orM (DL.notM (do let x2 ← (do let x1 ← (pure a0); DL.ask (isi2D "list" "tuple" x1)); DL.ask (truD x2))) (DL.notM (do let x6 ← (chainM leD leD (pure c_LEAST_OF_GROUP) (do let r5 ← (do let x3 ← (pure a0); let r4 ← pure []; pure (x3 :: r4)); DL.ask (lenD r5)) (pure c_MOST_OF_GROUP)); DL.ask (bOf x6)))); seqF (if t56 = true then (do let v8 ← (pure a0); raiseX "BadGroup" "group" v8) else (pure (.nx ()))) fun (q7 : Unit) => (do let v9 ← (do let r10 ← pure []; DL.ask (szL r10)); (do let r55 ← (do let r11 ← (pure a0); DL.ask (itD r11)); seqF (forF (fun d => some d) (fun (q12 : List D) (c13 : D) => (do let v14 ← (do let r17 ← (do let x15 ← (pure c13); let r16 ← pure []; pure (x15 :: r16)); Mo.lift (m_host_of_5eec r17)); (do let t27 ← (do let x21 ← (do let r20 ← (do let x18 ← (pure v14); let r19 ← pure []; pure (x18 :: r19)); DL.ask (lenD r20)); let y22 ← (pure c_MOST_LABELS_OF_MEMBER); DL.ask ((gtD x21 y22).bind bOf)); seqF (if t27 = true then (do let v24 ← (pure c13); raiseX "BadHost" "host" v24) else (pure (.nx ()))) fun (q23 : Unit) => (do let v25 ← (pure v14); let v26 ← DL.ask (apd q12 v25); (pure (.nx v26)))))) r55 v9) fun (q28 : List D) => (do let r54 ← (do let r31 ← (do let x29 ← (pure (.lst q28)); let r30 ← pure []; pure (x29 :: r30)); DL.ask (enumOf r31)); seqF (forF un2 (fun (q32 : Unit) (c33 : D × D) => (do let t48 ← (DL.orM (do let x34 ← (pure c33.2); let y35 ← (pure a1); DL.ask ((inD x34 y35).bind bOf)) (do let x41 ← (pure c33.2); let y42 ← (do let x38 ← (pure (.lst q28)); let l39 ← (pure none); let u40 ← (do let x36 ← (pure c33.1); let i37 ← DL.ask (intOf x36); pure (some i37)); DL.ask (sliceD x38 l39 u40)); DL.ask ((inD x41 y42).bind bOf))); seqF (if t48 = true then (do let v47 ← (do let r46 ← (do let x44 ← (pure c33.2); let r45 ← pure []; pure (x44 :: r45)); Mo.lift (m_host_text_f5b6 r46)); raiseX "Twice" "name" v47) else (pure (.nx ()))) fun (q43 : Unit) => (pure (.nx ())))) r54 ()) fun (q49 : Unit) => (do let v53 ← (do let r52 ← (do let x50 ← (pure (.lst q28)); let r51 ← pure []; pure (x50 :: r51)); DL.ask (tupleD r52)); pure (.rt v53))))))
theorem e_checked_group_64d1 (a0 a1 : D) : b_checked_group_64d1 a0 a1 = (do let t56 ← (DL.orM (DL.notM (do let x2 ← (DL.ask (isi2D "list" "tuple" a0)); DL.ask (truD x2))) (DL.notM (do let x6 ← (chainM leD leD (pure c_LEAST_OF_GROUP) (DL.ask (lenD [a0])) (pure c_MOST_OF_GROUP)); DL.ask (bOf x6)))); seqF (if t56 = true then (raiseX "BadGroup" "group" a0) else (pure (.nx ()))) fun (q7 : Unit) => (do let v9 ← (DL.ask (szL [])); let r55 ← (DL.ask (itD a0)); seqF (forF (fun d => some d) (fun (q12 : List D) (c13 : D) => (do let v14 ← (Mo.lift (m_host_of_5eec [c13])); let x21 ← (DL.ask (lenD [v14])); let t27 ← (DL.ask ((gtD x21 c_MOST_LABELS_OF_MEMBER).bind bOf)); seqF (if t27 = true then (raiseX "BadHost" "host" c13) else (pure (.nx ()))) fun (q23 : Unit) => (do let v26 ← DL.ask (apd q12 v14); (pure (.nx v26))))) r55 v9) fun (q28 : List D) => (do let r54 ← (DL.ask (enumOf [(.lst q28)])); seqF (forF un2 (fun (q32 : Unit) (c33 : D × D) => (do let t48 ← (DL.orM (DL.ask ((inD c33.2 a1).bind bOf)) (do let i37 ← DL.ask (intOf c33.1); let y42 ← (DL.ask (sliceD (.lst q28) none (some i37))); DL.ask ((inD c33.2 y42).bind bOf))); seqF (if t48 = true then (do let v47 ← (Mo.lift (m_host_text_f5b6 [c33.2])); raiseX "Twice" "name" v47) else (pure (.nx ()))) fun (q43 : Unit) => (pure (.nx ())))) r54 ()) fun (q49 : Unit) => (do let v53 ← (DL.ask (tupleD [(.lst q28)])); pure (.rt v53))))) := by
  unfold b_checked_group_64d1; simp only [pure_bind, bind_assoc, mkL]
def m_checked_group_64d1 : List D → R D := apR2 fun a0 a1 => (runR false (b_checked_group_64d1 a0 a1))
theorem n_checked_group_64d1 : ∀ ds : List D, m_checked_group_64d1 ds ≠ .stuck → ds.length = 2 := apR2_len _
end FN
/-! ### tables: what the site of a host is -/
namespace FN
open DL PySem PySem.W
theorem labs_tup {R : List (List Nat)} (h : Labs R) : nic 3 (.tup (R.map .str)) = true := by
  rw [nic_tup]
  exact nic_strs fun z m c k => (lab_tx (h z m)).2 c k
theorem lenT {A : List (List Nat)} : lenD [.tup (A.map D.str)] = some (.int (A.length : Int)) := by
  show some (D.int ((A.map D.str).length : Int)) = _
  rw [List.length_map]
theorem gt_l {i j : Int} : gtD (.int i) (.int j) = some (.bl (decide (j < i))) := rfl
/-! rows -/
theorem labs_join {A : List (List Nat)} (h : Labs A) (hl : A.length ≤ 30) : (joinN [46] A).length ≤ 1000 := by
  have : ∀ {I : List (List Nat)}, (∀ z ∈ I, z.length ≤ 20) → (joinN [46] I).length ≤ 21 * I.length := by
    intro I
    induction I with
    | nil => intro _; simp [joinN]
    | cons a I ih =>
      intro hz
      have h1 := hz a (.head _)
      have h2 := ih fun z m => hz z (.tail _ m)
      cases I with
      | nil => simp only [joinN, List.length_cons, List.length_nil]; omega
      | cons b I =>
        simp only [joinN, List.length_append, List.length_cons, List.length_nil] at h2 ⊢
        omega
  have := this fun z m => (isLab_iff.mp (h z m)).2.1
  omega
theorem split_labs {A : List (List Nat)} (h : Labs A) (h0 : 1 ≤ A.length) (hl : A.length ≤ 30) : splitD (.str (joinN [46] A)) (.str [46]) = some (A.map .str) :=
  split_ok (by omega) (by decide) h (fun e => by rw [e] at h0; simp at h0) (by have := labs_join h hl; omega)
/-! the size of an ending -/
end FN
/-! ### groups: where a host is moved; tables and groups made -/
namespace FN
open DL PySem PySem.W
abbrev Hst := List (List Nat)
def hD (h : Hst) : D := .tup (h.map .str)
def grD (g : List Hst) : D := .tup (g.map hD)
def MemOk (m : Hst) : Prop := Labs m ∧ 1 ≤ m.length ∧ m.length ≤ 3
theorem lenH {h : Hst} : lenD [hD h] = some (.int (h.length : Int)) := lenT
/-! tables made -/
theorem star0 {α : Type} {g : List D → R α} {ds : List D} (h : ds.length ≤ 1000000) : starD 0 g ds = g [.tup ds] := if_pos ⟨Nat.zero_le _, h⟩
/-! groups made -/
theorem host_of_ok {A : Hst} (h : MemOk A) : m_host_of_5eec [.str (joinN [46] A)] = .ok (hD A) := by
  have sp := split_labs h.1 h.2.1 (by have := h.2.2; omega)
  have isS : ∀ z, isiD "str" (.str z) = some (.bl true) := fun _ => rfl
  have ih : m_is_host_45ba [.tup (A.map .str)] = .ok (.bl true) := by
    rw [is_host_row, row_of (by have := h.2.2; omega) h.1]
    cases A with
    | nil => have := h.2.1; simp at this
    | cons _ _ => rfl
  unfold m_host_of_5eec apR1
  simp only [e_host_of_5eec, isS, tru_bl, askR, pure_bind, DL.orM, DL.notM, Bool.not_true, Bool.false_eq_true, if_false, str_of, sp, tup_lst, ih, lift_pR, okpR, sqp]
  rfl
theorem host_text_ok {A : Hst} (h : MemOk A) : m_host_text_f5b6 [hD A] = .ok (.str (joinN [46] A)) := by
  have hr := row_of (A := A) (by have := h.2.2; omega) h.1
  have ih : m_is_host_45ba [hD A] = .ok (.bl true) := by
    show m_is_host_45ba [.tup (A.map .str)] = _
    rw [is_host_row, hr]
    cases A with
    | nil => have := h.2.1; simp at this
    | cons _ _ => rfl
  have j := (join_row2 (S := [46]) hr (by simp)).1
  have j' : joinD (.str [46]) (hD A) = some (.str (joinN [46] A)) := j
  unfold m_host_text_f5b6 apR1
  simp only [e_host_text_f5b6, ih, lift_pR, okpR, pure_bind, tru_bl, askR, DL.notM, Bool.not_true, Bool.false_eq_true, if_false, sqp, str_of, j']
  rfl
theorem in_hosts {m : Hst} {T : List Hst} (hm : Labs m) (hT : ∀ t ∈ T, Labs t) : (inD (hD m) (.lst (T.map hD))).bind bOf = some (decide (m ∈ T)) := by
  unfold inD
  rw [in_nic (n := 3) (m := 3) (show nic 3 (hD m) = true from labs_tup hm) (nicL_iff.mpr fun d k => by
    obtain ⟨t, ht, rfl⟩ := List.mem_map.mp k
    exact labs_tup (hT t ht)) (by omega) (by omega)]
  show some _ = some _
  congr 1
  induction T with
  | nil => rfl
  | cons t T ih =>
    have ih' := ih fun x k => hT x (.tail _ k)
    rw [List.map_cons, List.any_cons, ih']
    have : deq (hD t) (hD m) = decide (t = m) := by
      show deqL (t.map .str) (m.map .str) = _
      rw [deqL_strs]
    rw [this]
    by_cases c : t = m
    · subst c; simp
    · have c' : ¬ m = t := fun e => c e.symm
      simp [c, c']
def txD (h : Hst) : D := .str (joinN [46] h)
def grT (g : List Hst) : D := .tup (g.map txD)
theorem imm_grD (g : List Hst) : flatD (grD g) = some (grD g) := by
  have h2 : ∀ h : Hst, immL (h.map D.str) = true := fun h => by
    induction h with
    | nil => rfl
    | cons a h ih => simpa [immL, imm] using ih
  have : immL (g.map hD) = true := by
    induction g with
    | nil => rfl
    | cons a g ih =>
      show (imm (hD a) && immL (g.map hD)) = true
      rw [ih, Bool.and_true]
      exact h2 a
  exact if_pos this
theorem texts_of {g : List Hst} (hg : ∀ m ∈ g, MemOk m) : (lcF (fun d => some d) (fun (c40 : D) => pure true) (fun (c40 : D) => (Mo.lift (m_host_text_f5b6 [c40]))) (g.map hD) : R (List D)) = .ok (g.map txD) := by
  induction g with
  | nil => rfl
  | cons m g ih =>
    have e := host_text_ok (hg m (.head _))
    have ih' := ih fun x k => hg x (.tail _ k)
    show ((Mo.noex (Mo.lift (m_host_text_f5b6 [hD m]) : R D)) >>= fun y => (lcF (fun d => some d) (fun (c40 : D) => pure true) (fun (c40 : D) => (Mo.lift (m_host_text_f5b6 [c40]))) (g.map hD) : R (List D)) >>= fun r => pure (y :: r)) = _
    rw [lift_pR, e, ih']
    rfl
end FN
/-! ### which rule matches which page, with a table and groups -/
namespace FN
open DL PySem PySem.W
end FN
/-! ### the wide bag: [[numbers], seed, count] -/
namespace DL
open PySem PySem.Spec PyProof.Rows L2 StX
def bagY3 : M D := fun s => if s.w = true then .ok (.int s.y) s else .stuck
def bagZ : M D := fun s => if s.w = true then .ok (.int s.z) s else .stuck
def bagHd : M D := fun s => match s.w, s.l with
  | true, i :: _ => .ok (.int i) s
  | _, _ => .stuck
def bagNe : M Bool := fun s => if s.w = true ∧ s.l.length ≤ 1000 then .ok (!s.l.isEmpty) s else .stuck
def bagSetZ (i : Int) : M Unit := fun s => if s.w = true then .ok () { s with z := i } else .stuck
def bagSetHd (i : Int) : M Unit := fun s => match s.w, s.l with
  | true, _ :: r => .ok () { s with l := i :: r }
  | _, _ => .stuck
def bagPop : M Unit := fun s => match s.w, s.l with
  | true, _ :: r => .ok () { s with l := r }
  | _, _ => .stuck
def bagDrop : M Unit := fun s => if s.w = true ∧ s.l.length ≤ 1000 then .ok () { s with l := s.l.dropWhile fun i => i == 0 } else .stuck
theorem ixN0 (n : Nat) : ixN (n + 1) 0 = some 0 := by unfold ixN; simp
theorem atI0 (t : Int) (l : List Int) : atI (List.map V.int (t :: l)) 0 = some (V.int t) := by
  unfold atI
  rw [List.length_map, List.length_cons, ixN0]
  rfl
theorem bag_two {bag : List Addr} {H : Hp} {s : S} {b : Addr} {r : List Addr} (h : BagAt bag H s) (hw : s.w = true) (e : bag = b :: r) : ∃ c r', bag = b :: c :: r' ∧ b ≠ c ∧ H b = some (.lst [.ref c, .int s.y, .int s.z]) ∧ H c = some (.lst (s.l.map V.int)) := by
  subst e
  cases r with
  | nil => exact absurd h.1 (by rw [hw]; simp)
  | cons c r => exact ⟨c, r, rfl, h.2.1, h.2.2.1, h.2.2.2⟩
section
variable {X : Cx} {fx : Fx} {G : List Sl} {α β : Type} {kk : Nat} {e : Expr} {rest : List Stmt} {ex : α → List Sl} {exb : β → List Sl} {pos pos2 p2 p3 np apos : Pos} {n : Str} {j j3 : Nat}
theorem de_bagY3 (i : Nat) (hG : G[i]? = some .bg := by rfl) (hN : X.N[i]? = some n := by rfl) (hv : Vis X.env.scope n := by first | exact Or.inl rfl | exact Or.inr (Or.inl rfl) | exact Or.inr (Or.inr rfl)) (hd : (n == ("__debug__" : Str)) = false := by decide) (hcd : (n == ("__classdict__" : Str)) = false := by decide)
    (hs : PlainIx (.Constant (.int 1) j p2) := by exact fun _ _ => rfl) : PE X (.Subscript (.Name n np) (.Constant (.int 1) j p2) pos) (tE X.K X.mg fx G bagY3) :=
  peI (pe_ix ix_list (pe_var hN hv hd hcd) pe_int hs) fun σ H Q ⟨Hf, s, h⟩ => by
    obtain ⟨b, r, eb, ev⟩ := h.1.sl i _ hG
    have w : (bagY3 s).wp _ _ := h.2
    unfold bagY3 at w
    by_cases hw : s.w = true
    · rw [if_pos hw] at w
      obtain ⟨c, r', e1, ne, hb, hc⟩ := bag_two h.1.bag hw eb
      exact ⟨.ref b, ev, b, _, 1, .int s.y, rfl, rfl, .inl (.inl hb), rfl, w _ Hf H (.refl h.1.top) h.1.bag (is_int _)⟩
    · rw [if_neg hw] at w
      exact w.elim
theorem de_bagZ (i : Nat) (hG : G[i]? = some .bg := by rfl) (hN : X.N[i]? = some n := by rfl) (hv : Vis X.env.scope n := by first | exact Or.inl rfl | exact Or.inr (Or.inl rfl) | exact Or.inr (Or.inr rfl)) (hd : (n == ("__debug__" : Str)) = false := by decide) (hcd : (n == ("__classdict__" : Str)) = false := by decide)
    (hs : PlainIx (.Constant (.int 2) j p2) := by exact fun _ _ => rfl) : PE X (.Subscript (.Name n np) (.Constant (.int 2) j p2) pos) (tE X.K X.mg fx G bagZ) :=
  peI (pe_ix ix_list (pe_var hN hv hd hcd) pe_int hs) fun σ H Q ⟨Hf, s, h⟩ => by
    obtain ⟨b, r, eb, ev⟩ := h.1.sl i _ hG
    have w : (bagZ s).wp _ _ := h.2
    unfold bagZ at w
    by_cases hw : s.w = true
    · rw [if_pos hw] at w
      obtain ⟨c, r', e1, ne, hb, hc⟩ := bag_two h.1.bag hw eb
      exact ⟨.ref b, ev, b, _, 2, .int s.z, rfl, rfl, .inl (.inl hb), rfl, w _ Hf H (.refl h.1.top) h.1.bag (is_int _)⟩
    · rw [if_neg hw] at w
      exact w.elim
theorem de_bagHd (i : Nat) (hG : G[i]? = some .bg := by rfl) (hN : X.N[i]? = some n := by rfl) (hv : Vis X.env.scope n := by first | exact Or.inl rfl | exact Or.inr (Or.inl rfl) | exact Or.inr (Or.inr rfl)) (hd : (n == ("__debug__" : Str)) = false := by decide) (hcd : (n == ("__classdict__" : Str)) = false := by decide)
    (hs : PlainIx (.Constant (.int 0) j p2) := by exact fun _ _ => rfl) (hs3 : PlainIx (.Constant (.int 0) j3 p3) := by exact fun _ _ => rfl) : PE X (.Subscript (.Subscript (.Name n np) (.Constant (.int 0) j p2) pos2) (.Constant (.int 0) j3 p3) pos) (tE X.K X.mg fx G bagHd) :=
  peI (pe_ix ix_list (pe_ix ix_list (pe_var hN hv hd hcd) pe_int hs) pe_int hs3) fun σ H Q ⟨Hf, s, h⟩ => by
    obtain ⟨b, r, eb, ev⟩ := h.1.sl i _ hG
    have w : (bagHd s).wp _ _ := h.2
    unfold bagHd at w
    split at w
    · rename_i t l hw hl
      obtain ⟨c, r', e1, ne, hb, hc⟩ := bag_two h.1.bag hw eb
      rw [hl] at hc
      exact ⟨.ref b, ev, b, _, 0, .ref c, rfl, rfl, .inl (.inl hb), rfl, c, _, 0, .int t, rfl, rfl, .inl (.inl hc), atI0 t l, w _ Hf H (.refl h.1.top) h.1.bag (is_int _)⟩
    · exact w.elim
theorem ints_py : ∀ l : List Int, toPyL (l.map D.int) = some (l.map PyData.int) ∧ PyData.canLayAll0 (l.map PyData.int) = true ∧ PyData.depthAll (l.map PyData.int) ≤ 1
  | [] => ⟨rfl, by simp [PyData.canLayAll0], by simp [PyData.depthAll]⟩
  | i :: l => by
    obtain ⟨a, b, c⟩ := ints_py l
    refine ⟨?_, ?_, ?_⟩
    · rw [List.map_cons, List.map_cons, toPyL, a]
      simp [toPy]
    · simp only [List.map_cons, PyData.canLayAll0, PyData.canLay0, b, Bool.and_self]
    · have z : (PyData.int i).depth = 0 := rfl
      simp only [List.map_cons, PyData.depthAll]
      omega
theorem ne_ints (l : List Int) : neD (.lst (l.map .int)) (.lst []) = some (.bl (!l.isEmpty)) := by
  obtain ⟨a, b, c⟩ := ints_py l
  have s1 : SeqAt.shaped (.list (l.map PyData.int)) = true := by
    unfold SeqAt.shaped
    refine Bool.and_eq_true_iff.mpr ⟨by simpa only [PyData.canLay0] using b, decide_eq_true ?_⟩
    simp only [PyData.depth]
    omega
  have s2 : SeqAt.shaped (.list []) = true := by
    unfold SeqAt.shaped
    simp [PyData.canLay0, PyData.canLayAll0, PyData.depth, PyData.depthAll]
  have t1 : toPy (.lst (l.map .int)) = some (.list (l.map PyData.int)) := by rw [toPy, a]; rfl
  have t2 : toPy (.lst []) = some (.list []) := rfl
  have e : eqP (.lst (l.map .int)) (.lst []) = match toPy (.lst (l.map .int)), toPy (.lst []) with
    | some x, some y => if SeqAt.shaped x && SeqAt.shaped y then some (PyData.eqv x y) else none
    | _, _ => none := rfl
  unfold neD
  rw [e, t1, t2]
  simp only [s1, s2, Bool.and_self, if_true, Option.map_some]
  cases l <;> simp [PyData.eqv, PyData.eqvAll]
theorem is_ints {K : PySem.W.Frag} {mg : Str → Option Value} {H : Hp} : ∀ l : List Int, IsL K mg H (l.map .int) (l.map V.int)
  | [] => rfl
  | i :: l => ⟨_, _, rfl, is_int i, is_ints l⟩
/-- bag[0] != [] -/
theorem dt_bagNe (C : Cok X fx kk) (i : Nat) (hG : G[i]? = some .bg := by rfl) (hN : X.N[i]? = some n := by rfl) (hv : Vis X.env.scope n := by first | exact Or.inl rfl | exact Or.inr (Or.inl rfl) | exact Or.inr (Or.inr rfl)) (hd : (n == ("__debug__" : Str)) = false := by decide) (hcd : (n == ("__classdict__" : Str)) = false := by decide)
    (hs : PlainIx (.Constant (.int 0) j p2) := by exact fun _ _ => rfl) : PT X (.Compare (.Subscript (.Name n np) (.Constant (.int 0) j p2) pos2) [.NotEq] [.List [] p3] pos) (tT X.K X.mg fx G bagNe) :=
  ptI (pt_cmpR (od_ne C.rm.units) (pe_ix ix_list (pe_var hN hv hd hcd) pe_int hs) (pe_lst pa_nil) (by rfl)) fun σ H Q ⟨Hf, s, h⟩ => by
    obtain ⟨b, r, eb, ev⟩ := h.1.sl i _ hG
    have w : (bagNe s).wp _ _ := h.2
    unfold bagNe at w
    by_cases hw : s.w = true ∧ s.l.length ≤ 1000
    · rw [if_pos hw] at w
      obtain ⟨c, r', e1, ne, hb, hc⟩ := bag_two h.1.bag hw.1 eb
      refine ⟨.ref b, ev, b, _, 0, .ref c, rfl, rfl, .inl (.inl hb), rfl, (by show 0 ≤ sizeLine; exact Nat.zero_le _), fun p hp => ?_⟩
      have hcp : c ≠ p := fun z => by rw [z, hp] at hc; cases hc
      have sn : Ste ([] : List Addr) Hf H Hf (upd H p (.lst [])) := Ste.new' h.1.top hp
      refine ⟨upd H p (.lst []), .lst (s.l.map .int), .lst [], _, .refl _, ⟨by rw [List.length_map, sizeLine_eq]; omega, c, s.l.map V.int, rfl, (upd_ne hcp).trans hc, is_ints s.l⟩, ⟨Nat.zero_le _, p, [], rfl, upd_same, rfl⟩, ne_ints s.l, fun u Hf' H' st iu => ?_⟩
      refine ⟨!s.l.isEmpty, iu, ?_⟩
      have st2 : Ste ([] : List Addr) Hf H Hf H' := ⟨.refl _, fun a o q => st.keep a o (sn.top a o q) (by simp), fun a o q hn => st.keep a o (sn.keep a o q hn) (by simp), fun a q => st.dom a (sn.dom a q), fun a o q => .inl q⟩
      exact w _ Hf H' st2.wide (st2.bag h.1.bag) rfl
    · rw [if_neg hw] at w
      exact w.elim
theorem dss_bagSetZ {x : M D} {k : M (Fl α β)} (i : Nat) (he : PE X e (tE X.K X.mg fx G x)) (hr : PSs X rest (tS X.K X.mg fx G ex exb k)) (hG : G[i]? = some .bg := by rfl) (hN : X.N[i]? = some n := by rfl) (hv : Vis X.env.scope n := by first | exact Or.inl rfl | exact Or.inr (Or.inl rfl) | exact Or.inr (Or.inr rfl)) (hd : (n == ("__debug__" : Str)) = false := by decide) (hcd : (n == ("__classdict__" : Str)) = false := by decide)
    (ha : ∀ v, assign (.Subscript (.Name n np) (.Constant (.int 2) j p2) apos) X.env v = (do
      let ov ← holding [v] (eval (.Name n np) X.env)
      let iv ← holding [v, ov] (eval (.Constant (.int 2) j p2) X.env)
      standAt apos
      holding [v, ov, iv] (setItem ov iv v)
      release [v, ov, iv] []) := by intro _; rfl)
    (hs : swapsWithSole [.Subscript (.Name n np) (.Constant (.int 2) j p2) apos] e pos.line X.env = pure false := by rfl) (hw : swappedStores [.Subscript (.Name n np) (.Constant (.int 2) j p2) apos] e X.env = pure none := by rfl)
    (h1 : (assignEach [.Subscript (.Name n np) (.Constant (.int 2) j p2) apos] X.env).map (·.2) = [assign (.Subscript (.Name n np) (.Constant (.int 2) j p2) apos) X.env] := by rfl) (hg : GxOk fx G := by first | exact True.intro | repeat' (first | exact True.intro | exact Or.inl rfl | exact Or.inr rfl | refine And.intro ?_ ?_)) :
    PSs X (.Assign [.Subscript (.Name n np) (.Constant (.int 2) j p2) apos] e pos :: rest) (tS X.K X.mg fx G ex exb (do let d ← x; let i ← ask (intOf d); bagSetZ i; k)) :=
  pssI (pss_cons (ps_asg he (pg_sub (pe_var hN hv hd hcd) pe_int set_list ha) hs hw h1) hr) fun De σ H ⟨Hf, s, h⟩ =>
    ((h.bind hg).mono fun v H1 ⟨d, Hf1, s1, sb, r, h1⟩ => by
      obtain ⟨b, rr, eb, ev⟩ := h1.1.sl i _ hG
      have w := Mo.wp_lift (Mo.wp_bind h1.2)
      cases d with
      | int t =>
        cases r
        have w2 : (bagSetZ t s1).wp _ _ := Mo.wp_bind w
        unfold bagSetZ at w2
        by_cases hw : s1.w = true
        · rw [if_pos hw] at w2
          obtain ⟨c, r', e1, ne, hb, hc⟩ := bag_two h1.1.bag hw eb
          refine ⟨.ref b, ev, b, _, 2, 2, rfl, rfl, hb, rfl, Hf1, _, h1.1.bagUpd (s' := { s1 with z := t }) (by rw [e1]; simp) ?_, w2⟩
          rw [e1]
          exact ⟨hw, ne, upd_same, (upd_ne (Ne.symm ne)).trans hc⟩
        · rw [if_neg hw] at w2
          exact w2.elim
      | _ => exact w.elim).to
theorem dss_bagSetHd {x : M D} {k : M (Fl α β)} (i : Nat) (he : PE X e (tE X.K X.mg fx G x)) (hr : PSs X rest (tS X.K X.mg fx G ex exb k)) (hG : G[i]? = some .bg := by rfl) (hN : X.N[i]? = some n := by rfl) (hv : Vis X.env.scope n := by first | exact Or.inl rfl | exact Or.inr (Or.inl rfl) | exact Or.inr (Or.inr rfl)) (hd : (n == ("__debug__" : Str)) = false := by decide) (hcd : (n == ("__classdict__" : Str)) = false := by decide)
    (hs2 : PlainIx (.Constant (.int 0) j p2) := by exact fun _ _ => rfl)
    (ha : ∀ v, assign (.Subscript (.Subscript (.Name n np) (.Constant (.int 0) j p2) pos2) (.Constant (.int 0) j3 p3) apos) X.env v = (do
      let ov ← holding [v] (eval (.Subscript (.Name n np) (.Constant (.int 0) j p2) pos2) X.env)
      let iv ← holding [v, ov] (eval (.Constant (.int 0) j3 p3) X.env)
      standAt apos
      holding [v, ov, iv] (setItem ov iv v)
      release [v, ov, iv] []) := by intro _; rfl)
    (hs : swapsWithSole [.Subscript (.Subscript (.Name n np) (.Constant (.int 0) j p2) pos2) (.Constant (.int 0) j3 p3) apos] e pos.line X.env = pure false := by rfl) (hw : swappedStores [.Subscript (.Subscript (.Name n np) (.Constant (.int 0) j p2) pos2) (.Constant (.int 0) j3 p3) apos] e X.env = pure none := by rfl)
    (h1 : (assignEach [.Subscript (.Subscript (.Name n np) (.Constant (.int 0) j p2) pos2) (.Constant (.int 0) j3 p3) apos] X.env).map (·.2) = [assign (.Subscript (.Subscript (.Name n np) (.Constant (.int 0) j p2) pos2) (.Constant (.int 0) j3 p3) apos) X.env] := by rfl) (hg : GxOk fx G := by first | exact True.intro | repeat' (first | exact True.intro | exact Or.inl rfl | exact Or.inr rfl | refine And.intro ?_ ?_)) :
    PSs X (.Assign [.Subscript (.Subscript (.Name n np) (.Constant (.int 0) j p2) pos2) (.Constant (.int 0) j3 p3) apos] e pos :: rest) (tS X.K X.mg fx G ex exb (do let d ← x; let i ← ask (intOf d); bagSetHd i; k)) :=
  pssI (pss_cons (ps_asg he (pg_sub (pe_ix ix_list (pe_var hN hv hd hcd) pe_int hs2) pe_int set_list ha) hs hw h1) hr) fun De σ H ⟨Hf, s, h⟩ =>
    ((h.bind hg).mono fun v H1 ⟨d, Hf1, s1, sb, r, h1⟩ => by
      obtain ⟨b, rr, eb, ev⟩ := h1.1.sl i _ hG
      have w := Mo.wp_lift (Mo.wp_bind h1.2)
      cases d with
      | int t =>
        cases r
        have w2 : (bagSetHd t s1).wp _ _ := Mo.wp_bind w
        unfold bagSetHd at w2
        split at w2
        · rename_i u l hw hl
          obtain ⟨c, r', e1, ne, hb, hc⟩ := bag_two h1.1.bag hw eb
          rw [hl] at hc
          refine ⟨.ref b, ev, b, _, 0, .ref c, rfl, rfl, .inl (.inl hb), rfl, c, _, 0, 0, rfl, rfl, hc, (by rw [List.length_map, List.length_cons, ixN0]), Hf1, _, h1.1.bagUpd (s' := { s1 with l := t :: l }) (by rw [e1]; simp) ?_, w2⟩
          rw [e1]
          exact ⟨hw, ne, (upd_ne ne).trans hb, upd_same⟩
        · exact w2.elim
      | _ => exact w.elim).to
/-- bag[0].pop(0) as a statement -/
theorem dss_bagPop {k : M (Fl α β)} {cpos : Pos} (i : Nat) (hr : PSs X rest (tS X.K X.mg fx G ex exb k)) (hG : G[i]? = some .bg := by rfl) (hN : X.N[i]? = some n := by rfl) (hv : Vis X.env.scope n := by first | exact Or.inl rfl | exact Or.inr (Or.inl rfl) | exact Or.inr (Or.inr rfl)) (hd : (n == ("__debug__" : Str)) = false := by decide) (hcd : (n == ("__classdict__" : Str)) = false := by decide)
    (hs : PlainIx (.Constant (.int 0) j p2) := by exact fun _ _ => rfl)
    (hst : starEach [(.Constant (.int 0) j3 p3 : Expr)] X.env = [(false, eval (.Constant (.int 0) j3 p3) X.env)] := by rfl) (hbase : attributeBase (.Subscript (.Name n np) (.Constant (.int 0) j p2) pos2) "pop" X.env (eval (.Subscript (.Name n np) (.Constant (.int 0) j p2) pos2) X.env) = eval (.Subscript (.Name n np) (.Constant (.int 0) j p2) pos2) X.env := by rfl)
    (hfew : ((backTo cpos (starEach [(.Constant (.int 0) j3 p3 : Expr)] X.env)).all (fun x => !x.1) && (backToKw cpos (keywordEach [] X.env)).all (fun x => x.1.isSome) && decide ([(.Constant (.int 0) j3 p3 : Expr)].length + ([] : List Keyword).length + (if ([] : List Keyword).isEmpty then 0 else 1) < 30)) = true := by rfl)
    (hline : (apos.endLine == cpos.line) = true := by rfl) (hplain : (backTo cpos (starEach [] X.env)).any (·.1) = false := by rfl)
    (hsw : swapsWith (.Call (.Attribute (.Subscript (.Name n np) (.Constant (.int 0) j p2) pos2) "pop" apos) [.Constant (.int 0) j3 p3] [] cpos) none pos.line X.env = pure false := by rfl) :
    PSs X (.Expr (.Call (.Attribute (.Subscript (.Name n np) (.Constant (.int 0) j p2) pos2) "pop" apos) [.Constant (.int 0) j3 p3] [] cpos) pos :: rest) (tS X.K X.mg fx G ex exb (do bagPop; k)) :=
  pssI (pss_cons (ps_expr (pe_bm PySem.F.plainAttrs_list PySem.F.slot_list_pop PySem.F.type_list_pop mt_popAt (pe_ix ix_list (pe_var hN hv hd hcd) pe_int hs) (pa_cons pe_int pa_nil hst) hbase hfew hline hst hplain) hsw) hr) fun De σ H ⟨Hf, s, h⟩ => by
    obtain ⟨b, r, eb, ev⟩ := h.1.sl i _ hG
    have w : (bagPop s).wp _ _ := Mo.wp_bind h.2
    unfold bagPop at w
    split at w
    · rename_i t l hw hl
      obtain ⟨c, r', e1, ne, hb, hc⟩ := bag_two h.1.bag hw eb
      rw [hl] at hc
      refine ⟨.ref b, ev, b, _, 0, .ref c, rfl, rfl, .inl (.inl hb), rfl, .inl ⟨rfl, _, .inl (.inl hc)⟩, ?_⟩
      refine ⟨c, _, 0, 0, .int t, rfl, rfl, hc, by decide, by decide, by simp [seqIndex?], rfl, Hf, _, h.1.bagUpd (s' := { s with l := l }) (by rw [e1]; simp) ?_, w⟩
      rw [e1]
      exact ⟨hw, ne, (upd_ne ne).trans hb, upd_same⟩
    · exact w.elim
/-- while bag[0] != [] and bag[0][0] == 0: bag[0].pop(0) -/
theorem dss_bagWhile {k : M (Fl α β)} {c : Expr} {body : List Stmt} (C : Cok X fx kk) (hc : PT X c (tT X.K X.mg fx G (DL.andM bagNe (do let x ← bagHd; let y ← pure (.int 0); DL.ask ((eqD x y).bind bOf)))))
    (hb : PSs X body (tS X.K X.mg fx G (fun (_ : Unit) => G) (fun (_ : Unit) => G) (do bagPop; pure (.nx ())))) (hr : PSs X rest (tS X.K X.mg fx G ex exb k)) (hst : X.stack = X.env :: X.outer := by rfl) :
    PSs X (.While c body [] pos :: rest) (tS X.K X.mg fx G ex exb (do bagDrop; k)) :=
  pssI (pss_cons (ps_while (C.hp hst) hc hb) hr) fun De σ H ⟨Hf, s, h⟩ => by
    have w : (bagDrop s).wp _ _ := Mo.wp_bind h.2
    unfold bagDrop at w
    by_cases hw : s.w = true ∧ s.l.length ≤ 1000
    · rw [if_pos hw] at w
      have w' : Mo.wp k { s with l := s.l.dropWhile fun i => i == 0 } (FP X.K X.mg fx Hf ex exb De) (EXS X.K X.mg fx) := w
      refine ⟨fun m σ' H' => ∃ Hf' l, Sub Hf Hf' ∧ StS X.K X.mg fx Hf' H' σ' G { s with l := l } ∧ l.length = m ∧ l.length ≤ 1000 ∧ (l.dropWhile fun i => i == 0) = s.l.dropWhile fun i => i == 0, ⟨s.l.length, Hf, s.l, .refl _, h.1, rfl, hw.2, rfl⟩, ?_⟩
      rintro m σ' H' ⟨Hf', l, sb, st, hl, h1000, he⟩
      -- the loop ends
      have fin : ∀ Hf2 H2, Ste fx.bag Hf' H' Hf2 H2 → BagAt fx.bag H2 { s with l := l } → (l.dropWhile fun i => i == 0) = l → tS X.K X.mg fx G ex exb k De σ' H2 := fun Hf2 H2 e2 bg2 hd2 => by
        rw [← he, hd2] at w'
        exact ⟨Hf2, _, st.step e2 bg2, Mo.wp_mono w' (fun f s2 h2 => h2.up (sb.trans e2.sub)) fun e s' k => k⟩
      refine ⟨Hf', { s with l := l }, st, ?_⟩
      cases l with
      | nil =>
        have ev : (DL.andM bagNe (do let x ← bagHd; DL.ask ((eqD x (.int 0)).bind bOf)) : M Bool) { s with l := [] } = .ok false { s with l := [] } := by
          unfold DL.andM
          rw [M.bind_ap]
          have : bagNe { s with l := [] } = .ok false { s with l := [] } := by unfold bagNe; rw [if_pos ⟨hw.1, by simp⟩]; rfl
          rw [this]
          rfl
        show ((DL.andM bagNe (do let x ← bagHd; DL.ask ((eqD x (.int 0)).bind bOf)) : M Bool) { s with l := [] }).wp _ _
        rw [ev]
        intro b Hf2 H2 e2 bg2 hb2
        subst hb2
        exact fin Hf2 H2 e2 bg2 rfl
      | cons a r =>
        have ev : (DL.andM bagNe (do let x ← bagHd; DL.ask ((eqD x (.int 0)).bind bOf)) : M Bool) { s with l := a :: r } = .ok (decide (a = 0)) { s with l := a :: r } := by
          unfold DL.andM
          rw [M.bind_ap]
          have e1 : bagNe { s with l := a :: r } = .ok true { s with l := a :: r } := by unfold bagNe; rw [if_pos ⟨hw.1, h1000⟩]; rfl
          rw [e1]
          show (((do let x ← bagHd; DL.ask ((eqD x (.int 0)).bind bOf)) : M Bool) { s with l := a :: r }) = _
          rw [M.bind_ap]
          have e2 : bagHd { s with l := a :: r } = .ok (.int a) { s with l := a :: r } := by
            unfold bagHd
            simp only [hw.1]
          rw [e2]
          rfl
        show ((DL.andM bagNe (do let x ← bagHd; DL.ask ((eqD x (.int 0)).bind bOf)) : M Bool) { s with l := a :: r }).wp _ _
        rw [ev]
        intro b Hf2 H2 e2 bg2 hb2
        by_cases c : a = 0
        · rw [decide_eq_true c] at hb2
          subst hb2
          rw [if_pos rfl]
          refine ⟨fun σ'' H'' => ∃ Hf'', Sub Hf Hf'' ∧ StS X.K X.mg fx Hf'' H'' σ'' G { s with l := r }, fun σ'' H'' ⟨Hf'', sb2, st2⟩ => ⟨r.length, by rw [← hl]; exact Nat.lt_succ_self _, Hf'', r, sb2, st2, rfl, by simp only [List.length_cons] at h1000; omega, by rw [← he, List.dropWhile_cons]; simp [c]⟩, Hf2, { s with l := a :: r }, st.step e2 bg2, ?_⟩
          have ev2 : (do bagPop; pure (.nx ()) : M (Fl Unit Unit)) { s with l := a :: r } = .ok (.nx ()) { s with l := r } := by
            rw [M.bind_ap]
            have : bagPop { s with l := a :: r } = .ok () { s with l := r } := by unfold bagPop; simp only [hw.1]
            rw [this]
            rfl
          show ((do bagPop; pure (.nx ()) : M (Fl Unit Unit)) { s with l := a :: r }).wp _ _
          rw [ev2]
          exact fun Hf3 H3 σ3 sb3 st3 => ⟨Hf3, (sb.trans e2.sub).trans sb3, st3⟩
        · rw [decide_eq_false c] at hb2
          subst hb2
          rw [if_neg Bool.false_ne_true]
          exact fin Hf2 H2 e2 bg2 (by rw [List.dropWhile_cons]; simp [c])
    · rw [if_neg hw] at w
      exact w.elim
end
/-! ### a wide bag is made -/
def scrOf : D → Option (List Int)
  | .scr is => some is
  | _ => none
def intsOf : List D → Option (List Int)
  | [] => some []
  | .int i :: r => (intsOf r).map (i :: ·)
  | _ => none
theorem intsOf_eq : ∀ {cs : List D} {l : List Int}, intsOf cs = some l → cs = l.map .int
  | [], l, h => by cases h; rfl
  | .int i :: r, l, h => by
    unfold intsOf at h
    cases e : intsOf r with
    | none => rw [e] at h; cases h
    | some l' => rw [e] at h; cases h; rw [intsOf_eq e]; rfl
  | .non :: r, l, h => by cases h
  | .bl _ :: r, l, h => by cases h
  | .str _ :: r, l, h => by cases h
  | .tup _ :: r, l, h => by cases h
  | .lst _ :: r, l, h => by cases h
  | .dic _ _ :: r, l, h => by cases h
  | .ins _ _ _ :: r, l, h => by cases h
  | .scr _ :: r, l, h => by cases h
  | .xc _ _ _ _ :: r, l, h => by cases h
theorem intsOf_map : ∀ l : List Int, intsOf (l.map .int) = some l
  | [] => rfl
  | i :: l => by rw [List.map_cons, intsOf, intsOf_map l]; rfl
def withBagW {α β : Type} (d : D) (body : M (Fl α β)) : R (Fl α β) := match d with
  | .lst [.lst cs, .int y, .int z] => match intsOf cs with
    | some l => match body ⟨0, y, z, l, true⟩ with
      | .ok f _ => .ok f
      | .ex e _ => .ex e
      | .stuck => .stuck
    | none => .stuck
  | _ => .stuck
abbrev Fx.baggedL (fx : Fx) (L : List Addr) : Fx := { fx with bag := L }
section
variable {K : PySem.W.Frag} {mg : Str → Option Value} {fx : Fx}
theorem Ste.unbagL {L : List Addr} {Hf H Hf' H' : Hp} (e : Ste L Hf H Hf' H') (hb : ∀ b ∈ L, H b = none) : Ste [] Hf H Hf' H' :=
  ⟨e.sub, e.top, fun a o q _ => e.keep a o q (fun m => by rw [hb a m] at q; cases q), e.dom, e.fresh⟩
theorem StS.unbagL {L : List Addr} {Hf H : Hp} {σ : L2.St} {G : List Sl} {s s0 : S} (hfx : fx.bag = []) (hme : fx.me = []) (hb : ∀ b ∈ L, fx.H0 b = none) (st : StS K mg (fx.baggedL L) Hf H σ G s) (hG : G.all noBg = true) : StS K mg fx Hf H σ G s0 := by
  have st0 : Ste L fx.Hf0 fx.H0 Hf H := by
    have z := st.ste
    have e : (fx.baggedL L).me = [] := hme
    rw [e] at z
    exact z
  refine ⟨by rw [hfx, hme]; exact Ste.unbagL st0 hb, by rw [hfx]; trivial, by rw [hfx, hme]; intro b hb; (cases hb), st.len, fun i x e => ?_, st.dis⟩
  have so := st.sl i x e
  cases x with
  | un => trivial
  | im d => exact so
  | bg =>
    have := List.all_eq_true.mp hG _ (List.mem_of_getElem? e)
    cases this
  | ow ds =>
    obtain ⟨p, vs, e1, h, hf, h0, nb, l, hz⟩ := so
    exact ⟨p, vs, e1, h, hf, h0, by rw [hfx]; simp, l, hz⟩
  | od ks ds =>
    obtain ⟨p, vs, e1, h, hf, h0, nb, l, l', hz⟩ := so
    exact ⟨p, vs, e1, h, hf, h0, by rw [hfx]; simp, l, l', hz⟩
  | ob ks ds =>
    obtain ⟨p, C, dx, vs, e1, h, hf, h0, nb, l⟩ := so
    exact ⟨p, C, dx, vs, e1, h, hf, h0, by rw [hfx]; simp, l⟩
theorem ints_is {H : Hp} : ∀ {l : List Int} {vs : List V}, IsL K mg H (l.map .int) vs → vs = l.map V.int
  | [], vs, h => h
  | i :: l, vs, h => by
    obtain ⟨v, r, rfl, e, h'⟩ := h
    rw [ints_is h']
    cases e
    rfl
theorem scr_small {Hf : Hp} {is : List Int} {v : V} (h : Is K mg Hf (.scr is) v) : ∃ Hs, Sub Hs Hf ∧ Is K mg Hs (.scr is) v ∧ ∀ a l, Hs a ≠ some (.lst l) := by
  rw [Is] at h
  obtain ⟨z, a, rfl, q⟩ := h
  rcases q with ⟨o, q⟩ | q
  · refine ⟨fun x => if x = a then some (.frz o (.lst (is.map V.int))) else none, fun x u e => ?_, ?_, fun x l e => ?_⟩
    · dsimp only at e
      by_cases c : x = a
      · rw [if_pos c] at e
        cases e
        rw [c]; exact q
      · rw [if_neg c] at e; cases e
    · rw [Is]
      exact ⟨z, a, rfl, .inl ⟨o, if_pos rfl⟩⟩
    · dsimp only at e
      by_cases c : x = a
      · rw [if_pos c] at e; cases e
      · rw [if_neg c] at e; cases e
  · have s0 : Sub (fun _ => none) Hf := fun x u e => by cases e
    refine ⟨fun _ => none, s0, ?_, by intro x l e; cases e⟩
    rw [Is]
    exact ⟨z, a, rfl, .inr q⟩
end
section
variable {X : Cx} {fx : Fx} {G : List Sl} {α β : Type} {kk j : Nat} {rest : List Stmt} {ex : α → List Sl} {exb : β → List Sl} {pos : Pos} {n : Str} {pos' : Pos}
theorem Cok.baggedL (C : Cok X fx kk) (L : List Addr) : Cok X (fx.baggedL L) kk := ⟨C.calm, C.hp, C.tk, C.rm, C.nd, C.gd⟩
theorem StS.setBg2 {i : Nat} {b c : Addr} {Hf H : Hp} {σ : L2.St} {y z : Int} {l : List Int} {s : S} (hfx : fx.bag = []) (hme : fx.me = []) (st : StS X.K X.mg fx Hf H σ G s) (no : ∀ x ∈ [b, c], ∀ (j : Nat) (q : Addr), σ[j]? = some (some (.ref q)) → (∀ u, G[j]? = some u → isOw u = true → q ≠ x)) (ne : b ≠ c) (hb : H b = some (.lst [.ref c, .int y, .int z])) (hc : H c = some (.lst (l.map V.int))) (hf : ∀ x ∈ [b, c], Hf x = none) (hG : G.all noBg = true) :
    StS X.K X.mg (fx.baggedL [b, c]) Hf H (σ.set i (some (.ref b))) (G.set i .bg) ⟨0, y, z, l, true⟩ := by
  refine ⟨⟨st.ste.sub, st.ste.top, fun a o q _ => st.ste.keep a o q (by rw [hfx, hme]; simp), st.ste.dom, st.ste.fresh⟩, ⟨rfl, ne, hb, hc⟩, fun x hx => ?_, by simpa using st.len, fun j u e => ?_, fun j k u w p hjk ex ey ox oy e1 e2 => ?_⟩
  · have hm : (fx.baggedL [b, c]).me = [] := hme
    rw [hm] at hx ⊢
    have hx' : x ∈ [b, c] := hx
    refine ⟨hf x hx', ?_, fun z => nomatch z⟩
    simp only [List.mem_cons, List.not_mem_nil, or_false] at hx'
    rcases hx' with rfl | rfl
    · rw [hb]; simp
    · rw [hc]; simp
  · have nb : ∀ p, σ[j]? = some (some (.ref p)) → ∀ v, G[j]? = some v → isOw v = true → p ∉ [b, c] := fun p e1 v ev ov m => no p m j p e1 v ev ov rfl
    by_cases q : i = j
    · subst q
      have hi : i < G.length := by
        have := (List.getElem?_eq_some_iff.mp e).1
        simpa using this
      rw [List.getElem?_set_self hi] at e
      cases e
      exact ⟨b, [c], rfl, List.getElem?_set_self (by rw [st.len]; exact hi)⟩
    · rw [List.getElem?_set_ne q] at e
      rw [List.getElem?_set_ne q]
      have so := st.sl j u e
      cases u with
      | un => trivial
      | im d => exact so
      | bg =>
        have := List.all_eq_true.mp hG _ (List.mem_of_getElem? e)
        cases this
      | ow ds =>
        obtain ⟨p, vs, e1, h, hf', h0', _, l, hz⟩ := so
        exact ⟨p, vs, e1, h, hf', h0', nb p e1 _ e rfl, l, hz⟩
      | od ks ds =>
        obtain ⟨p, vs, e1, h, hf', h0', _, l, l', hz⟩ := so
        exact ⟨p, vs, e1, h, hf', h0', nb p e1 _ e rfl, l, l', hz⟩
      | ob ks ds =>
        obtain ⟨p, C, dx, vs, e1, h, hf', h0', _, l⟩ := so
        exact ⟨p, C, dx, vs, e1, h, hf', h0', nb p e1 _ e rfl, l⟩
  · have nj : i ≠ j := by
      rintro rfl
      have hi : i < G.length := by
        have := (List.getElem?_eq_some_iff.mp ex).1
        simpa using this
      rw [List.getElem?_set_self hi] at ex
      cases ex; cases ox
    have nk : i ≠ k := by
      rintro rfl
      have hi : i < G.length := by
        have := (List.getElem?_eq_some_iff.mp ey).1
        simpa using this
      rw [List.getElem?_set_self hi] at ey
      cases ey; cases oy
    rw [List.getElem?_set_ne nj] at ex e1
    rw [List.getElem?_set_ne nk] at ey e2
    exact st.dis j k u w p hjk ex ey ox oy e1 e2
/-- bag = _law_bag(script): both its lists are new -/
theorem dss_bagW {a0 : D} {g : List D → R D} {k : M (Fl α β)} {f : Addr} {fd : FuncData} {ps : List Str} {nm sn : Str} {p sp cpos : Pos} (C : Cok X fx kk) (i : Nat) (si : Nat) (F : FnG X.prog X.w X.K X.mg X.base j f fd ps (spR X.K X.mg false 1 g)) (hm : X.mg nm = some (.ref f)) (hk : PySem.W.keepIn X.K (.ref f) = true) (hb : Binds X.K fd ps [])
    (hr : ∀ L, Cok X (fx.baggedL L) kk → PSs X rest (tS X.K X.mg (fx.baggedL L) (G.set i .bg) ex exb k)) (hex : ∀ a, (ex a).all noBg = true) (hexb : ∀ a, (exb a).all noBg = true) (hfx : fx.bag = [] := by rfl) (hme : fx.me = [] := by rfl) (hgx : fx.gx = none := by rfl) (hnr : fx.nr = false := by rfl) (hG : G.all noBg = true := by rfl)
    (hS : G[si]? = some (.im a0) := by rfl) (hNS : X.N[si]? = some sn := by rfl) (hvS : Vis X.env.scope sn := by first | exact Or.inl rfl | exact Or.inr (Or.inl rfl) | exact Or.inr (Or.inr rfl)) (hdS : (sn == ("__debug__" : Str)) = false := by decide) (hcS : (sn == ("__classdict__" : Str)) = false := by decide)
    (hj : j ≤ kk := by decide) (hg : Gl X nm := by rfl) (hdb : (nm == ("__debug__" : Str)) = false := by decide) (he : starEach [(.Name sn sp : Expr)] X.env = (false, eval (.Name sn sp) X.env) :: starEach [] X.env := by rfl) (hpl : (backTo cpos (starEach [] X.env)).any (·.1) = false := by rfl)
    (hi : X.N[i]? = some n := by rfl) (hx : Loc X.env.scope n := by first | exact Or.inl rfl | exact Or.inr rfl)
    (hs : swapsWith (.Call (.Name nm p) [.Name sn sp] [] cpos) (some (.Name n pos')) pos.line X.env = pure false := by rfl) (hf : X.fn n = true ∨ X.env.scope.names.lookup n = some .local := by first | exact .inl rfl | exact .inr rfl) :
    PSs X (.Assign [.Name n pos'] (.Call (.Name nm p) [.Name sn sp] [] cpos) pos :: rest) (tS X.K X.mg fx G ex exb (do let is ← ask (scrOf a0); let d ← Mo.noex (g [.scr is]); withBagW d k)) :=
  pssI (pss_cons (ps_set C.nd hi hx (pe_callG (E := WE fx.W) F C.gd (C.rm.mono hj) hg hm hk hb .nil (fun σ => passAt C.tk σ) (pa_cons (pe_var hNS hvS hdS hcS) pa_nil he) hdb he hpl) hs hf) (pss_ex fun L => hr L (C.baggedL L))) fun De σ H ⟨Hf, s, h⟩ => by
    obtain ⟨st, w⟩ := h
    obtain ⟨v, ev, iv⟩ := st.sl si _ hS
    cases a0 with
    | scr is =>
      have w1 : (R.nx (g [.scr is])).wp s (fun d s1 => R.wp (withBagW d k) s1 (FP X.K X.mg fx Hf ex exb De) (EXS X.K X.mg fx)) (EXS X.K X.mg fx) := Mo.wp_bind (show Mo.wp (Mo.noex (g [.scr is]) >>= fun d => withBagW d k) s (FP X.K X.mg fx Hf ex exb De) (EXS X.K X.mg fx) from w)
      obtain ⟨Hs, ss, is', hno⟩ := scr_small iv
      refine ⟨v, ev, ?_⟩
      show spR X.K X.mg false 1 g [v] H _ _
      refine ⟨rfl, Hs, [.scr is], ss.trans st.top, .cons is' .nil, ?_⟩
      cases hgd : g [.scr is] with
      | ok d =>
        rw [hgd] at w1
        have w2 : R.wp (withBagW d k) s (FP X.K X.mg fx Hf ex exb De) (EXS X.K X.mg fx) := w1
        intro v' Hf' H' e2 i2
        have i3 : Is X.K X.mg Hf' d v' := i2
        unfold withBagW at w2
        split at w2
        · rename_i cs y z
          split at w2
          · rename_i l hl
            have := intsOf_eq hl
            subst this
            rw [Is] at i3
            obtain ⟨_, b, vs, rfl, hb', l1⟩ := i3
            obtain ⟨vc, r1, rfl, ic, v2, r2, rfl, rfl, v3, r3, rfl, rfl, rfl⟩ := l1
            rw [Is] at ic
            obtain ⟨_, c, ws, rfl, hc', l2⟩ := ic
            have := ints_is l2
            subst this
            have fr : ∀ a l, Hf' a = some (.lst l) → H a = none := fun a l q => by
              rcases e2.fresh a _ q with h1 | h1
              · exact absurd h1 (hno a l)
              · exact h1
            have hb0 := fr b _ hb'
            have hc0 := fr c _ hc'
            have ne : b ≠ c := fun z => by
              rw [z, hc'] at hb'
              cases l with
              | nil => cases hb'
              | cons t l => cases hb'
            have nb0 := st.new0 hb0
            have nc0 := st.new0 hc0
            have h00 : ∀ x ∈ [b, c], fx.H0 x = none := fun x hx => by
              simp only [List.mem_cons, List.not_mem_nil, or_false] at hx
              rcases hx with rfl | rfl
              · exact nb0.1
              · exact nc0.1
            have hff : ∀ x ∈ [b, c], Hf x = none := fun x hx => by
              simp only [List.mem_cons, List.not_mem_nil, or_false] at hx
              rcases hx with rfl | rfl
              · exact st.top.none hb0
              · exact st.top.none hc0
            have e3 : Ste [] Hf H Hf H' := ⟨.refl _, fun a o q => e2.keep a o (st.top a o q) (by simp), e2.keep, e2.dom, fun a o q => .inl q⟩
            have st1 : StS X.K X.mg fx Hf H' σ G s := st.step e3.wide (e3.bag st.bag)
            refine ⟨[b, c], Hf, ⟨0, y, z, l, true⟩, StS.setBg2 hfx hme st1 (fun x hx => ?_) ne (e2.top _ _ hb') (e2.top _ _ hc') hff hG, ?_⟩
            · simp only [List.mem_cons, List.not_mem_nil, or_false] at hx
              rcases hx with rfl | rfl
              · exact st.owNe hb0
              · exact st.owNe hc0
            show (k _).wp _ _
            cases q : k ⟨0, y, z, l, true⟩ with
            | ok f s2 =>
              rw [q] at w2
              have w3 : FP X.K X.mg fx Hf ex exb De f s := w2
              show FP X.K X.mg (fx.baggedL [b, c]) Hf ex exb De f s2
              cases f with
              | nx a => exact fun Hf' H' σ' sb st => w3 Hf' H' σ' sb (StS.unbagL hfx hme h00 st (hex a))
              | rt d => exact fun v Hf' H' st bg' r => w3 v Hf' H' (by rw [hfx, hme]; exact Ste.unbagL (by have e : (fx.baggedL [b, c]).me = [] := hme; rw [e] at st; exact st) h00) (by rw [hfx]; trivial) r
              | bk b => exact fun Hf' H' σ' sb st => w3 Hf' H' σ' sb (StS.unbagL hfx hme h00 st (hexb b))
              | ct b => exact fun Hf' H' σ' sb st => w3 Hf' H' σ' sb (StS.unbagL hfx hme h00 st (hexb b))
            | ex e2 s2 =>
              rw [q] at w2
              have w3 : EXS X.K X.mg fx e2 s := w2
              show EXS X.K X.mg (fx.baggedL [b, c]) e2 s2
              intro cls dd σ' Hf' H' xs xi
              refine w3 cls dd σ' Hf' H' ?_ xi
              unfold XSt at xs ⊢
              have hgx' : (fx.baggedL [b, c]).gx = none := hgx
              rw [hgx'] at xs
              rw [hgx]
              exact ⟨by rw [hfx, hme]; exact Ste.unbagL (by have z := xs.1; have e : (fx.baggedL [b, c]).me = [] := hme; rw [e] at z; exact z) h00, by rw [hfx]; trivial⟩
            | stuck => rw [q] at w2; exact w2.elim
          · exact w2.elim
        · exact w2.elim
      | ex e => rw [hgd] at w1; exact w1.elim
      | stuck => rw [hgd] at w1; exact w1.elim
    | _ => exact w.elim
end
/-! ### a + b of lists: a new list -/
end DL
namespace FN
open DL
def k__law_bag_d7b5_0 (q3 : D) (c4 : D) : R (Fl (D) (D)) := (do let v11 ← (do let x23 ← (do let r22 ← (do let x20 ← (do let x18 ← (do let x16 ← (do let x12 ← (pure q3); let y13 ← (pure (.int 6364136223846793005)); DL.ask (mulD x12 y13)); let y17 ← (do let x14 ← (pure c4); let y15 ← (pure (.int 48271)); DL.ask (mulD x14 y15)); DL.ask (addD x16 y17)); let y19 ← (pure (.int 7919)); DL.ask (addD x18 y19)); let r21 ← pure []; pure (x20 :: r21)); DL.ask (intD r22)); let y24 ← (pure (.int 2305843009213693951)); DL.ask (modD x23 y24)); (pure (.nx v11)))
theorem l__law_bag_d7b5_0 (q3 : D) (c4 : D) : k__law_bag_d7b5_0 q3 c4 = (do let v11 ← (do let x23 ← (do let r22 ← (do let x20 ← (do let x18 ← (do let x16 ← (do let x12 ← (pure q3); let y13 ← (pure (.int 6364136223846793005)); DL.ask (mulD x12 y13)); let y17 ← (do let x14 ← (pure c4); let y15 ← (pure (.int 48271)); DL.ask (mulD x14 y15)); DL.ask (addD x16 y17)); let y19 ← (pure (.int 7919)); DL.ask (addD x18 y19)); let r21 ← pure []; pure (x20 :: r21)); DL.ask (intD r22)); let y24 ← (pure (.int 2305843009213693951)); DL.ask (modD x23 y24)); (pure (.nx v11))) := rfl
def k__law_bag_d7b5_1 (a0 : D) (q26 : D) : R (Fl (Unit) (Empty)) := (do let v46 ← (mkL (do let r45 ← (do let x43 ← (mkL (do let r38 ← (do let r27 ← (pure a0); DL.ask (itD r27)); lcF (fun d => some d) (fun (c29 : D) => (do let x33 ← (do let r32 ← (do let x30 ← (pure c29); let r31 ← pure []; pure (x30 :: r31)); DL.ask (absD r32)); let y34 ← (do let x ← (pure (.int 10)); let y ← (pure (.int 18)); DL.ask (powC x y)); DL.ask ((geD x33 y34).bind bOf))) (fun (c29 : D) => (do let r37 ← (do let x35 ← (pure c29); let r36 ← pure []; pure (x35 :: r36)); DL.ask (absD r37))) r38)); let r44 ← (do let x41 ← (pure q26); let r42 ← (do let x39 ← (pure (.int 0)); let r40 ← pure []; pure (x39 :: r40)); pure (x41 :: r42)); pure (x43 :: r44)); DL.ask (szL r45))); pure (.rt v46))
theorem l__law_bag_d7b5_1 (a0 : D) (q26 : D) : k__law_bag_d7b5_1 a0 q26 = (do let v46 ← (mkL (do let r45 ← (do let x43 ← (mkL (do let r38 ← (do let r27 ← (pure a0); DL.ask (itD r27)); lcF (fun d => some d) (fun (c29 : D) => (do let x33 ← (do let r32 ← (do let x30 ← (pure c29); let r31 ← pure []; pure (x30 :: r31)); DL.ask (absD r32)); let y34 ← (do let x ← (pure (.int 10)); let y ← (pure (.int 18)); DL.ask (powC x y)); DL.ask ((geD x33 y34).bind bOf))) (fun (c29 : D) => (do let r37 ← (do let x35 ← (pure c29); let r36 ← pure []; pure (x35 :: r36)); DL.ask (absD r37))) r38)); let r44 ← (do let x41 ← (pure q26); let r42 ← (do let x39 ← (pure (.int 0)); let r40 ← pure []; pure (x39 :: r40)); pure (x41 :: r42)); pure (x43 :: r44)); DL.ask (szL r45))); pure (.rt v46)) := rfl
def k__law_bag_d7b5_2 (a0 : D) (v1 : D) : R (Fl (Unit) (Empty)) := (do let r47 ← (do let r2 ← (pure a0); DL.ask (itD r2)); seqF (forF (fun d => some d) (fun (q3 : D) (c4 : D) => (do let t25 ← (do let x8 ← (do let r7 ← (do let x5 ← (pure c4); let r6 ← pure []; pure (x5 :: r6)); DL.ask (absD r7)); let y9 ← (do let x ← (pure (.int 10)); let y ← (pure (.int 18)); DL.ask (powC x y)); DL.ask ((ltD x8 y9).bind bOf)); seqF (if t25 = true then (k__law_bag_d7b5_0 q3 c4) else (pure (.nx q3))) fun (q10 : D) => (pure (.nx q10)))) r47 v1) fun (q26 : D) => (k__law_bag_d7b5_1 a0 q26))
theorem l__law_bag_d7b5_2 (a0 : D) (v1 : D) : k__law_bag_d7b5_2 a0 v1 = (do let r47 ← (do let r2 ← (pure a0); DL.ask (itD r2)); seqF (forF (fun d => some d) (fun (q3 : D) (c4 : D) => (do let t25 ← (do let x8 ← (do let r7 ← (do let x5 ← (pure c4); let r6 ← pure []; pure (x5 :: r6)); DL.ask (absD r7)); let y9 ← (do let x ← (pure (.int 10)); let y ← (pure (.int 18)); DL.ask (powC x y)); DL.ask ((ltD x8 y9).bind bOf)); seqF (if t25 = true then (k__law_bag_d7b5_0 q3 c4) else (pure (.nx q3))) fun (q10 : D) => (pure (.nx q10)))) r47 v1) fun (q26 : D) => (k__law_bag_d7b5_1 a0 q26)) := rfl
def b__law_bag_d7b5 (a0 : D) : R (Fl Unit Empty) := (do let v1 ← (pure (.int 1299709)); (k__law_bag_d7b5_2 a0 v1))
theorem e__law_bag_d7b5 (a0 : D) : b__law_bag_d7b5 a0 = (do let r47 ← (DL.ask (itD a0)); seqF (forF (fun d => some d) (fun (q3 : D) (c4 : D) => (do let x8 ← (DL.ask (absD [c4])); let y9 ← (DL.ask (powC (.int 10) (.int 18))); let t25 ← (DL.ask ((ltD x8 y9).bind bOf)); seqF (if t25 = true then (do let x16 ← (DL.ask (mulD q3 (.int 6364136223846793005))); let y17 ← (DL.ask (mulD c4 (.int 48271))); let x18 ← (DL.ask (addD x16 y17)); let x20 ← (DL.ask (addD x18 (.int 7919))); let x23 ← (DL.ask (intD [x20])); let v11 ← (DL.ask (modD x23 (.int 2305843009213693951))); (pure (.nx v11))) else (pure (.nx q3))) fun (q10 : D) => (pure (.nx q10)))) r47 (.int 1299709)) fun (q26 : D) => (do let r38 ← (DL.ask (itD a0)); let x43 ← (lcF (fun d => some d) (fun (c29 : D) => (do let x33 ← (DL.ask (absD [c29])); let y34 ← (DL.ask (powC (.int 10) (.int 18))); DL.ask ((geD x33 y34).bind bOf))) (fun (c29 : D) => (DL.ask (absD [c29]))) r38); let v46 ← (DL.ask (szL [(.lst x43), q26, (.int 0)])); pure (.rt (.lst v46)))) := by
  unfold b__law_bag_d7b5; simp only [l__law_bag_d7b5_0, l__law_bag_d7b5_1, l__law_bag_d7b5_2, pure_bind, bind_assoc, mkL]
def m__law_bag_d7b5 : List D → R D := apR1 fun a0 => (runR false (b__law_bag_d7b5 a0))
def k__law_take_bb49_0 (v19 : D) (a1 : D) : M (Fl (Unit) (Empty)) := (do let v31 ← (do let x41 ← (do let r40 ← (do let x38 ← (do let x36 ← (do let x34 ← (pure v19); let y35 ← (do let x32 ← (pure (.int 32452867)); let y33 ← bagZ; DL.ask (mulD x32 y33)); DL.ask (addD x34 y35)); let y37 ← (pure (.int 2)); DL.ask (powC x36 y37)); let r39 ← pure []; pure (x38 :: r39)); DL.ask (intD r40)); let y42 ← (pure (.int 2305843009213693951)); DL.ask (modD x41 y42)); (do let v50 ← (do let x48 ← (do let r47 ← (do let x45 ← (do let x43 ← (pure v31); let y44 ← (pure (.int 4096)); DL.ask (fdivD x43 y44)); let r46 ← pure []; pure (x45 :: r46)); DL.ask (intD r47)); let y49 ← (pure a1); DL.ask (modD x48 y49)); pure (.rt v50)))
theorem l__law_take_bb49_0 (v19 : D) (a1 : D) : k__law_take_bb49_0 v19 a1 = (do let v31 ← (do let x41 ← (do let r40 ← (do let x38 ← (do let x36 ← (do let x34 ← (pure v19); let y35 ← (do let x32 ← (pure (.int 32452867)); let y33 ← bagZ; DL.ask (mulD x32 y33)); DL.ask (addD x34 y35)); let y37 ← (pure (.int 2)); DL.ask (powC x36 y37)); let r39 ← pure []; pure (x38 :: r39)); DL.ask (intD r40)); let y42 ← (pure (.int 2305843009213693951)); DL.ask (modD x41 y42)); (do let v50 ← (do let x48 ← (do let r47 ← (do let x45 ← (do let x43 ← (pure v31); let y44 ← (pure (.int 4096)); DL.ask (fdivD x43 y44)); let r46 ← pure []; pure (x45 :: r46)); DL.ask (intD r47)); let y49 ← (pure a1); DL.ask (modD x48 y49)); pure (.rt v50))) := rfl
def k__law_take_bb49_1 (a1 : D) : M (Fl (Unit) (Empty)) := (do let v19 ← (do let x29 ← (do let r28 ← (do let x26 ← (do let x24 ← (do let x22 ← bagY3; let y23 ← (do let x20 ← (pure (.int 15485863)); let y21 ← bagZ; DL.ask (mulD x20 y21)); DL.ask (addD x22 y23)); let y25 ← (pure (.int 3)); DL.ask (powC x24 y25)); let r27 ← pure []; pure (x26 :: r27)); DL.ask (intD r28)); let y30 ← (pure (.int 2305843009213693921)); DL.ask (modD x29 y30)); (k__law_take_bb49_0 v19 a1))
theorem l__law_take_bb49_1 (a1 : D) : k__law_take_bb49_1 a1 = (do let v19 ← (do let x29 ← (do let r28 ← (do let x26 ← (do let x24 ← (do let x22 ← bagY3; let y23 ← (do let x20 ← (pure (.int 15485863)); let y21 ← bagZ; DL.ask (mulD x20 y21)); DL.ask (addD x22 y23)); let y25 ← (pure (.int 3)); DL.ask (powC x24 y25)); let r27 ← pure []; pure (x26 :: r27)); DL.ask (intD r28)); let y30 ← (pure (.int 2305843009213693921)); DL.ask (modD x29 y30)); (k__law_take_bb49_0 v19 a1)) := rfl
def k__law_take_bb49_2 (a1 : D) : M (Fl (Unit) (Empty)) := (do let t51 ← bagNe; seqF (if t51 = true then (do let v4 ← (do let x8 ← (do let r7 ← (do let x5 ← bagHd; let r6 ← pure []; pure (x5 :: r6)); DL.ask (intD r7)); let y9 ← (pure a1); DL.ask (modD x8 y9)); (do let v10 ← (do let x11 ← bagHd; let y12 ← (pure a1); DL.ask (fdivD x11 y12)); let i13 ← DL.ask (intOf v10); bagSetHd i13; (do let v14 ← (pure v4); pure (.rt v14)))) else (pure (.nx ()))) fun (q3 : Unit) => (do let v15 ← (do let x16 ← bagZ; let y17 ← (pure (.int 1)); DL.ask (addD x16 y17)); let i18 ← DL.ask (intOf v15); bagSetZ i18; (k__law_take_bb49_1 a1)))
theorem l__law_take_bb49_2 (a1 : D) : k__law_take_bb49_2 a1 = (do let t51 ← bagNe; seqF (if t51 = true then (do let v4 ← (do let x8 ← (do let r7 ← (do let x5 ← bagHd; let r6 ← pure []; pure (x5 :: r6)); DL.ask (intD r7)); let y9 ← (pure a1); DL.ask (modD x8 y9)); (do let v10 ← (do let x11 ← bagHd; let y12 ← (pure a1); DL.ask (fdivD x11 y12)); let i13 ← DL.ask (intOf v10); bagSetHd i13; (do let v14 ← (pure v4); pure (.rt v14)))) else (pure (.nx ()))) fun (q3 : Unit) => (do let v15 ← (do let x16 ← bagZ; let y17 ← (pure (.int 1)); DL.ask (addD x16 y17)); let i18 ← DL.ask (intOf v15); bagSetZ i18; (k__law_take_bb49_1 a1))) := rfl
def b__law_take_bb49 (a1 : D) : M (Fl Unit Empty) := (do bagDrop; (k__law_take_bb49_2 a1))
theorem e__law_take_bb49 (a1 : D) : b__law_take_bb49 a1 = (do bagDrop; let t51 ← bagNe; seqF (if t51 = true then (do let x5 ← bagHd; let x8 ← (DL.ask (intD [x5])); let v4 ← (DL.ask (modD x8 a1)); let x11 ← bagHd; let v10 ← (DL.ask (fdivD x11 a1)); let i13 ← DL.ask (intOf v10); bagSetHd i13; (pure (.rt v4))) else (pure (.nx ()))) fun (q3 : Unit) => (do let x16 ← bagZ; let v15 ← (DL.ask (addD x16 (.int 1))); let i18 ← DL.ask (intOf v15); bagSetZ i18; let x22 ← bagY3; let y21 ← bagZ; let y23 ← (DL.ask (mulD (.int 15485863) y21)); let x24 ← (DL.ask (addD x22 y23)); let x26 ← (DL.ask (powC x24 (.int 3))); let x29 ← (DL.ask (intD [x26])); let v19 ← (DL.ask (modD x29 (.int 2305843009213693921))); let y33 ← bagZ; let y35 ← (DL.ask (mulD (.int 32452867) y33)); let x36 ← (DL.ask (addD v19 y35)); let x38 ← (DL.ask (powC x36 (.int 2))); let x41 ← (DL.ask (intD [x38])); let v31 ← (DL.ask (modD x41 (.int 2305843009213693951))); let x45 ← (DL.ask (fdivD v31 (.int 4096))); let x48 ← (DL.ask (intD [x45])); let v50 ← (DL.ask (modD x48 a1)); pure (.rt v50))) := by
  unfold b__law_take_bb49; simp only [l__law_take_bb49_0, l__law_take_bb49_1, l__law_take_bb49_2, pure_bind, bind_assoc, mkL]
def m__law_take_bb49 : List D → M D := apM1 fun a1 => (runM false (b__law_take_bb49 a1))
theorem n__law_take_bb49 : ∀ ds s, m__law_take_bb49 ds s ≠ .stuck → ds.length = 1 := apM1_len _
def b__law_of_8ba0 (a1 : D) : M (Fl Unit Empty) := (do let v9 ← (do let x7 ← (pure a1); let y8 ← (do let r6 ← (do let x4 ← (do let r3 ← (do let x1 ← (pure a1); let r2 ← pure []; pure (x1 :: r2)); DL.ask (lenD r3)); let r5 ← pure []; pure (x4 :: r5)); m__law_take_bb49 r6); DL.ask (ixD x7 y8)); pure (.rt v9))
theorem e__law_of_8ba0 (a1 : D) : b__law_of_8ba0 a1 = (do let x4 ← (DL.ask (lenD [a1])); let y8 ← (m__law_take_bb49 [x4]); let v9 ← (DL.ask (ixD a1 y8)); pure (.rt v9)) := by
  unfold b__law_of_8ba0; simp only [pure_bind, bind_assoc, mkL]
def m__law_of_8ba0 : List D → M D := apM1 fun a1 => (runM false (b__law_of_8ba0 a1))
theorem n__law_of_8ba0 : ∀ ds s, m__law_of_8ba0 ds s ≠ .stuck → ds.length = 1 := apM1_len _
def k__law_label_b886_0 (a1 : D) (v1 : D) : M (Fl (Unit) (Empty)) := (do let v20 ← (do let x18 ← (pure (.str [])); let _ ← DL.ask (strOf x18); let y19 ← (mkL (do let r17 ← (do let r9 ← (do let x7 ← (do let x5 ← (pure (.int 1)); let y6 ← (do let r4 ← (do let x2 ← (pure a1); let r3 ← pure []; pure (x2 :: r3)); m__law_take_bb49 r4); DL.ask (addD x5 y6)); let r8 ← pure []; pure (x7 :: r8)); DL.ask (rng1 r9)); lcF (fun d => some d) (fun (c11 : D) => pure true) (fun (c11 : D) => (do let x15 ← (pure v1); let y16 ← (do let r14 ← (do let x12 ← (pure (.int 36)); let r13 ← pure []; pure (x12 :: r13)); m__law_take_bb49 r14); DL.ask (ixD x15 y16))) r17)); DL.ask (joinD x18 y19)); pure (.rt v20))
theorem l__law_label_b886_0 (a1 : D) (v1 : D) : k__law_label_b886_0 a1 v1 = (do let v20 ← (do let x18 ← (pure (.str [])); let _ ← DL.ask (strOf x18); let y19 ← (mkL (do let r17 ← (do let r9 ← (do let x7 ← (do let x5 ← (pure (.int 1)); let y6 ← (do let r4 ← (do let x2 ← (pure a1); let r3 ← pure []; pure (x2 :: r3)); m__law_take_bb49 r4); DL.ask (addD x5 y6)); let r8 ← pure []; pure (x7 :: r8)); DL.ask (rng1 r9)); lcF (fun d => some d) (fun (c11 : D) => pure true) (fun (c11 : D) => (do let x15 ← (pure v1); let y16 ← (do let r14 ← (do let x12 ← (pure (.int 36)); let r13 ← pure []; pure (x12 :: r13)); m__law_take_bb49 r14); DL.ask (ixD x15 y16))) r17)); DL.ask (joinD x18 y19)); pure (.rt v20)) := rfl
def b__law_label_b886 (a1 : D) : M (Fl Unit Empty) := (do let v1 ← (pure (.str [48, 49, 50, 51, 52, 53, 54, 55, 56, 57, 97, 98, 99, 100, 101, 102, 103, 104, 105, 106, 107, 108, 109, 110, 111, 112, 113, 114, 115, 116, 117, 118, 119, 120, 121, 122])); (k__law_label_b886_0 a1 v1))
theorem e__law_label_b886 (a1 : D) : b__law_label_b886 a1 = (do let _ ← DL.ask (strOf (.str [])); let y6 ← (m__law_take_bb49 [a1]); let x7 ← (DL.ask (addD (.int 1) y6)); let r17 ← (DL.ask (rng1 [x7])); let y19 ← (lcF (fun d => some d) (fun (c11 : D) => pure true) (fun (c11 : D) => (do let y16 ← (m__law_take_bb49 [(.int 36)]); DL.ask (ixD (.str [48, 49, 50, 51, 52, 53, 54, 55, 56, 57, 97, 98, 99, 100, 101, 102, 103, 104, 105, 106, 107, 108, 109, 110, 111, 112, 113, 114, 115, 116, 117, 118, 119, 120, 121, 122]) y16))) r17); let v20 ← (DL.ask (joinD (.str []) (.lst y19))); pure (.rt v20)) := by
  unfold b__law_label_b886; simp only [l__law_label_b886_0, pure_bind, bind_assoc, mkL]
def m__law_label_b886 : List D → M D := apM1 fun a1 => (runM false (b__law_label_b886 a1))
theorem n__law_label_b886 : ∀ ds s, m__law_label_b886 ds s ≠ .stuck → ds.length = 1 := apM1_len _
def k__law_pool_b280_0 (v1 : D) : M (Fl (Unit) (Empty)) := (do let v21 ← (mkL (do let r20 ← (do let r14 ← (do let x12 ← (do let x10 ← (pure (.int 2)); let y11 ← (do let r9 ← (do let x7 ← (pure (.int 2)); let r8 ← pure []; pure (x7 :: r8)); m__law_take_bb49 r9); DL.ask (addD x10 y11)); let r13 ← pure []; pure (x12 :: r13)); DL.ask (rng1 r14)); lcF (fun d => some d) (fun (c16 : D) => pure true) (fun (c16 : D) => (do let r19 ← (do let x17 ← (pure v1); let r18 ← pure []; pure (x17 :: r18)); m__law_label_b886 r19)) r20)); pure (.rt v21))
theorem l__law_pool_b280_0 (v1 : D) : k__law_pool_b280_0 v1 = (do let v21 ← (mkL (do let r20 ← (do let r14 ← (do let x12 ← (do let x10 ← (pure (.int 2)); let y11 ← (do let r9 ← (do let x7 ← (pure (.int 2)); let r8 ← pure []; pure (x7 :: r8)); m__law_take_bb49 r9); DL.ask (addD x10 y11)); let r13 ← pure []; pure (x12 :: r13)); DL.ask (rng1 r14)); lcF (fun d => some d) (fun (c16 : D) => pure true) (fun (c16 : D) => (do let r19 ← (do let x17 ← (pure v1); let r18 ← pure []; pure (x17 :: r18)); m__law_label_b886 r19)) r20)); pure (.rt v21)) := rfl
def b__law_pool_b280 (a1 : D) : M (Fl Unit Empty) := (do let v1 ← (iteM (do let x5 ← (do let r4 ← (do let x2 ← (pure (.int 8)); let r3 ← pure []; pure (x2 :: r3)); m__law_take_bb49 r4); let y6 ← (pure (.int 7)); DL.ask ((eqD x5 y6).bind bOf)) (pure a1) (pure (.int 2))); (k__law_pool_b280_0 v1))
theorem e__law_pool_b280 (a1 : D) : b__law_pool_b280 a1 = (do let v1 ← (iteM (do let x5 ← (m__law_take_bb49 [(.int 8)]); DL.ask ((eqD x5 (.int 7)).bind bOf)) (pure a1) (pure (.int 2))); let y11 ← (m__law_take_bb49 [(.int 2)]); let x12 ← (DL.ask (addD (.int 2) y11)); let r20 ← (DL.ask (rng1 [x12])); let v21 ← (lcF (fun d => some d) (fun (c16 : D) => pure true) (fun (c16 : D) => (m__law_label_b886 [v1])) r20); pure (.rt (.lst v21))) := by
  unfold b__law_pool_b280; simp only [l__law_pool_b280_0, pure_bind, bind_assoc, mkL]
def m__law_pool_b280 : List D → M D := apM1 fun a1 => (runM false (b__law_pool_b280 a1))
theorem n__law_pool_b280 : ∀ ds s, m__law_pool_b280 ds s ≠ .stuck → ds.length = 1 := apM1_len _
end FN
/-! ### plain laws with the wide bag: the draws are counted -/
namespace DL
def InvW (s : S) : Prop := s.w = true ∧ s.l.length ≤ 1000 ∧ 0 ≤ s.y ∧ s.y < 2305843009213693951 ∧ 0 ≤ s.z
/-- x answers after at most K draws -/
def Bk {α : Type} (K : Nat) (x : M α) (Q : α → Prop) : Prop := ∀ s, InvW s → s.z + K ≤ 100000000000 → ∃ a s', x s = .ok a s' ∧ InvW s' ∧ s'.z ≤ s.z + K ∧ Q a
section
variable {α β γ : Type} {Q : β → Prop} {P : α → Prop} {K K1 : Nat}
theorem bk_pure {a : β} (h : Q a) : Bk K (pure a : M β) Q := fun s i _ => ⟨a, s, rfl, i, by omega, h⟩
theorem bk_mono {x : M α} {P' : α → Prop} (h : Bk K1 x P) (w : ∀ a, P a → P' a) (hk : K1 ≤ K := by omega) : Bk K x P' := fun s i b => by
  obtain ⟨a, s', e, i', z, q⟩ := h s i (by omega)
  exact ⟨a, s', e, i', by omega, w a q⟩
theorem bk_then {x : M α} {f : α → M β} (h : Bk K1 x P) (w : ∀ a, P a → Bk (K - K1) (f a) Q) (hk : K1 ≤ K := by omega) : Bk K (x >>= f) Q := fun s i b => by
  obtain ⟨a, s', e, i', z, q⟩ := h s i (by omega)
  obtain ⟨b, s2, e2, i2, z2, q2⟩ := w a q s' i' (by omega)
  refine ⟨b, s2, ?_, i2, by omega, q2⟩
  show (x s).bd f = _
  rw [e]; exact e2
theorem bk_ask {o : Option α} {a : α} (e : o = some a) (h : P a) : Bk K (ask o : M α) P := by subst e; exact bk_pure h
theorem bk_noex {x : M α} (h : Bk K x P) : Bk K (Mo.noex x) P := fun s i b => by
  obtain ⟨a, s', e, i', z, q⟩ := h s i b
  refine ⟨a, s', ?_, i', z, q⟩
  show (x s).nx = _
  rw [e]; rfl
theorem bk_ite {c : Prop} [Decidable c] {x y : M α} (h1 : c → Bk K x P) (h2 : ¬ c → Bk K y P) : Bk K (if c then x else y) P := by
  by_cases h : c
  · rw [if_pos h]; exact h1 h
  · rw [if_neg h]; exact h2 h
theorem bk_runM {nr : Bool} {x : M (Fl Unit Empty)} {Q : D → Prop} (h : Bk K x (FlQ nr Q)) : Bk K (runM nr x) Q := fun s i b => by
  obtain ⟨a, s', e, i', z, q⟩ := h s i b
  unfold runM
  rw [e]
  cases a with
  | nx a =>
    obtain ⟨q1, q2⟩ := q
    subst q1
    exact ⟨.non, s', rfl, i', z, q2⟩
  | rt d => exact ⟨d, s', rfl, i', z, q⟩
  | bk b => exact b.elim
  | ct b => exact b.elim
theorem bk_seqP {x : M (Fl α β)} {k : α → M (Fl γ β)} {Q : Fl γ β → Prop} (P : α → Prop) (h : Bk K1 x (SeqQ P Q)) (w : ∀ a, P a → Bk (K - K1) (k a) Q) (hk : K1 ≤ K := by omega) : Bk K (seqF x k) Q := bk_then h (fun f q => by
  cases f with
  | nx a => exact w a q
  | rt d => exact bk_pure q
  | bk b => exact bk_pure q
  | ct b => exact bk_pure q) hk
/-- c draws a turn -/
theorem bk_for {u : D → Option γ} {xb : α → γ → M (Fl α α)} {Q : Fl α β → Prop} (c : Nat) (I : Nat → α → Prop) (ds : List D) (a0 : α) (h0 : I 0 a0) (hs : ∀ i d a, ds[i]? = some d → I i a → ∃ c', u d = some c' ∧ Bk c (xb a c') (TurnQ (I (i + 1)) Q)) (he : ∀ a, I ds.length a → Q (.nx a)) {n : Nat} (hl : ds.length ≤ n) (hk : c * n ≤ K := by omega) : Bk K (forF u xb ds a0) Q := by
  have hk' : c * ds.length ≤ K := Nat.le_trans (Nat.mul_le_mul_left c hl) hk
  clear hk hl
  induction ds generalizing I a0 K with
  | nil => exact bk_pure (he _ h0)
  | cons d ds ih =>
    unfold forF
    obtain ⟨c', e, h⟩ := hs 0 d a0 rfl h0
    rw [e]
    rw [List.length_cons, Nat.mul_add, Nat.mul_one] at hk'
    have ih' := fun (a : α) (q : I 1 a) => ih (fun i => I (i + 1)) a q (fun i d' a' e' q' => hs (i + 1) d' a' (by simpa using e') q') (fun a q => he a (by simpa using q)) (K := K - c) (by omega)
    show Bk K (xb a0 c' >>= _) Q
    refine bk_then h (fun f q => ?_) (by omega)
    cases f with
    | nx a => exact ih' a q
    | ct a => exact ih' a q
    | bk a => exact bk_pure q
    | rt d => exact bk_pure q
theorem bk_lc {u : D → Option γ} {xe : γ → M D} {P : D → D → Prop} (c : Nat) : ∀ (ds : List D) {K : Nat}, (∀ d ∈ ds, ∃ c', u d = some c' ∧ Bk c (xe c') (P d)) → ∀ {n : Nat}, ds.length ≤ n → c * n ≤ K → Bk K (lcF u (fun _ => pure true) xe ds) fun rs => All2 P ds rs
  | [], K, _, _, _, _ => bk_pure .nil
  | d :: ds, K, h, n, hl, hk => by
    have hk' : c * ds.length + c ≤ K := by
      have := Nat.le_trans (Nat.mul_le_mul_left c hl) hk
      rwa [List.length_cons, Nat.mul_add, Nat.mul_one] at this
    unfold lcF
    obtain ⟨c', e, hx⟩ := h d (.head _)
    rw [e]
    show Bk K (Mo.noex (xe c') >>= _) _
    exact bk_then (bk_noex hx) (fun y py => bk_then (bk_lc c ds (K := K - c) (fun x m => h x (.tail _ m)) (Nat.le_refl _) (by omega)) (fun r pr => bk_pure (.cons py pr)) (Nat.le_refl _)) (by omega)
theorem bk_iteM {t : M Bool} {x y : M α} (ht : Bk K1 t fun _ => True) (hx : Bk (K - K1) x P) (hy : Bk (K - K1) y P) (hk : K1 ≤ K := by omega) : Bk K (iteM t x y) P := bk_then ht (fun b _ => by
  cases b
  · exact hy
  · exact hx) hk
end
/-! the bag -/
theorem drop_len (l : List Int) : (l.dropWhile fun i => i == 0).length ≤ l.length := (List.dropWhile_sublist _).length_le
theorem okr_bagW {α β : Type} {y : Int} {l : List Int} {k : M (Fl α β)} {Q : Fl α β → Prop} {K : Nat} (hl : l.length ≤ 1000) (h0 : 0 ≤ y) (h1 : y < 2305843009213693951) (h : Bk K k Q) (hk : K ≤ 100000000000 := by omega) : OkR (withBagW (.lst [.lst (l.map .int), .int y, .int 0]) k) Q := by
  obtain ⟨a, s', e, _, _, q⟩ := h ⟨0, y, 0, l, true⟩ ⟨rfl, hl, h0, h1, Int.le_refl 0⟩ (by show (0:Int) + _ ≤ _; omega)
  refine ⟨a, ?_, q⟩
  unfold withBagW
  simp only [intsOf_map, e]
end DL
namespace FN
open DL
/-- one state -/
def MW {α : Type} (x : M α) (s : S) (Q : α → S → Prop) : Prop := ∃ a s', x s = .ok a s' ∧ Q a s'
theorem mw_bind {α β : Type} {x : M α} {f : α → M β} {s : S} {Q : β → S → Prop} (h : MW x s fun a s' => MW (f a) s' Q) : MW (x >>= f) s Q := by
  obtain ⟨a, s', e, b, s2, e2, q⟩ := h
  refine ⟨b, s2, ?_, q⟩
  show (x s).bd f = _
  rw [e]; exact e2
theorem mw_ask {α : Type} {o : Option α} {a : α} {s : S} {Q : α → S → Prop} (e : o = some a) (h : Q a s) : MW (ask o) s Q := by subst e; exact ⟨a, s, rfl, h⟩
theorem mw_pure {α : Type} {a : α} {s : S} {Q : α → S → Prop} (h : Q a s) : MW (pure a) s Q := ⟨a, s, rfl, h⟩
theorem pow_ii {i : Int} {j : Nat} (h0 : j ≤ 100) (h : i.natAbs < 2 ^ 64) : powC (.int i) (.int j) = some (.int (i ^ j)) := by
  show (if 0 ≤ (j : Int) ∧ (j : Int) ≤ 100 ∧ i.natAbs < 2 ^ 64 then some (D.int (i ^ (j : Int).toNat)) else none) = _
  rw [if_pos ⟨by omega, by omega, h⟩, Int.toNat_natCast]
theorem take_okW {n : Int} (h0 : 0 < n) (h1 : n < 4294967296) : Bk 1 (m__law_take_bb49 [.int n]) fun d => ∃ i, d = .int i ∧ 0 ≤ i ∧ i < n := by
  refine bk_runM ?_
  rw [e__law_take_bb49]
  intro s i b
  have key : MW (do bagDrop; let t51 ← bagNe; seqF (if t51 = true then (do let x5 ← bagHd; let x8 ← (DL.ask (intD [x5])); let v4 ← (DL.ask (modD x8 (.int n))); let x11 ← bagHd; let v10 ← (DL.ask (fdivD x11 (.int n))); let i13 ← DL.ask (intOf v10); bagSetHd i13; (pure (.rt v4))) else (pure (.nx ()))) fun (q3 : Unit) => (do let x16 ← bagZ; let v15 ← (DL.ask (addD x16 (.int 1))); let i18 ← DL.ask (intOf v15); bagSetZ i18; let x22 ← bagY3; let y21 ← bagZ; let y23 ← (DL.ask (mulD (.int 15485863) y21)); let x24 ← (DL.ask (addD x22 y23)); let x26 ← (DL.ask (powC x24 (.int 3))); let x29 ← (DL.ask (intD [x26])); let v19 ← (DL.ask (modD x29 (.int 2305843009213693921))); let y33 ← bagZ; let y35 ← (DL.ask (mulD (.int 32452867) y33)); let x36 ← (DL.ask (addD v19 y35)); let x38 ← (DL.ask (powC x36 (.int 2))); let x41 ← (DL.ask (intD [x38])); let v31 ← (DL.ask (modD x41 (.int 2305843009213693951))); let x45 ← (DL.ask (fdivD v31 (.int 4096))); let x48 ← (DL.ask (intD [x45])); let v50 ← (DL.ask (modD x48 (.int n))); pure (.rt v50)) : M (Fl Unit Empty)) s (fun a s' => InvW s' ∧ s'.z ≤ s.z + (1 : Nat) ∧ FlQ false (fun d => ∃ i, d = .int i ∧ 0 ≤ i ∧ i < n) a) := by
    have hm : ∀ j : Int, FlQ false (fun d => ∃ i, d = .int i ∧ 0 ≤ i ∧ i < n) (.rt (.int (j % n))) := fun j => ⟨_, rfl, Int.emod_nonneg _ (by omega), Int.emod_lt_of_pos _ h0⟩
    obtain ⟨iw, il, iy, iy2, iz⟩ := i
    refine mw_bind ⟨(), { s with l := s.l.dropWhile fun i => i == 0 }, by unfold bagDrop; rw [if_pos ⟨iw, il⟩], ?_⟩
    have il2 := Nat.le_trans (drop_len s.l) il
    generalize s.l.dropWhile (fun i => i == 0) = l at il2
    refine mw_bind ⟨!l.isEmpty, { s with l := l }, by unfold bagNe; rw [if_pos ⟨iw, il2⟩], ?_⟩
    cases l with
    | cons t l =>
      refine mw_bind ⟨.rt (.int (t % n)), { s with l := (t / n) :: l }, ?_, mw_pure ⟨⟨iw, by simpa using il2, iy, iy2, iz⟩, by show s.z ≤ _; omega, hm t⟩⟩
      show (do let x5 ← bagHd; let x8 ← (DL.ask (intD [x5])); let v4 ← (DL.ask (modD x8 (.int n))); let x11 ← bagHd; let v10 ← (DL.ask (fdivD x11 (.int n))); let i13 ← DL.ask (intOf v10); bagSetHd i13; (pure (.rt v4)) : M (Fl Unit Empty)) _ = _
      have hh : bagHd { s with l := t :: l } = .ok (.int t) { s with l := t :: l } := by unfold bagHd; simp only [iw]
      have hs : bagSetHd (t / n) { s with l := t :: l } = .ok () { s with l := (t / n) :: l } := by unfold bagSetHd; simp only [iw]
      rw [M.bind_ap, hh]
      show (do let x8 ← (DL.ask (intD [D.int t])); let v4 ← (DL.ask (modD x8 (.int n))); let x11 ← bagHd; let v10 ← (DL.ask (fdivD x11 (.int n))); let i13 ← DL.ask (intOf v10); bagSetHd i13; (pure (.rt v4)) : M (Fl Unit Empty)) _ = _
      simp only [int_int, askM, pure_bind, mod_ii h0]
      rw [M.bind_ap, hh]
      show (do let v10 ← (DL.ask (fdivD (D.int t) (.int n))); let i13 ← DL.ask (intOf v10); bagSetHd i13; (pure (.rt (.int (t % n)))) : M (Fl Unit Empty)) _ = _
      simp only [fdiv_ii h0 (by omega : n.natAbs < 2 ^ 64), int_of, askM, pure_bind]
      rw [M.bind_ap, hs]
      rfl
    | nil =>
      refine mw_bind ⟨.nx (), { s with l := [] }, rfl, ?_⟩
      show MW (do let x16 ← bagZ; _) _ _
      refine mw_bind ⟨.int s.z, { s with l := [] }, by unfold bagZ; rw [if_pos iw], ?_⟩
      refine mw_bind (mw_ask add_ii (mw_bind (mw_ask (int_of) (mw_bind ⟨(), { s with l := [], z := s.z + 1 }, by unfold bagSetZ; rw [if_pos iw], ?_⟩))))
      refine mw_bind ⟨.int s.y, { s with l := [], z := s.z + 1 }, by unfold bagY3; rw [if_pos iw], ?_⟩
      refine mw_bind ⟨.int (s.z + 1), { s with l := [], z := s.z + 1 }, by unfold bagZ; rw [if_pos iw], ?_⟩
      refine mw_bind (mw_ask (mul_ii (by omega) (by omega)) (mw_bind (mw_ask add_ii (mw_bind (mw_ask (pow_ii (j := 3) (by omega) (by omega)) (mw_bind (mw_ask int_int (mw_bind (mw_ask (mod_ii (by omega)) ?_)))))))))
      refine mw_bind ⟨.int (s.z + 1), { s with l := [], z := s.z + 1 }, by unfold bagZ; rw [if_pos iw], ?_⟩
      have g0 := Int.emod_nonneg ((s.y + 15485863 * (s.z + 1)) ^ 3) (by omega : (2305843009213693921 : Int) ≠ 0)
      have g1 := Int.emod_lt_of_pos ((s.y + 15485863 * (s.z + 1)) ^ 3) (by omega : (0 : Int) < 2305843009213693921)
      generalize (s.y + 15485863 * (s.z + 1)) ^ 3 % 2305843009213693921 = g at g0 g1
      refine mw_bind (mw_ask (mul_ii (by omega) (by omega)) (mw_bind (mw_ask add_ii (mw_bind (mw_ask (pow_ii (j := 2) (by omega) (by omega)) (mw_bind (mw_ask int_int (mw_bind (mw_ask (mod_ii (by omega)) ?_)))))))))
      refine mw_bind (mw_ask (fdiv_ii (by omega) (by omega)) (mw_bind (mw_ask int_int (mw_bind (mw_ask (mod_ii h0) (mw_pure ⟨⟨iw, by simp, iy, iy2, by show 0 ≤ s.z + 1; omega⟩, by show s.z + 1 ≤ _; omega, hm _⟩))))))
  obtain ⟨a, s', e, q⟩ := key
  exact ⟨a, s', e, q⟩
theorem of_okW {ds : List D} (h0 : ds ≠ []) (h1 : ds.length ≤ 1000000) : Bk 1 (m__law_of_8ba0 [.lst ds]) fun d => d ∈ ds := by
  refine bk_runM ?_
  rw [e__law_of_8ba0]
  have hp : 0 < ds.length := List.length_pos_iff.mpr h0
  simp only [len_lst, askM, pure_bind]
  refine bk_then (take_okW (n := ds.length) (by omega) (by omega)) ?_
  rintro d ⟨i, rfl, h2, h3⟩
  simp only [ix_lst h2 h3, askM, pure_bind]
  exact bk_pure (List.getElem_mem _)
theorem ints_of : ∀ L : List D, (∀ z ∈ L, ∃ i : Int, z = .int i) → ∃ l : List Int, L = l.map .int ∧ l.length = L.length
  | [], _ => ⟨[], rfl, rfl⟩
  | d :: L, h => by
    obtain ⟨i, rfl⟩ := h d (.head _)
    obtain ⟨l, e, hl⟩ := ints_of L fun z m => h z (.tail _ m)
    exact ⟨i :: l, by rw [e]; rfl, by simp [hl]⟩
def intP : D → Bool
  | .int i => decide ((1000000000000000000 : Int) ≤ if i < 0 then -i else i)
  | _ => false
def intA : D → D
  | .int i => .int (if i < 0 then -i else i)
  | d => d
theorem bag_okW (ns : List Int) (hn : ns.length ≤ 63) : OkR (m__law_bag_d7b5 [.scr ns]) fun d => ∃ (l : List Int) (y : Int), d = .lst [.lst (l.map .int), .int y, .int 0] ∧ l.length ≤ 1000 ∧ 0 ≤ y ∧ y < 2305843009213693951 := by
  have e3 : powC (.int 10) (.int 18) = some (.int 1000000000000000000) := rfl
  have il : itD (.scr ns) = some (ns.map .int) := rfl
  refine okr_runR ?_
  simp only [e__law_bag_d7b5, il, askR, pure_bind]
  refine okr_seqP (fun q => ∃ y : Int, q = .int y ∧ 0 ≤ y ∧ y < 2305843009213693951) (okr_for (fun _ (q : D) => ∃ y : Int, q = .int y ∧ 0 ≤ y ∧ y < 2305843009213693951) _ _ ⟨_, rfl, by omega, by omega⟩ (fun k d q hd hq => ⟨d, rfl, ?_⟩) (fun q hq => by obtain ⟨y, h⟩ := hq; exact ⟨y, h⟩)) ?_
  · obtain ⟨y, rfl, y0, y1⟩ := hq
    rw [List.getElem?_map] at hd
    cases e : ns[k]? with
    | none => rw [e] at hd; cases hd
    | some c =>
      rw [e] at hd
      cases hd
      simp only [abs_i, e3, askR, pure_bind, lt_ii, Option.bind_some, bOf_bl]
      refine okr_seqP (fun q => ∃ y : Int, q = .int y ∧ 0 ≤ y ∧ y < 2305843009213693951) ?_ (fun q hq => okr_p hq)
      by_cases c1 : (if c < 0 then -c else c) < 1000000000000000000
      · have c2 : c.natAbs < 2 ^ 64 := by split at c1 <;> omega
        simp only [decide_eq_true c1, if_true, mul_ii (i := y) (j := 6364136223846793005) (by omega) (by omega), mul_ii (i := c) (j := 48271) c2 (by omega), askR, pure_bind, add_ii, int_int, mod_ii (j := 2305843009213693951) (by omega)]
        exact okr_p ⟨_, rfl, Int.emod_nonneg _ (by omega), Int.emod_lt_of_pos _ (by omega)⟩
      · simp only [decide_eq_false c1, Bool.false_eq_true, if_false]
        exact okr_p ⟨y, rfl, y0, y1⟩
  rintro q ⟨y, rfl, y0, y1⟩
  have lc := lcR (u := fun d => some d) (xt := fun (c29 : D) => (do let x33 ← (DL.ask (absD [c29])); let y34 ← (DL.ask (powC (.int 10) (.int 18))); DL.ask ((geD x33 y34).bind bOf))) (xe := fun (c29 : D) => (DL.ask (absD [c29]))) (c := fun d => d) (p := intP) (f := intA) (ns.map .int) (fun _ _ => rfl) (fun d m => by
    obtain ⟨i, _, rfl⟩ := List.mem_map.mp m
    rfl) (fun d m _ => by
    obtain ⟨i, _, rfl⟩ := List.mem_map.mp m
    rfl)
  rw [lc]
  obtain ⟨l, el, hl⟩ := ints_of (((ns.map .int).filter intP).map intA) fun z m => by
    obtain ⟨d, hd, rfl⟩ := List.mem_map.mp m
    obtain ⟨i, _, rfl⟩ := List.mem_map.mp (List.mem_filter.mp hd).1
    exact ⟨_, rfl⟩
  have hl2 : l.length ≤ 63 := by
    rw [hl, List.length_map]
    exact Nat.le_trans (List.length_filter_le _ _) (by rw [List.length_map]; exact hn)
  rw [el, okpR]
  simp only [pure_bind]
  rw [sz_ok (by simp)]
  simp only [askR, pure_bind]
  exact okr_p ⟨l, y, rfl, by omega, y0, y1⟩
theorem all2_chrs : ∀ {ds rs : List D}, All2 (fun _ r => ∃ c ∈ CH, r = D.str [c]) ds rs → ∃ z : List Nat, rs = chrs z ∧ z.length = ds.length ∧ ∀ c ∈ z, c ∈ CH
  | _, _, .nil => ⟨[], rfl, rfl, by simp⟩
  | _, _, .cons ⟨c, hc, e⟩ t => by
    obtain ⟨z, rfl, hl, hz⟩ := all2_chrs t
    subst e
    exact ⟨c :: z, rfl, by simp [hl], fun x m => by
      rcases List.mem_cons.mp m with rfl | m
      · exact hc
      · exact hz x m⟩
theorem label_okW {m : Int} (m1 : 1 ≤ m) (m2 : m ≤ 20) : Bk 21 (m__law_label_b886 [.int m]) fun d => ∃ z, d = .str z ∧ isLab m.toNat z = true := by
  refine bk_runM ?_
  simp only [e__law_label_b886, str_of, askM, pure_bind]
  refine bk_then (take_okW (n := m) (by omega) (by omega)) ?_
  rintro d ⟨k, rfl, k0, k1⟩
  simp only [add_ii, askM, pure_bind]
  rw [rng1_ok (by omega) (by omega)]
  simp only [askM, pure_bind]
  refine bk_then (K1 := 20) (bk_lc (P := fun _ r => ∃ c ∈ CH, r = D.str [c]) 1 _ (fun d _ => ⟨d, rfl, ?_⟩) (n := 20) (by rw [range_len]; omega) (by omega)) ?_
  · refine bk_then (take_okW (n := 36) (by omega) (by omega)) ?_
    rintro d ⟨i, rfl, i0, i1⟩
    obtain ⟨c, hc, e⟩ := ix_str (z := CH) i0 (by rw [ch36]; exact i1)
    exact bk_ask e ⟨c, hc, rfl⟩
  intro rs hrs
  obtain ⟨z, rfl, hl, hz⟩ := all2_chrs hrs
  rw [range_len] at hl
  rw [join_chrs (by omega)]
  simp only [askM, pure_bind]
  exact bk_pure ⟨z, rfl, isLab_iff.mpr ⟨by omega, by omega, hz⟩⟩
theorem of_labW {zs : List (List Nat)} (h : Lab8 zs) : Bk 1 (m__law_of_8ba0 [.lst (zs.map .str)]) fun d => ∃ z, d = .str z ∧ isLab 20 z = true :=
  bk_mono (of_okW (by simpa using h.1) (by rw [List.length_map]; have := h.2.1; omega)) fun d hd => by
    obtain ⟨z, hz, rfl⟩ := List.mem_map.mp hd
    exact ⟨z, rfl, h.2.2 z hz⟩
end FN
/-! ### tables with the wide bag (k63, k64, k66) -/
namespace FN
open DL PySem PySem.W
end FN
namespace FN
open DL PySem PySem.W
end FN
namespace DL
open PySem L2
/-! ### a tuple times an int -/
def mulTD : D → D → Option D
  | .tup a, .int k => if a ≠ [] ∧ 2 ≤ k ∧ k ≤ 1000 ∧ a.length ≤ 1000 then some (.tup (List.replicate k.toNat a).flatten) else none
  | _, _ => none
theorem od_mulT {X : Cx} : OpR X (binaryOp .Mult) (rD2 X.K X.mg mulTD) := by
  intro pins s σ H x y v u Q I rx ry h
  obtain ⟨Hf, dx, dy, d, sb, ix, iy, e, q⟩ := h
  unfold mulTD at e
  split at e
  · split at e
    · rename_i a k hc
      cases e
      obtain ⟨z1, p1, v1, rfl, h1, l1⟩ := ix
      cases iy
      refine op_repT pins s σ H _ _ v u Q I rx ry ⟨_, _, _, rfl, rfl, sb.sqt h1, fun z => hc.1 ?_, hc.2.1, hc.2.2.1, by rw [← l1.len]; exact hc.2.2.2, fun p hp => q _ _ _ (.new sb hp) ⟨?_, p, _, rfl, .inl (.inl upd_same), ?_⟩⟩
      · have := l1.len
        rw [z] at this
        exact List.eq_nil_of_length_eq_zero (by simpa using this)
      · rw [rep_len, sizeLine_eq]
        have : a.length * k.toNat ≤ 1000 * 1000 := Nat.mul_le_mul hc.2.2.2 (by omega)
        omega
      · have l2 := l1.mono (Ste.new (bag := []) (o := .tup (List.replicate k.toNat v1).flatten) sb hp).sub
        exact isL_rep l2 _
    · cases e
  · cases e
end DL
/-! ### == and != of rows of own objects -/
namespace DL
open PySem PySem.Spec PyProof.Rows L2 PySem.SeqAt PySem.MeetsSeq PySem.MeetsSeq2 PySem.MeetsSeq3 PySem.SeqRoads2
section
variable {prog : Program} {w : World} {A : Around} {R : Result → Shared → Prop}
/-- the pairs are compared, one by one, while J stays -/
inductive Eqs (prog : Program) (w : World) (A : Around) (J : Shared → Prop) : List (Value × Value) → List Bool → Prop where
  | nil : Eqs prog w A J [] []
  | cons {y x : Value} {r : Bool} {l : List (Value × Value)} {rs : List Bool} (h : ∀ (t : Shared) (E : Value → Shared → Prop) (Q : Bool → Shared → Prop), J t → (∀ t', J t' → Q r t') → wpAny (model prog w) A.in1 (eqBool y x) Q E t)
    (tl : Eqs prog w A J l rs) : Eqs prog w A J ((y, x) :: l) (r :: rs)
theorem Eqs.get {J : Shared → Prop} : ∀ {l : List (Value × Value)} {rs : List Bool} {i : Nat} {y x : Value}, Eqs prog w A J l rs → l[i]? = some (y, x) →
    ∃ r, rs[i]? = some r ∧ ∀ (t : Shared) (E : Value → Shared → Prop) (Q : Bool → Shared → Prop), J t → (∀ t', J t' → Q r t') → wpAny (model prog w) A.in1 (eqBool y x) Q E t
  | _, _, _, _, _, .nil, e => by simp at e
  | _, _, 0, _, _, .cons h _, e => by
    simp at e
    obtain ⟨rfl, rfl⟩ := e
    exact ⟨_, rfl, h⟩
  | _, _, i + 1, _, _, .cons _ tl, e => by
    obtain ⟨r, h1, h2⟩ := tl.get (i := i) (by simpa using e)
    exact ⟨r, by simpa using h1, h2⟩
end
end DL
/-! ### == and != of rows of own objects: the mirrors and their rules -/
namespace DL
open PySem PySem.Spec PyProof.Rows L2
end DL
/-! ### __init__ with a star and keyword-only parameters -/
namespace DL
open PySem PySem.Spec PyProof.Rows L2 StX
section
variable {K : PySem.W.Frag} {mg : Str → Option Value}
/-- the defaults are looked up in the def's own namespace of them -/
def KwRun {α : Type} (D : Addr) : List (Str × Value) → Sem α → Sem α → Prop
  | [], t, r => t = r
  | q :: l, t, r => ∃ (β γ : Type) (k1 : Option Value → Sem β) (k2 : β → Sem γ) (k3 : γ → Sem α) (a : β), t = ((nsGet D q.1 >>= k1) >>= k2) >>= k3 ∧ k1 (some q.2) = pure a ∧ KwRun D l (k2 a >>= k3) r
theorem KwRun.run {α : Type} {M : Model} {A : Around} {D : Addr} {Q : α → Shared → Prop} {E : Value → Shared → Prop} {s : Shared} (X : K.In s.heap) : ∀ {l : List (Str × Value)} {t r : Sem α}, (∀ q ∈ l, PySem.W.nsIn K D q.1 = some (some q.2)) → KwRun D l t r → wpAny M A r Q E s → wpAny M A t Q E s
  | [], _, _, _, e, h => by rw [show _ = _ from e]; exact h
  | q :: l, t, r, hl, e, h => by
    obtain ⟨β, γ, k1, k2, k3, a, rfl, e2, e3⟩ := e
    have flat : ((nsGet D q.1 >>= k1) >>= k2) >>= k3 = nsGet D q.1 >>= fun o => k1 o >>= fun b => k2 b >>= k3 := by simp only [bind_assoc]
    rw [flat]
    refine wpAny_bind ((PySem.W.looks_nsIn X (hl q (.head _))).at ?_)
    rw [e2, pure_bind]
    exact KwRun.run X (fun q hq => hl q (.tail _ hq)) e3 h
end
end DL
/-! ### the head by one run in the kernel: a Hook that tells Bools of a part of the heap, and the defs' texts -/
namespace DL
open PySem PySem.Spec PyProof.Rows L2
/-! a function object, looked at -/
abbrev FnV : Type := Option (Str × Str × Arguments × FuncBody × Scope × Addr × List Str × Addr)
def fnV (K : PySem.W.Frag) (a : Addr) : FnV := match K.lookup a with
  | some ⟨_, _, .func fd, _⟩ => some (fd.name, fd.qualname, fd.params, fd.body, fd.scope, fd.globals, fd.closure.map (·.1), fd.builtins)
  | _ => none
abbrev fnT (x qual : Str) (st : Stmt) (cl : List Str) : FnV := some (x, qual, defArgs st, .stmts (defBody st), defScope st, mainGlobals, cl, builtinsNs)
def isNoneV : Value → Bool
  | .none => true
  | _ => false
theorem isNoneV_ok {v : Value} (h : isNoneV v = true) : v = .none := by cases v <;> first | rfl | cases h
/-- no defaults; its code has this name -/
def codB (K : PySem.W.Frag) (a : Addr) (q : Str) : Bool := match K.lookup a with
  | some ⟨_, _, .func fd, _⟩ => PySem.W.codeIn K fd.code q && isNoneV fd.defaults
  | _ => false
section
variable {K : PySem.W.Frag}
theorem fun_of {a : Addr} {x qual : Str} {pa : Arguments} {bo : List Stmt} {sc : Scope} (e : fnV K a = some (x, qual, pa, .stmts bo, sc, mainGlobals, [], builtinsNs)) (c : codB K a qual = true) : ∃ oc od kV doc pm an cd ct sl,
    K.lookup a = some ⟨oc, od, .func (PySem.W.fnOf x qual pa bo sc .none kV doc pm an cd ct), sl⟩ ∧ PySem.W.codeIn K cd qual = true := by
  unfold fnV at e
  unfold codB at c
  cases q : K.lookup a with
  | none => rw [q] at c; cases c
  | some o =>
    obtain ⟨oc, od, dt, osl⟩ := o
    rw [q] at c e
    cases dt with
    | func fd =>
      obtain ⟨n1, n2, n3, n4, n5, n6, n7, n8, n9, n10, n11, n12, n13, n14, n15⟩ := fd
      have e2 : (some (n1, n2, n3, n4, n5, n6, n7.map (·.1), n15) : FnV) = some (x, qual, pa, .stmts bo, sc, mainGlobals, [], builtinsNs) := e
      simp only [Option.some.injEq, Prod.mk.injEq, List.map_eq_nil_iff] at e2
      obtain ⟨h1, h2, h3, h4, h5, h6, h7, h8⟩ := e2
      subst h1 h2 h3 h4 h5 h6 h7 h8
      have c2 : (PySem.W.codeIn K n13 n2 && isNoneV n8) = true := c
      rw [Bool.and_eq_true] at c2
      have h9 := isNoneV_ok c2.2
      subst h9
      exact ⟨oc, od, n9, n10, n11, n12, n13, n14, osl, rfl, c2.1⟩
    | _ => cases c
/-! own error classes -/
def xcB (K : PySem.W.Frag) (C : Addr) (b : PySem.OwnX.XB) : Bool := match K.lookup C with
  | some ⟨.type "type", _, .cls cd, sl⟩ => (match cd.mro, sl.toList with
    | .ref C' :: bm, [_, _, _, _, some (.builtin n), _] => (C' == C && n == b.nw) && (!cd.hasDel && (cd.hasDict && PySem.OwnX.overB b bm))
    | _, _ => false)
  | _ => false
theorem xc_of {C : Addr} {b : PySem.OwnX.XB} (h : xcB K C b = true) : ∃ (b : PySem.OwnX.XB) (nm q : Str) (N : Addr) (bs bm : List Value) (sn : List Str) (sub : List Value) (ab : Bool) (col : Option Bool) (dd : Option Addr) (k0 k1 k2 k3 k5 : Option Value),
    K.lookup C = some (excClassObj nm q C N bs bm true sn sub ab col dd k0 k1 k2 k3 k5 b.nw) ∧ PySem.OwnX.overB b bm = true := by
  unfold xcB at h
  split at h
  · rename_i dd cd sl ho
    split at h
    · rename_i C' bm k0 k1 k2 k3 n k5 hm hs
      simp only [Bool.and_eq_true, Bool.not_eq_true', beq_iff_eq] at h
      obtain ⟨⟨rfl, rfl⟩, hd, hh, hb⟩ := h
      obtain ⟨a1, a2, a3, a4, a5, a6, a7, a8, a9, a10, a11⟩ := cd
      simp only at hm hd hh
      subst hm hd hh
      have es : sl = #[k0, k1, k2, k3, some (.builtin b.nw), k5] := by
        have := congrArg List.toArray hs
        simpa using this
      subst es
      exact ⟨b, _, _, _, _, bm, _, _, _, _, dd, k0, k1, k2, k3, k5, ho, hb⟩
    · cases h
  · cases h
def kwN (K : PySem.W.Frag) (a : Addr) : Bool := match K.lookup a with
  | some ⟨_, _, .func fd, _⟩ => isNoneV fd.kwdefaults
  | _ => false
/-- a def without any defaults -/
theorem funN_of {a : Addr} {x qual : Str} {pa : Arguments} {bo : List Stmt} {sc : Scope} (e : fnV K a = some (x, qual, pa, .stmts bo, sc, mainGlobals, [], builtinsNs)) (c : codB K a qual = true) (n : kwN K a = true) : ∃ oc od doc pm an cd ct sl,
    K.lookup a = some ⟨oc, od, .func (PySem.W.fnOf x qual pa bo sc .none .none doc pm an cd ct), sl⟩ ∧ PySem.W.codeIn K cd qual = true := by
  obtain ⟨oc, od, kV, doc, pm, an, cd, ct, sl, l, q⟩ := fun_of e c
  have e1 : kV = .none := by
    unfold kwN at n
    rw [l] at n
    exact isNoneV_ok n
  subst e1
  exact ⟨oc, od, doc, pm, an, cd, ct, sl, l, q⟩
/-! descriptors -/
def strB (o : Option (Option Value)) (z : Str) : Bool := match o with
  | some (some (.str y _)) => decide (y = z)
  | _ => false
theorem strB_ok {o : Option (Option Value)} {z : Str} (h : strB o z = true) : ∃ t, o = some (some (.str z t)) := by
  unfold strB at h
  split at h
  · exact ⟨_, by rw [of_decide_eq_true h]⟩
  · cases h
def intB (o : Option (Option Value)) (z : Int) : Bool := match o with
  | some (some (.int y _)) => decide (y = z)
  | _ => false
theorem intB_ok {o : Option (Option Value)} {z : Int} (h : intB o z = true) : ∃ t, o = some (some (.int z t)) := by
  unfold intB at h
  split at h
  · exact ⟨_, by rw [of_decide_eq_true h]⟩
  · cases h
end
/-! ### the Hook -/
def isClsO (o : Obj) : Bool := match o.data with
  | .cls _ => true
  | _ => false
def refsF (o : Obj) : List Addr := match o.data with
  | .func fd => He.refV fd.code ++ (He.refV fd.kwdefaults ++ fd.closure.map (·.2))
  | .cls cd => cd.ns :: cd.mro.tail.flatMap He.refV
  | .dict es _ => es.toList.flatMap fun e => He.refV e.val
  | .fields vs => (match o.cls with
    | .type "code" => []
    | _ => vs.toList.flatMap He.refV)
  | _ => []
def nxF (g : Addr → Option Obj) (as : List Addr) : List Addr := as.flatMap fun a => match g a with
  | some o => refsF o
  | none => []
def clF (g : Addr → Option Obj) (b : Bool) (as : List Addr) : List Addr := as.filter fun a => match g a with
  | some o => isClsO o == b
  | none => false
/-- a list with its numbers worked out -/
def frA {α : Type} : List Addr → (List Addr → α) → α
  | [], k => k []
  | a :: r, k => HandSHeadRun.frNat a fun a => frA r fun r => k (a :: r)
theorem frA_eq {α : Type} : ∀ (as : List Addr) (k : List Addr → α), frA as k = k as
  | [], _ => rfl
  | a :: r, k => by
    show HandSHeadRun.frNat a (fun a => frA r fun r => k (a :: r)) = _
    rw [HandSHeadRun.frNat_eq, frA_eq r]
def frK {α : Type} (g : Addr → Option Obj) : List Addr → (PySem.W.Frag → α) → α
  | [], k => k []
  | a :: r, k => HandSHeadRun.frNat a fun a => match g a with
    | some o => frK g r fun K => k ((a, o) :: K)
    | none => frK g r k
theorem frK_eq {α : Type} (g : Addr → Option Obj) : ∀ (as : List Addr) (k : PySem.W.Frag → α), frK g as k = k (He.frG g as)
  | [], _ => rfl
  | a :: r, k => by
    show HandSHeadRun.frNat a (fun a => match g a with
      | some o => frK g r fun K => k ((a, o) :: K)
      | none => frK g r k) = _
    rw [HandSHeadRun.frNat_eq]
    unfold He.frG
    rw [List.filterMap_cons]
    cases h : g a with
    | none => exact frK_eq g r k
    | some o => exact frK_eq g r fun K => k ((a, o) :: K)
/-- what the module's names reach: classes and what is theirs first -/
def asF {α : Type} (g : Addr → Option Obj) (k : List Addr → α) : α :=
  frA (nxF g [mainGlobals]) fun l1 => frA (clF g true l1) fun lc => frA (clF g false l1) fun lf => frA (nxF g lc) fun ln => frA (nxF g ln) fun lm => frA (nxF g lm) fun lx => frA (nxF g lf) fun lk => frA (nxF g lx) fun ly =>
    k (mainGlobals :: cStatics :: (lc ++ (ln ++ (lm ++ (lf ++ (lx ++ (lk ++ ly)))))))
def asL (g : Addr → Option Obj) : List Addr := asF g fun as => as
theorem asF_eq {α : Type} (g : Addr → Option Obj) (k : List Addr → α) : asF g k = k (asL g) := by
  unfold asL asF
  simp only [frA_eq]
/-- a look at the part of the heap -/
def obF {β : Type} (f : PySem.W.Frag → β) (g : Addr → Option Obj) : β := asF g fun as => frK g as f
theorem obF_eq {β : Type} (f : PySem.W.Frag → β) (g : Addr → Option Obj) : obF f g = f (He.frG g (asL g)) := by
  unfold obF
  rw [asF_eq, frK_eq]
abbrev AlH : Type := Bool × List FnV
def hookH (ex : PySem.W.Frag → Bool) (fs : PySem.W.Frag → List FnV) (vs : List FnV) : PySem.W.Hook where
  α := AlH
  obs := fun s => (ex (He.frG s.heap.get? (asL s.heap.get?)), fs (He.frG s.heap.get? (asL s.heap.get?)))
  val := fun _ => (true, vs)
  says := fun _ h => ∃ K : PySem.W.Frag, K.In h ∧ ex K = true ∧ fs K = vs
  of := fun _ _ e => ⟨_, He.frG_in, congrArg (fun z : AlH => z.1) e, congrArg (fun z : AlH => z.2) e⟩
  keeps := fun _ _ _ ⟨K, hK, c⟩ k => ⟨K, PySem.W.Frag.In.keeps hK k, c⟩
def obH (ex : PySem.W.Frag → Bool) (fs : PySem.W.Frag → List FnV) (s : PySem.W.SharedT) : AlH := (obF ex (HandSHeadRun.getT s), obF fs (HandSHeadRun.getT s))
theorem obH_eq {ex : PySem.W.Frag → Bool} {fs : PySem.W.Frag → List FnV} {vs : List FnV} (s : PySem.W.SharedT) : obH ex fs s = (hookH ex fs vs).obs s.abs := by
  have e : HandSHeadRun.getT s = s.abs.heap.get? := funext (HandSHeadRun.getT_eq s)
  unfold obH
  rw [obF_eq, obF_eq, e]
  rfl
/-! the run's equation, in parts -/
open HandSHeadRun in
def PartEq (r : PySem.W.OpenRow) (M : Nat) (w : World) {β : Type} (f : PySem.W.SharedT → β) (v : β) : Prop := ∀ os : OsState, (endF (stepQ (denQ tabQ) r.prog w) M r.prog w os).map f = some v
section
variable {r : PySem.W.OpenRow} {M : Nat} {w : World}
theorem PartEq.pair {β γ : Type} {f : PySem.W.SharedT → β} {g : PySem.W.SharedT → γ} {v : β} {u : γ} (a : PartEq r M w f v) (b : PartEq r M w g u) : PartEq r M w (fun s => (f s, g s)) (v, u) := fun os => by
  have h1 := a os
  have h2 := b os
  cases e : HandSHeadRun.endF (HandSHeadRun.stepQ (HandSHeadRun.denQ HandSHeadRun.tabQ) r.prog w) M r.prog w os with
  | none => rw [e] at h1; cases h1
  | some s =>
    rw [e] at h1 h2
    have e1 := Option.some.inj h1
    have e2 := Option.some.inj h2
    show some (f s, g s) = some (v, u)
    rw [e1, e2]
open PySem.W PySem.Calls PyProof.Rows in
theorem PartEq.run {q : Program} {loose : List PySem.Str} {ex : PySem.W.Frag → Bool} {fs : PySem.W.Frag → List FnV} {vs : List FnV}
    (a : PartEq r M w (fun s => (HandSHeadRun.looksF r.prog (boot_heap w.params) s.abs, HandSHeadRun.seenQ q loose (importedModules r.prog.main.body) (fun s => xlAt q [] s && recOk r.toRowW.records s) s.abs)) (true, openGood q loose))
    (b : PartEq r M w (fun s => obF ex (HandSHeadRun.getT s)) true) (c : PartEq r M w (fun s => obF fs (HandSHeadRun.getT s)) vs) : HandSHeadRun.RunEq r q (hookH ex fs vs) (obH ex fs) M loose w := fun os => by
  have h := (a.pair (b.pair c)) os
  cases e : HandSHeadRun.endF (HandSHeadRun.stepQ (HandSHeadRun.denQ HandSHeadRun.tabQ) r.prog w) M r.prog w os with
  | none => rw [e] at h; cases h
  | some s =>
    rw [e] at h
    have h1 := Option.some.inj h
    simp only [Prod.mk.injEq] at h1
    obtain ⟨⟨a1, a2⟩, b1, c1⟩ := h1
    exact congrArg some (Prod.ext a1 (Prod.ext a2 (Prod.ext b1 c1)))
end
/-- the end, where the head tells some part of the heap -/
theorem walk_gE {l : PySem.W.OpenLaw} {n k : Nat} {q : Program} {loose : List Str} {XP : (Str → Option Value) → Heap → Prop} {YP : World → Heap → Prop} {d : DefRec} {x : Str} {g : List D → R D}
    (hn : l.most = some n) (hn2 : n ≤ sizeLine) (hdf : d.params.defaults = []) (hr : Room k callerA)
    (F : ∀ (w : World) (mg : Str → Option Value) (fa : Addr) (h : Heap), YP w h → h.Ns mainGlobals mg → mg d.name = some (.ref fa) →
      ∃ (K : PySem.W.Frag) (fd : FuncData), K.In h ∧ (∀ (s : Shared) (u : Value), BindsTo s fd ⟨[u], []⟩ [(x, u)]) ∧ ∀ base : Heap, K.In base → base.Ns mainGlobals mg → FnG l.prog w K mg base k fa fd [x] (spR K mg false 1 g))
    (hg : ∀ ns : List Int, ns.length ≤ n → g [.scr ns] = .ok (.bl true)) :
    PySem.W.WalkO q loose XP YP l.row.toRowW d [] (fun f vs => PySem.call f vs) := by
  refine Att.attach_call hn hdf fun w s0 s1 mg mb fa o pm cd doc a vs ns G Y ho hd hcd hmg hobj hints hlen hgn => ?_
  obtain ⟨K, fd, KX, hb, hF⟩ := F w mg fa _ Y G.T.g hmg
  exact law_callG KX G.T.g G.T.b G.T.builtins G.T.nolimit hgn hobj hints (Nat.le_trans hlen hn2) hr hF hb (hg ns hlen)
end DL
/-! ### two fresh lists unpacked into names (where a comprehension captures one of them) -/
namespace DL
open PySem L2
end DL
/-! ### rows of hosts, walked (k63, k64) -/
namespace FN
open DL PySem PySem.W
theorem lc_mapG {α : Type} {xe : D → M D} (g f : α → D) : ∀ (as : List α), (∀ a ∈ as, xe (g a) = pure (f a)) → lcF (fun d => some d) (fun _ => (pure true : M Bool)) xe (as.map g) = pure (as.map f)
  | [], _ => rfl
  | a :: as, h => by
    rw [List.map_cons]
    unfold lcF
    simp only [askM, pure_bind, noex_M, if_true, h a (.head _), lc_mapG g f as (fun x m => h x (.tail _ m))]
    rfl
theorem exbind {α β : Type} {e : Exn} {f : α → R β} : (R.ex e >>= f) = R.ex e := rfl
theorem pool_okX2 : Bk 70 (m__law_pool_b280 [.int 20]) fun d => ∃ zs : List (List Nat), d = .lst (zs.map .str) ∧ Lab8 zs ∧ 2 ≤ zs.length := by
  refine bk_runM ?_
  simp only [e__law_pool_b280]
  refine bk_then (K1 := 1) (P := fun d => ∃ m : Int, d = .int m ∧ 1 ≤ m ∧ m ≤ 20) ?_ ?_
  · refine bk_iteM (K1 := 1) (bk_then (take_okW (n := 8) (by omega) (by omega)) fun d hd => by
      obtain ⟨j, rfl, _, _⟩ := hd
      exact bk_ask (by rfl) trivial) (bk_pure ⟨20, rfl, by omega, by omega⟩) (bk_pure ⟨2, rfl, by omega, by omega⟩)
  rintro d ⟨m, rfl, m1, m2⟩
  refine bk_then (take_okW (n := 2) (by omega) (by omega)) ?_
  rintro d ⟨k, rfl, k0, k1⟩
  simp only [add_ii, askM, pure_bind]
  rw [rng1_ok (by omega) (by omega)]
  simp only [askM, pure_bind]
  refine bk_then (K1 := 63) (bk_lc (P := fun _ r => ∃ z, r = .str z ∧ isLab 20 z = true) 21 _ (fun d _ => ⟨d, rfl, bk_mono (label_okW m1 m2) fun d hd => ?_⟩) (n := 3) (by rw [range_len]; omega) (by omega)) ?_
  · obtain ⟨z, rfl, hz⟩ := hd
    exact ⟨z, rfl, isLab_up hz (by omega)⟩
  intro rs hrs
  obtain ⟨zs, rfl, hl, hz⟩ := all2_P hrs
  rw [range_len] at hl
  exact bk_pure ⟨zs, rfl, ⟨fun e => by rw [e] at hl; simp at hl; omega, by omega, hz⟩, by omega⟩
end FN
/-! ### rules drawn and made (the laws of books) -/
namespace FN
open DL PySem PySem.W
end FN
/-! ### isinstance of the caught error: own classes, tuples of them -/
namespace DL
open PySem PySem.Spec PyProof.Rows L2
def rIsXT (K : PySem.W.Frag) (C a dd : Addr) (f : Str) : List V → Hp → VK → Prop := fun xs H Q => ∃ (tp : Addr) (cs : List V) (v : V) (ws : List Value) (b : Bool), xs = [.ref a, .ref tp] ∧ H tp = some (.tup cs) ∧ Paired ClsV cs ws ∧ H dd = some (.xd [(f, v)]) ∧ PySem.W.kitAny K (.ref C) ws = some b ∧ Q (.bl b) H
theorem call_isXT {X : Cx} {a C dd : Addr} {f : Str} {oe : Obj} {pn : List (Addr × Obj)} (E : ExcC X.K C) (hz : Zc (.ref C) (some dd) oe) (hf : ∃ vs, oe.data = .fields vs) : CallR (X.suite a ((a, oe) :: pn)) (.builtin "isinstance") (rIsXT X.K C a dd f) := by
  intro pins s σ H xs us Q I r h
  obtain ⟨tp, cs, v, ws, b, rfl, hT, k, hdd, e, q⟩ := h
  obtain ⟨u1, u2, rfl, r1, r2⟩ := vals2 r
  cases (show u2 = Value.ref tp from r2)
  cases (show u1 = Value.ref a from r1)
  obtain ⟨hget, _⟩ := I.pin (a, oe) (List.mem_append.mpr (.inl List.mem_cons_self))
  obtain ⟨vs, hv⟩ := hf
  have hx : ObjOk X.prog X.w H s.heap dd (.xd [(f, v)]) := I.hok dd _ hdd
  obtain ⟨mA, hns, hr⟩ := hx
  obtain ⟨od, ho, hl⟩ := lookIn_ns hns
  have J : PySem.W.InstAt s.heap a oe C (some od) := ⟨hget, hz.1, by unfold PySem.W.notCls; rw [hv] <;> rfl, by rw [hz.2]; exact ho⟩
  have hc : (PySem.W.clsIn X.K C).isSome = true := by
    obtain ⟨cd, hcd, _⟩ := PySem.W.any_some E.hd
    rw [hcd]
    rfl
  obtain ⟨_, its, rv, o, h1, h2, n, h3⟩ := (show ObjOk X.prog X.w H s.heap tp (.tup cs) from I.hok tp _ hT)
  have e3 := ClsV.all k rv
  subst e3
  obtain ⟨oc, od2, dt, sl⟩ := o
  simp only at h2 h3
  subst h2 h3
  exact PySem.W.kia_tup (PySem.W.kitx_exc hc E.hg E.hk E.hs E.ha E.hn E.ht E.hm) I.kIn J h1 e (fun z => nomatch z) fun tk => ⟨.bl b, H, I.kept (t' := tk) fun _ _ z => z, rfl, q⟩
section
variable {X : Cx} {m : Type → Type} [Mo m] {fx : Fx} {G : List Sl} {C a dd : Addr} {f : Str} {oe : Obj} {pn : List (Addr × Obj)} {d : D} {n c1 c2 c3 : Str} {C1 C2 C3 : Addr} {b b1 b2 b3 : Bool} {p p1 p2 p3 p4 pt pos : Pos} {k : Nat}
theorem de_isiX3 (E : ExcC X.K C) (hz : Zc (.ref C) (some dd) oe) (hf : ∃ vs, oe.data = .fields vs) (i : Nat) (hk1 : PySem.W.kitOne X.K (.ref C) (.ref C1) = some b1) (hk2 : PySem.W.kitOne X.K (.ref C) (.ref C2) = some b2) (hk3 : PySem.W.kitOne X.K (.ref C) (.ref C3) = some b3)
    (hm1 : X.mg c1 = some (.ref C1)) (hm2 : X.mg c2 = some (.ref C2)) (hm3 : X.mg c3 = some (.ref C3)) (hg : Gl X "isinstance") (hm : X.mg "isinstance" = none) (hg1 : Gl X c1) (hg2 : Gl X c2) (hg3 : Gl X c3) (hG : G[i]? = some (.im (.xc a dd f d)) := by rfl)
    (hN : X.N[i]? = some n := by rfl) (hv : Vis X.env.scope n := by first | exact Or.inl rfl | exact Or.inr (Or.inl rfl) | exact Or.inr (Or.inr rfl)) (hd : (n == ("__debug__" : Str)) = false := by decide) (hcd : (n == ("__classdict__" : Str)) = false := by decide)
    (hdb1 : (c1 == ("__debug__" : Str)) = false := by decide) (hdb2 : (c2 == ("__debug__" : Str)) = false := by decide) (hdb3 : (c3 == ("__debug__" : Str)) = false := by decide)
    (hs : starEach [.Name n p1, .Tuple [.Name c1 p2, .Name c2 p3, .Name c3 p4] k pt] X.env = (false, eval (.Name n p1) X.env) :: starEach [.Tuple [.Name c1 p2, .Name c2 p3, .Name c3 p4] k pt] X.env := by rfl) (hs2 : starEach [.Tuple [.Name c1 p2, .Name c2 p3, .Name c3 p4] k pt] X.env = (false, eval (.Tuple [.Name c1 p2, .Name c2 p3, .Name c3 p4] k pt) X.env) :: starEach [] X.env := by rfl)
    (hs3 : starEach [.Name c1 p2, .Name c2 p3, .Name c3 p4] X.env = (false, eval (.Name c1 p2) X.env) :: starEach [.Name c2 p3, .Name c3 p4] X.env := by rfl) (hs4 : starEach [.Name c2 p3, .Name c3 p4] X.env = (false, eval (.Name c2 p3) X.env) :: starEach [.Name c3 p4] X.env := by rfl) (hs5 : starEach [.Name c3 p4] X.env = (false, eval (.Name c3 p4) X.env) :: starEach [] X.env := by rfl)
    (hpl : (backTo pos (starEach [.Tuple [.Name c1 p2, .Name c2 p3, .Name c3 p4] k pt] X.env)).any (·.1) = false := by rfl) (hb : (b1 || (b2 || b3)) = b := by rfl) :
    PE (X.suite a ((a, oe) :: pn)) (.Call (.Name "isinstance" p) [.Name n p1, .Tuple [.Name c1 p2, .Name c2 p3, .Name c3 p4] k pt] [] pos) (tE (X.suite a ((a, oe) :: pn)).K (X.suite a ((a, oe) :: pn)).mg fx G (pure (.bl b) : m D)) := by
  subst hb
  exact peI (pe_callB (X := X.suite a ((a, oe) :: pn)) (call_isXT (f := f) E hz hf) hg hm rfl (pa_cons (pe_var (X := X.suite a ((a, oe) :: pn)) hN hv hd hcd) (pa_cons (pe_tup (pa_cons (pe_own (X := X.suite a ((a, oe) :: pn)) hm1 hg1 hdb1) (pa_cons (pe_own (X := X.suite a ((a, oe) :: pn)) hm2 hg2 hdb2) (pa_cons (pe_own (X := X.suite a ((a, oe) :: pn)) hm3 hg3 hdb3) pa_nil hs5) hs4) hs3)) pa_nil hs2) hs) (by decide) (by decide) hs hpl) fun σ H Q ⟨Hf, s, h⟩ => by
    obtain ⟨v, ev, e, u, hu, iu⟩ := h.1.sl i _ hG
    subst e
    refine ⟨.ref a, ev, (by show 3 ≤ sizeLine; decide), fun t ht => ?_⟩
    have sn : Ste ([] : List Addr) Hf H Hf (upd H t (.tup [.ref C1, .ref C2, .ref C3])) := Ste.new' h.1.top ht
    refine ⟨t, [.ref C1, .ref C2, .ref C3], u, [.ref C1, .ref C2, .ref C3], (b1 || (b2 || b3)), rfl, upd_same, .cons (.own C1) (.cons (.own C2) (.cons (.own C3) .nil)), sn.top _ _ hu, ?_, (Mo.wp_pure h.2) _ Hf _ (Ste.new' h.1.top ht) (sn.bag h.1.bag) (is_bl _)⟩
    exact kitAny_cons hk1 (fun z => by
      subst z; rw [Bool.false_or]
      exact kitAny_cons hk2 (fun z => by
        subst z; rw [Bool.false_or]
        exact kitAny_cons hk3 (fun z => by subst z; rfl) (fun z => z)) (fun z => by subst z; rfl)) (fun z => by subst z; rfl)
end
end DL
/-! ### list.count of a list of texts -/
namespace DL
open PySem PySem.Spec PyProof.Rows L2
end DL
/-! ### tuple(text) -/
namespace DL
open PySem PySem.Spec PyProof.Rows L2
end DL
/-! ### sorted(xs), sorted(xs, key=f) -/
namespace DL
open PySem PySem.Spec PyProof.Rows L2
/-! keys that can be sorted -/
end DL
/-! ### sorted(xs, key=f), f a def of one's own -/
namespace DL
open PySem PySem.Spec PyProof.Rows L2
end DL
/-! ### orders of labels and rows; what sorted(..) gives -/
namespace DL
open PySem PySem.W
/-- a strict total order, decided -/
structure STO {α : Type} (lt : α → α → Bool) : Prop where
  irr : ∀ a, lt a a = false
  trans : ∀ {a b c}, lt a b = true → lt b c = true → lt a c = true
  tri : ∀ a b, lt a b = true ∨ a = b ∨ lt b a = true
section
variable {α : Type} {lt : α → α → Bool} (O : STO lt)
include O
theorem STO.asym {a b : α} (h : lt a b = true) : lt b a = false := by
  cases q : lt b a with
  | false => rfl
  | true =>
    have := O.trans h q
    rw [O.irr] at this; cases this
/-- not behind: a ≤ b -/
theorem STO.le_iff {a b : α} : (!lt b a) = true ↔ lt a b = true ∨ a = b := by
  rw [Bool.not_eq_true']
  constructor
  · intro h
    rcases O.tri a b with q | q | q
    · exact .inl q
    · exact .inr q
    · rw [h] at q; cases q
  · rintro (h | rfl)
    · exact O.asym h
    · exact O.irr a
theorem STO.le_trans {a b c : α} (h1 : (!lt b a) = true) (h2 : (!lt c b) = true) : (!lt c a) = true := by
  rw [O.le_iff] at *
  rcases h1 with h1 | rfl
  · rcases h2 with h2 | rfl
    · exact .inl (O.trans h1 h2)
    · exact .inl h1
  · exact h2
end
/-! labels by (len(label), label) -/
end DL
/-! ### dicts with int and text keys: one's own, comprehensions, get, in -/
namespace DL
open PySem PySem.Spec PyProof.Rows L2
/-! data -/
end DL
/-! ### dict comprehensions -/
namespace DL
open PySem PySem.Spec PyProof.Rows L2
end DL
/-! ### raise X(..) from e, in a suite «except BadPattern as e» -/
namespace DL
open PySem PySem.Spec PyProof.Rows L2 HotX
end DL
namespace L2
open PySem PySem.Spec PyProof.Rows
end L2
namespace DL
open PySem PySem.Spec PyProof.Rows L2 HotX
end DL
/-! ### [.. for x in ..] whose items may raise -/
namespace DL
open PySem PySem.Spec PyProof.Rows L2
/-! ### as data -/
end DL
namespace FN
open DL PySem PySem.W
variable {I : List (List Nat)} {l0 l1 mh mt : Nat} {x : D} {fs : List D}
theorem bols_map {α : Type} (f : α → Bool) : ∀ (L : List α), bolsOf (L.map fun a => D.bl (f a)) = some (L.map f)
  | [] => rfl
  | a :: L => by
    rw [List.map_cons]
    show (bolsOf (L.map fun a => D.bl (f a))).map (f a :: ·) = _
    rw [bols_map f L]; rfl
theorem all_map {α : Type} (f : α → Bool) (L : List α) : allD [.lst (L.map fun a => D.bl (f a))] = some (.bl (L.all f)) := by
  show (bolsOf (L.map fun a => D.bl (f a))).map (fun bs => D.bl (bs.all id)) = _
  rw [bols_map]
  show some (D.bl ((L.map f).all id)) = _
  rw [List.all_map]; rfl
/-! rules: any text -/
end FN
/-! ### a, (b, c) as a target -/
namespace DL
open PySem PySem.Spec PyProof.Rows L2
end DL
/-! ### *x among the items of a display or a call -/
namespace DL
open PySem PySem.Spec PyProof.Rows L2
/-! ### calls with a star and names -/
end DL
namespace DL
open PySem PySem.Spec PyProof.Rows L2
/-! ### own classes called so -/
end DL
/-! ### [.. for x in .. for y in ..] -/
namespace DL
open PySem PySem.Spec PyProof.Rows L2
end DL
/-! ### own __iter__: return iter(self.f), f a tuple -/
namespace DL
open PySem PySem.Spec PyProof.Rows L2
end DL
/-! ### list(o), o walked by its own __iter__ -/
namespace DL
open PySem PySem.Spec PyProof.Rows L2
end DL
/-! ### min and max of a list of ints -/
namespace DL
open PySem PySem.Spec PyProof.Rows L2
end DL
/-! ### own lists read in place: x[i], list(x), `return x if c else [..]`; a, b, c = [..], [..], e -/
namespace DL
open PySem PySem.Spec PyProof.Rows L2
section
variable {X : Cx} {fx : Fx} {m : Type → Type} [Mo m] {G : List Sl} {b : Expr} {pos p np : Pos} {y : m D} {n : Str} {ds : List D}
/-- x[i], x a list of the frame's own -/
theorem de_owIx (i : Nat) (hb : PE X b (tE X.K X.mg fx G y)) (hG : G[i]? = some (.ow ds) := by rfl) (hN : X.N[i]? = some n := by rfl) (hv : Vis X.env.scope n := by first | exact Or.inl rfl | exact Or.inr (Or.inl rfl) | exact Or.inr (Or.inr rfl))
    (hd : (n == ("__debug__" : Str)) = false := by decide) (hcd : (n == ("__classdict__" : Str)) = false := by decide) (hs : PlainIx b := by exact fun _ _ => rfl) :
    PE X (.Subscript (.Name n np) b pos) (tE X.K X.mg fx G (do let j ← y; ask (ixD (.lst ds) j))) := peI (pe_ix ix_list (pe_var hN hv hd hcd) hb hs) fun σ H Q ⟨Hf, s, h⟩ => by
  obtain ⟨p0, vs0, ep, hp, hf, h0, nb, l, hz⟩ := h.1.sl i _ hG
  refine ⟨.ref p0, ep, (h.bind.mono fun v2 H2 ⟨d2, Hf2, s2, sb2, r2, h2⟩ => ?_).to⟩
  obtain ⟨p1, vs1, ep1, hp1, hf1, _, _, l1, hz1⟩ := h2.1.sl i _ hG
  have eq : p1 = p0 := by rw [ep] at ep1; cases ep1; rfl
  subst eq
  obtain ⟨d, e, q⟩ := h2.ask
  cases d2 with
  | int t =>
    cases r2
    have e : L2.atI ds t = some d := e
    obtain ⟨w, hw, iw⟩ := l1.atI e
    exact ⟨p1, vs1, t, w, rfl, rfl, .inl (.inl hp1), hw, q _ Hf2 H2 (.refl h2.1.top) iw⟩
  | _ => cases e
end
section
variable {X : Cx} {fx : Fx} {m : Type → Type} [Mo m] {G : List Sl} {α β : Type} {kk : Nat} {a b c : Expr} {rest : List Stmt} {ex : α → List Sl} {exb : β → List Sl} {pos px py pz pt pt2 np p2 : Pos} {n n1 n2 n3 : Str} {kt k2 : Nat} {ds : List D}
/-- return x if c else [..], x a list of the frame's own -/
theorem dss_retIf {t : m Bool} {y : m (List D)} (i : Nat) (hc : PT X c (tT X.K X.mg fx G t)) (hb : PE X b (tF X.K X.mg fx G y)) (hG : G[i]? = some (.ow ds) := by rfl) (hN : X.N[i]? = some n := by rfl) (hv : Vis X.env.scope n := by first | exact Or.inl rfl | exact Or.inr (Or.inl rfl) | exact Or.inr (Or.inr rfl)) (hd : (n == ("__debug__" : Str)) = false := by decide) (hcd : (n == ("__classdict__" : Str)) = false := by decide)
    (hnr : fx.nr = true := by rfl) (hg : GxOk fx G := by first | exact True.intro | repeat' (first | exact True.intro | exact Or.inl rfl | exact Or.inr rfl | refine And.intro ?_ ?_)) :
    PSs X (.Return (some (.IfExp c (.Name n np) b p2)) pos :: rest) (tS X.K X.mg fx G ex exb (do let v ← t; if v = true then pure (.rt (.lst ds)) else do let es ← y; pure (.rt (.lst es)))) := pssI (pss_cons (ps_ret (pe_ifExp hc (pe_var hN hv hd hcd) hb)) pss_never) fun De σ H0 ⟨Hf0, s0, h0⟩ =>
  ((h0.bind hg).mono fun v H ⟨d, Hf, s, sb, r, h⟩ => by
    subst r
    cases v with
    | true =>
      obtain ⟨p, vs, ep, hp, hf, h0, nb, l, hz⟩ := h.1.sl i _ hG
      exact ⟨.ref p, ep, (Mo.wp_pure h.2) (.ref p) Hf H h.1.ste h.1.bag (by rw [hnr]; exact ⟨p, vs, ds, rfl, rfl, hp, hf, h0, l, hz⟩)⟩
    | false =>
      exact ⟨Hf, s, h.1, Mo.wp_mono (Mo.wp_bind h.2) (fun ds s1 w p vs Hf1 H1 e bg hp hf1 hn l hz => (Mo.wp_pure w) (.ref p) Hf1 H1 (h.1.ste.trans e.wider) bg (by rw [hnr]; exact ⟨p, vs, ds, rfl, rfl, hp, hf1, (h.1.new0 hn).1, l, hz⟩)) fun e s' k => exs_ex hg k⟩).to
/-- a, b, c = [..], [..], e -/
theorem dss_par3FFE {x y : m (List D)} {z : m D} {k : List D → List D → D → m (Fl α β)} (C : Cok X fx kk) (i j l : Nat) (ha : PE X a (tF X.K X.mg fx G x)) (hb : PE X b (tF X.K X.mg fx G y)) (hc : PE X c (tE X.K X.mg fx G z))
    (hr : ∀ ds es d, PSs X rest (tS X.K X.mg fx (((G.set i (.ow ds)).set j (.ow es)).set l (.im d)) ex exb (k ds es d)))
    (hij : i ≠ j := by decide) (hil : i ≠ l := by decide) (hjl : j ≠ l := by decide) (hi : X.N[i]? = some n1 := by rfl) (hj : X.N[j]? = some n2 := by rfl) (hl : X.N[l]? = some n3 := by rfl) (hx : X.env.scope.names.lookup n1 = some .local := by rfl) (hy : X.env.scope.names.lookup n2 = some .local := by rfl) (hz : X.env.scope.names.lookup n3 = some .local := by rfl)
    (hw : swappedStores [.Tuple [.Name n1 px, .Name n2 py, .Name n3 pz] kt pt] (.Tuple [a, b, c] k2 pt2) X.env = pure (some [n1, n2, n3]) := by rfl)
    (hs : swapsWithSole [.Tuple [.Name n1 px, .Name n2 py, .Name n3 pz] kt pt] (.Tuple [a, b, c] k2 pt2) pos.line X.env = pure false := by rfl)
    (hsa : starEach [a, b, c] X.env = (false, eval a X.env) :: starEach [b, c] X.env := by rfl) (hsb : starEach [b, c] X.env = (false, eval b X.env) :: starEach [c] X.env := by rfl) (hsc : starEach [c] X.env = (false, eval c X.env) :: starEach [] X.env := by rfl)
    (hg : GxOk fx G := by first | exact True.intro | repeat' (first | exact True.intro | exact Or.inl rfl | exact Or.inr rfl | refine And.intro ?_ ?_)) :
    PSs X (.Assign [.Tuple [.Name n1 px, .Name n2 py, .Name n3 pz] kt pt] (.Tuple [a, b, c] k2 pt2) pos :: rest) (tS X.K X.mg fx G ex exb (do let ds ← x; let es ← y; let d ← z; k ds es d)) :=
  pssI (pss_cons (ps_par3 C.calm C.nd hi hj hl hij hil hjl hx hy hz (pa_cons ha (pa_cons hb (pa_cons hc pa_nil hsc) hsb) hsa) hw hs) (pss_ex (ι := List D × List D × D) fun r => hr r.1 r.2.1 r.2.2)) fun De σ H ⟨Hf, s, h⟩ =>
  ⟨Hf, s, h.1, Mo.wp_mono (Mo.wp_bind h.2) (fun ds s1 w p vs Hf1 H1 e bg hp hf1 hn l' hz' => by
    have st1 := h.1.step e bg
    have n0 := h.1.new0 hn
    refine ⟨Hf1, s1, st1, Mo.wp_mono (Mo.wp_bind w) (fun es s2 w2 p2 vs2 Hf2 H2 e2 bg2 hp2 hf2 hn2 l2 hz2 => ?_) fun e s' k => exs_ex hg k⟩
    have st2 := st1.step e2 bg2
    have n2 := st1.new0 hn2
    refine ⟨Hf2, s2, st2, Mo.wp_mono (Mo.wp_bind w2) (fun d s3 w3 v Hf3 H3 e3 bg3 r3 => ?_) fun e s' k => exs_ex hg k⟩
    have st3 := st2.step e3 bg3
    have hpp2 : H2 p = some (.lst vs) := e2.keep _ _ hp n0.2.1
    have hff2 : Hf2 p = none := e2.stayNone hf1 (by rw [hp]; simp)
    have hpp : H3 p = some (.lst vs) := e3.keep _ _ hpp2 n0.2.1
    have hff : Hf3 p = none := e3.stayNone hff2 (by rw [hpp2]; simp)
    have hqp : H3 p2 = some (.lst vs2) := e3.keep _ _ hp2 n2.2.1
    have hqf : Hf3 p2 = none := e3.stayNone hf2 (by rw [hp2]; simp)
    have ne : p ≠ p2 := fun z => by rw [z, hn2] at hp; cases hp
    have st4 := st3.setOw (i := i) (fun j q e1 x ex ox z => h.1.owNe hn j q e1 x ex ox z) hpp hff n0.1 n0.2.1 (l'.mono (e2.sub.trans e3.sub)) hz'
    refine ⟨.ref p, .ref p2, v, rfl, (ds, es, d), Hf3, s3, (st4.setOw (i := j) (fun j' q e1 x ex ox z => ?_) hqp hqf n2.1 n2.2.1 (l2.mono e3.sub) hz2).set (i := l) r3, Mo.wp_mono w3 (fun f s2 h2 => h2.up (e.sub.trans (e2.sub.trans e3.sub))) fun e s' k => k⟩
    by_cases c : i = j'
    · subst c
      have hi' : i < σ.length := by
        have := (List.getElem?_eq_some_iff.mp ex).1
        rw [h.1.len]
        simpa using this
      rw [List.getElem?_set_self hi'] at e1
      cases e1
      exact ne z
    · rw [List.getElem?_set_ne c] at e1 ex
      exact st1.owNe hn2 j' q e1 x ex ox z) fun e s' k => exs_ex hg k⟩
/-- n = e, where a list of the frame's own is read, by a def that may raise -/
theorem dss_asgThaw {e : Expr} {x : m D} {k : D → m (Fl α β)} (C : Cok X fx kk) {pos' : Pos} (i j : Nat) (he : PE X e (tE X.K X.mg fx (G.set j (.im (.lst ds))) x)) (hr : ∀ d, PSs X rest (tS X.K X.mg fx (G.set i (.im d)) ex exb (k d))) (hG : G[j]? = some (.ow ds) := by rfl) (hi : X.N[i]? = some n := by rfl) (hx : Loc X.env.scope n := by first | exact Or.inl rfl | exact Or.inr rfl)
    (hs : swapsWith e (some (.Name n pos')) pos.line X.env = pure false := by rfl) (hf : X.fn n = true ∨ X.env.scope.names.lookup n = some .local := by first | exact .inl rfl | exact .inr rfl) (hg : GxOk fx (G.set j (.im (.lst ds))) := by first | exact True.intro | repeat' (first | exact True.intro | exact Or.inl rfl | exact Or.inr rfl | refine And.intro ?_ ?_)) :
    PSs X (.Assign [.Name n pos'] e pos :: rest) (tS X.K X.mg fx G ex exb (do let d ← x; let d ← ask (flatD d); k d)) := pssI (pss_cons (ps_set C.nd hi hx he hs hf) (pss_ex hr)) fun De σ H ⟨Hf, s, st, w⟩ => by
  obtain ⟨Hf', sb, nw, st'⟩ := st.freeze2 hG
  refine ⟨Hf', s, st', Mo.wp_mono (Mo.wp_bind w) (fun a s' k' b Hf2 H2 e bg r => ?_) fun e s' k' => exs_ex hg k'⟩
  have k2 := Mo.wp_lift (Mo.wp_bind k')
  unfold flatD at k2
  by_cases q : imm a = true
  · rw [if_pos q] at k2
    have e' := e.off sb nw
    exact ⟨a, offH Hf Hf2, s', (st.step e' bg).set (r.off offH_or q), Mo.wp_mono k2 (fun f s2 h2 => h2.up e'.sub) fun _ _ z => z⟩
  · rw [if_neg q] at k2; exact k2.elim
end
end DL
/-! ### a, b = x, y where an exception is handled -/
namespace DL
open PySem PySem.Spec PyProof.Rows L2
section
variable {prog : Program} {w : World} {A : Around} {E : Value → Shared → Prop} {s : Shared}
section
variable {prog : Program} {w : World} {A : Around} {E : Value → Shared → Prop} {s : Shared}
/-- «StopIteration» is raised while another exception is handled -/
theorem stop_hot {α : Type} {x1 : Addr} {Q : α → Shared → Prop} (hot : HotX.HotAt A x1 s.heap)
    (out : ∀ (e : Addr) (o : Obj) (h' : Heap), (∀ b o, s.heap.get? b = some o → h'.get? b = some o) → h'.get? e = some o → o.cls = .type "StopIteration" → E (.ref e) { s with heap := h' }) :
    wpAny (model prog w) A (newExc (.type "StopIteration") [] >>= fun e => (raiseNew e : Sem α)) Q E s := by
  obtain ⟨handled, o1, vs1, lies, rec, noCtx⟩ := hot
  have big : ∀ {b : Addr} {o : Obj} (p q : Obj), s.heap.get? b = some o → ((s.heap.push p).push q).get? b = some o ∧ (s.heap.push p).objs.size ≠ b := fun p q e =>
    have e1 := Heap.get?_push_of_some p e
    ⟨Heap.get?_push_of_some q e1, Nat.ne_of_gt (Heap.lt_size e1)⟩
  simp only [newExc, newTuple]
  have noMember : firstArgMember (.type "StopIteration") [] = pure Value.none := by first | rfl | (simp only [firstArgMember]; rfl)
  rw [noMember]
  refine wpAny_bind (wpAny_bind (wpAny_newObj_type (wpAny_bind (wpAny_pure (wpAny_newObj_type ?_ ?_))) ?_))
  · refine HotX.raiseNew_hot ⟨handled, o1, vs1, (big _ _ lies).1, rec, noCtx⟩ (Ne.symm (big _ { cls := .none, data := .fields #[] } lies).2) (Heap.get?_push_size _ rfl) rfl (by simp only [Array.size_append]; simp; omega) ?_
    exact out _ _ _ (fun b o e => (Heap.get?_update_other _ _ (big _ { cls := .none, data := .fields #[] } e).2).trans (big _ _ e).1) (Heap.get?_update_self _ (Heap.get?_push_size _ rfl) rfl) rfl
  · size_fits
  · size_fits
/-- a tuple's iterator at its end, asked while an exception is handled -/
theorem next_tuple_end_hot {it t x1 : Addr} {i : Nat} {items : Array Value} {Q : Option Value → Shared → Prop} (hot : HotX.HotAt A x1 s.heap)
    (hit : IsTupIter s.heap it t i) (ht : IsTup s.heap t items) (hx : items[i]? = none) (hQ : ∀ h', Heap.ExtBut it s.heap h' → Q none { s with heap := h' }) :
    wpAny (model prog w) A (pyNext (.ref it)) Q E s := by
  obtain ⟨oi, at_, -, flds⟩ := id hit
  obtain ⟨ot, atT, -, n, seq⟩ := ht
  have others : ∀ (f : Obj → Obj) {b : Addr} {o : Obj}, b ≠ it → s.heap.get? b = some o → (s.heap.update it f).get? b = some o := fun f {b o} ne e => (Heap.get?_update_other _ _ (Ne.symm ne)).trans e
  have hot' : ∀ f, HotX.HotAt A x1 (s.heap.update it f) := fun f => by
    obtain ⟨handled, o1, vs1, lies, rec, noCtx⟩ := hot
    refine ⟨handled, o1, vs1, others f (fun e => ?_) lies, rec, noCtx⟩
    subst e
    cases at_.symm.trans lies
    cases flds.symm.trans rec
    exact absurd noCtx (by simp)
  refine wpAny_bind (wpAny_attempt (wpAny_callSpecial?_slot (name := Str.ofString "__next__") hit.typeIs slot_tupleiter_next (wpAny_call_entry slot_tupleiter_next hit.typeIs entry_tupleiter_next ?_ (args_tupleiter_next _))))
  apply wpAny_bind (m := field (.ref it) 0)
  refine wpAny_field at_ flds (x := .ref t) rfl ?_
  have seqThere : (Value.ref t == Value.none) = false := rfl
  simp only [seqThere, Bool.false_eq_true, if_false]
  apply wpAny_bind (m := field (.ref it) 1)
  refine wpAny_field at_ flds (x := .int i 0) rfl ?_
  apply wpAny_bind (m := seqItems? (.ref t))
  refine wpAny_seqItems atT seq ?_
  simp only [Int.toNat_natCast, hx]
  refine wpAny_bind (wpAny_rule (wpAny_bind (wpAny_setField at_ flds (by simp) ?_)))
  refine stop_hot (A := A.in1) (s := { s with heap := s.heap.update it _ }) (hot' _) fun e o h' keeps lies stop => ?_
  exact wpAny_bind (wpAny_isInstance (T := "StopIteration") (b := true) ⟨o, lies, stop⟩ isSubtype_stop (wpAny_pure (hQ h' fun b o ne q => keeps b o (others _ ne q))))
/-- a tuple is taken apart while an exception is handled -/
theorem unpackItems_tuple_hot {t x1 : Addr} {items : Array Value} {Q : List Value → Shared → Prop} (hot : HotX.HotAt A x1 s.heap) (ht : IsTup s.heap t items)
    (hQ : ∀ h', Heap.ExtBut s.heap.objs.size s.heap h' → Q items.toList { s with heap := h' }) : wpAny (model prog w) A (unpackItems (.ref t) items.size none) Q E s := by
  obtain ⟨ot, atT, r⟩ := id ht
  have apart : t ≠ s.heap.objs.size := Nat.ne_of_lt (Heap.lt_size atT)
  obtain ⟨handled, o1, vs1, lies, rest⟩ := hot
  have is : wpAny (model prog w) A (notIterableAtAll (.ref t)) (fun b s' => b = false ∧ s' = s) E s := wpAny_bind (wpAny_specialOf ht.typeIs slot_tuple_iter.lookup (wpAny_pure ⟨rfl, rfl⟩))
  refine wpAny_bind (wpAny_mono is (fun b s' ⟨eb, es⟩ => ?_) fun _ _ z => z)
  rw [eb, es]
  simp only [Bool.false_eq_true, if_false]
  refine wpAny_bind (wpAny_holding (iter_tuple ht (wpAny_bind (wpAny_holding (draw_tuple apart items.size 0 _ _ ⟨_, Heap.get?_push_size _ rfl, rfl, rfl⟩ (ht.push _) (by omega) fun h1 end1 same1 => ?_)))))
  have ext1 : Heap.ExtBut s.heap.objs.size s.heap h1 := fun b o ne e => same1.extBut b o ne (Heap.get?_push_of_some _ e)
  have all : List.take items.size (List.drop 0 items.toList) = items.toList := List.take_of_length_le (by simp)
  rw [all, if_neg (by simp)]
  refine wpAny_bind (wpAny_holding (next_tuple_end_hot ⟨handled, o1, vs1, ext1 _ _ (Nat.ne_of_lt (Heap.lt_size lies)) lies, rest⟩ end1 ((ht.push _).extBut same1.extBut apart) (by simp) fun h2 ext2 => ?_))
  simp only [Option.isSome_none, Bool.false_eq_true, if_false]
  exact wpAny_pure (hQ h2 fun b o ne e => ext2 b o ne (ext1 b o ne e))
end
end
section
variable {X : Cx} {pos : Pos}
section
/-- the target «x, y» -/
abbrev twoTo (x y : Str) (px py : Pos) (kt : Nat) (pt : Pos) : List Expr := [.Tuple [.Name x px, .Name y py] kt pt]
end
section
variable {X : Cx} {pos : Pos}
theorem ps_parH {i j : Nat} {x y : Str} {a b : Expr} {ta : TA} {px py pt : Pos} {kt k2 pt2} (hc : L2H.HotC X) (hN : X.N.Nodup) (hi : X.N[i]? = some x) (hj : X.N[j]? = some y) (hij : i ≠ j) (hx : X.env.scope.names.lookup x = some .local)
    (hy : X.env.scope.names.lookup y = some .local) (ha : PA X [a, b] ta) (hw : swappedStores (twoTo x y px py kt pt) (.Tuple [a, b] k2 pt2) X.env = pure (some [x, y])) (hs : swapsWithSole (twoTo x y px py kt pt) (.Tuple [a, b] k2 pt2) pos.line X.env = pure false := by rfl) :
    PS X (.Assign (twoTo x y px py kt pt) (.Tuple [a, b] k2 pt2) pos) (tPar i j ta) := by
  -- the two stores, the later name first
  have stores : ∀ {pins : List (Addr × Obj)} {σ : L2.St} {H : Hp} {s : Shared} {D : Ends} {v w : V} {u1 u2 : Value}, L2.Inv X pins σ H s → RelV v u1 → RelV w u2 → D.nx ((σ.set i (some v)).set j (some w)) H →
      wpAny (model X.prog X.w) X.A (assignInOrder [fun v => bindName X.env y v, fun v => bindName X.env x v] [u2, u1] >>= fun _ => pure Flow.next) (SP X pins D) X.xe s := fun {pins σ H s D v w u1 u2} I r1 r2 q =>
    wpAny_bind (assignInOrder_cons (wpAny_bindName (store_ok I hN hj (.inl hy) r2 (fun sy Iy => assignInOrder_cons (wpAny_bindName (store_ok Iy hN hi (.inl hx) r1 (fun sx Ix => assignInOrder_nil (wpAny_pure ⟨_, H, List.set_comm _ _ (Ne.symm hij) ▸ Ix, q⟩)) (.inr hx)))) (.inr hy))))
  refine ⟨fun pins s σ H D I h => ?_⟩
  rw [exec_Assign_arm, hs, hw]
  refine wpAny_bind (wpAny_standAt (wpAny_bind (wpAny_pure ?_)))
  simp only [Bool.false_eq_true, if_false]
  refine wpAny_bind (Tuple_ (wpAny_mono (ha.run _ pins s σ H _ I h) (fun us s1 got => ?_) fun _ _ z => z))
  obtain ⟨vs, H1, I1, rel, v, w, rfl, q⟩ := got
  obtain ⟨u1, u2, rfl, r1, r2⟩ := vals2 rel
  refine wpAny_newObj_type ?_ (show 2 ≤ sizeLine by decide)
  have I2 := I1.kept (h' := s1.heap.push { cls := .type "tuple", data := .seq #[u1, u2] }) (t' := s1.toks) fun b o e => Heap.get?_push_of_some _ e
  obtain ⟨x1, hot⟩ := hc.at I2
  refine wpAny_bind (wpAny_pure (wpAny_bind (wpAny_rule (wpAny_bind (unpackItems_tuple_hot (items := #[u1, u2]) hot (IsTup.new s1.heap _) fun h' ext => ?_)))))
  exact stores (I2.kept (h' := h') (t' := s1.toks) fun b o e => ext b o (Nat.ne_of_lt (Heap.lt_size e)) e) r1 r2 q
end
theorem hot_suite {X : Cx} {a C : Addr} {oe : Obj} {dd : Option Addr} {pn : List (Addr × Obj)} (hn : L2N.Zn (.ref C) dd oe) (hf : ∃ vs, oe.data = .fields vs) : L2H.HotC (X.suite a ((a, oe) :: pn)) := by
  obtain ⟨vs, hv⟩ := hf
  exact ⟨(a, oe), ⟨rfl, vs, hv, hn.2.2 vs hv⟩, List.mem_cons_self⟩
end
section
variable {X : Cx} {fx : Fx} {m : Type → Type} [Mo m] {G : List Sl} {α β : Type} {kk : Nat} {a b : Expr} {rest : List Stmt} {ex : α → List Sl} {exb : β → List Sl} {pos px py pt pt2 : Pos} {n1 n2 : Str} {kt k2 : Nat}
/-- a, b = x, y in an except suite -/
theorem dss_parEEH {x y : m D} {k : D → D → m (Fl α β)} (hot : L2H.HotC X) (hnd : X.N.Nodup) (i j : Nat) (ha : PE X a (tE X.K X.mg fx G x)) (hb : PE X b (tE X.K X.mg fx G y)) (hr : ∀ d e, PSs X rest (tS X.K X.mg fx ((G.set i (.im d)).set j (.im e)) ex exb (k d e)))
    (hij : i ≠ j := by decide) (hi : X.N[i]? = some n1 := by rfl) (hj : X.N[j]? = some n2 := by rfl) (hx : X.env.scope.names.lookup n1 = some .local := by rfl) (hy : X.env.scope.names.lookup n2 = some .local := by rfl)
    (hw : swappedStores [.Tuple [.Name n1 px, .Name n2 py] kt pt] (.Tuple [a, b] k2 pt2) X.env = pure (some [n1, n2]) := by rfl)
    (hs : swapsWithSole [.Tuple [.Name n1 px, .Name n2 py] kt pt] (.Tuple [a, b] k2 pt2) pos.line X.env = pure false := by rfl)
    (hsa : starEach [a, b] X.env = (false, eval a X.env) :: starEach [b] X.env := by rfl) (hsb : starEach [b] X.env = (false, eval b X.env) :: starEach [] X.env := by rfl) (hg : GxOk fx G := by first | exact True.intro | repeat' (first | exact True.intro | exact Or.inl rfl | exact Or.inr rfl | refine And.intro ?_ ?_)) :
    PSs X (.Assign [.Tuple [.Name n1 px, .Name n2 py] kt pt] (.Tuple [a, b] k2 pt2) pos :: rest) (tS X.K X.mg fx G ex exb (do let d ← x; let e ← y; k d e)) :=
  pssI (pss_cons (ps_parH hot hnd hi hj hij hx hy (pa_cons ha (pa_cons hb pa_nil hsb) hsa) hw hs) (pss_ex (ι := D × D) fun r => hr r.1 r.2)) fun De σ H ⟨Hf, s, h⟩ =>
    ((h.bind hg).mono fun v H1 ⟨d, Hf1, s1, sb, r, h1⟩ => ((h1.bind hg).mono fun v2 H2 ⟨e, Hf2, s2, sb2, r2, h2⟩ => ⟨v, v2, rfl, (d, e), Hf2, s2, (h2.1.set (r.mono sb2)).set r2, h2.2⟩).to).to
end
theorem cool_none {mg : Str → Option Value} {cls : Value} (h : mg "BadRule" = none) : Cool mg cls := fun z => by rw [h] at z; cases z
end DL
namespace FN
open DL PySem PySem.W
theorem for_ret {γ : Type} {u : D → Option γ} {xb : Unit → γ → R (Fl Unit Unit)} (e : D → Option D) : ∀ (ds : List D), (∀ d ∈ ds, ∃ c, u d = some c ∧ xb () c = match e d with | some x => .ok (.rt x) | none => .ok (.nx ())) → (forF u xb ds () : R (Fl Unit Empty)) = match ds.findSome? e with | some x => .ok (.rt x) | none => .ok (.nx ())
  | [], _ => rfl
  | d :: ds, h => by
    obtain ⟨c, hu, hx⟩ := h d (.head _)
    have ih := for_ret e ds fun x m => h x (.tail _ m)
    rw [forF, hu, List.findSome?_cons]
    show ((xb () c) >>= _) = _
    rw [hx]
    cases q : e d with
    | some x => rfl
    | none => exact ih
theorem findSome_map {α β γ : Type} (f : α → β) (g : β → Option γ) : ∀ L : List α, (L.map f).findSome? g = L.findSome? fun a => g (f a)
  | [] => rfl
  | a :: L => by
    rw [List.map_cons, List.findSome?_cons, List.findSome?_cons, findSome_map f g L]
theorem nic_str {z : List Nat} {n : Nat} (h : ∀ c ∈ z, c < 1114112) : nic n (.str z) = true := nic_mono 0 n _ (by omega) (List.all_eq_true.mpr fun c m => decide_eq_true (h c m))
theorem fm_nil {P : List Nat → Prop} : ∀ p ∈ ([] : List (List Nat)), P p := fun _ m => by cases m
theorem fm_cons {P : List Nat → Prop} {a : List Nat} {l : List (List Nat)} (h : P a) (t : ∀ p ∈ l, P p) : ∀ p ∈ a :: l, P p := fun p m => by
  rcases List.mem_cons.mp m with rfl | m
  · exact h
  · exact t p m
theorem lab_not {s : Nat} {p : List Nat} (hs : s ∉ CH) (h : s ∈ p) : isLab 20 p = false := by
  cases e : isLab 20 p with
  | false => rfl
  | true => exact absurd ((isLab_iff.mp e).2.2 s h) hs
theorem tryM_ex {α β γ : Type} {L : List (Str × Str)} {e : Exn} {k : γ → M (Fl α β)} {hs : List (Str × (D → M (Fl α β)))} (h : (e.c, e.f) ∈ L) : tryFs L ((Mo.lift (R.ex e) : M γ) >>= k) hs = pickC hs e := by
  show Mo.tryC ((Mo.lift (R.ex e) : M γ) >>= k) (fun e => if (e.c, e.f) ∈ L then pickC hs e else Mo.lift .stuck) = _
  have : ∀ (g : Exn → M (Fl α β)), (Mo.tryC ((Mo.lift (R.ex e) : M γ) >>= k) g : M (Fl α β)) = g e := fun g => rfl
  rw [this]
  exact if_pos h
theorem tryM_ok {α β : Type} {L : List (Str × Str)} {a : Fl α β} {hs : List (Str × (D → M (Fl α β)))} : tryFs L (pure a : M (Fl α β)) hs = pure a := rfl
theorem set_ok {ds : List D} {j : Int} {d : D} (h0 : 0 ≤ j) (h1 : j < ds.length) : setI ds (.int j) d = some (ds.set j.toNat d) := by
  unfold setI L2.ixN
  simp only
  rw [if_pos h0, if_pos h1]
  rfl
theorem isi_bool {n : Nat} {d : D} (h : nic n d = true) : ∃ b, isiD "bool" d = some (.bl b) := by
  cases d with
  | non => exact ⟨_, rfl⟩
  | bl b => exact ⟨_, rfl⟩
  | int i => exact ⟨_, rfl⟩
  | str z => exact ⟨_, rfl⟩
  | tup ds => exact ⟨_, rfl⟩
  | lst ds => exact ⟨_, rfl⟩
  | _ => simp [nic] at h
theorem sqM1 {α β γ : Type} {a : α} {k : α → M (Fl γ β)} : seqF (pure (Fl.nx a) : M (Fl α β)) k = k a := rfl
end FN
namespace FN
open DL
def k__law_is_good_6020_0 (c16 : D) : R (Fl (Unit) (Unit)) := (do let t32 ← (DL.orM (DL.notM (do let x20 ← (chainM leD leD (pure (.int 1)) (do let r19 ← (do let x17 ← (pure c16); let r18 ← pure []; pure (x17 :: r18)); DL.ask (lenD r19)) (pure (.int 20))); DL.ask (bOf x20))) (do let x28 ← (mkL (do let r26 ← (do let r21 ← (pure c16); DL.ask (itD r21)); lcF (fun d => some d) (fun (c23 : D) => (do let x24 ← (pure c23); let y25 ← (pure (.str [97, 98, 99, 100, 101, 102, 103, 104, 105, 106, 107, 108, 109, 110, 111, 112, 113, 114, 115, 116, 117, 118, 119, 120, 121, 122, 48, 49, 50, 51, 52, 53, 54, 55, 56, 57])); DL.ask ((notInD x24 y25).bind bOf))) (fun (c23 : D) => (pure c23)) r26)); let y29 ← (mkL (do let r27 ← pure []; DL.ask (szL r27))); DL.ask ((neD x28 y29).bind bOf))); seqF (if t32 = true then (do let v31 ← (pure (.bl false)); pure (.rt v31)) else (pure (.nx ()))) fun (q30 : Unit) => (pure (.nx ())))
theorem l__law_is_good_6020_0 (c16 : D) : k__law_is_good_6020_0 c16 = (do let t32 ← (DL.orM (DL.notM (do let x20 ← (chainM leD leD (pure (.int 1)) (do let r19 ← (do let x17 ← (pure c16); let r18 ← pure []; pure (x17 :: r18)); DL.ask (lenD r19)) (pure (.int 20))); DL.ask (bOf x20))) (do let x28 ← (mkL (do let r26 ← (do let r21 ← (pure c16); DL.ask (itD r21)); lcF (fun d => some d) (fun (c23 : D) => (do let x24 ← (pure c23); let y25 ← (pure (.str [97, 98, 99, 100, 101, 102, 103, 104, 105, 106, 107, 108, 109, 110, 111, 112, 113, 114, 115, 116, 117, 118, 119, 120, 121, 122, 48, 49, 50, 51, 52, 53, 54, 55, 56, 57])); DL.ask ((notInD x24 y25).bind bOf))) (fun (c23 : D) => (pure c23)) r26)); let y29 ← (mkL (do let r27 ← pure []; DL.ask (szL r27))); DL.ask ((neD x28 y29).bind bOf))); seqF (if t32 = true then (do let v31 ← (pure (.bl false)); pure (.rt v31)) else (pure (.nx ()))) fun (q30 : Unit) => (pure (.nx ()))) := rfl
def k__law_is_good_6020_1 (a0 : D) : R (Fl (Unit) (Empty)) := (do let t36 ← (DL.orM (DL.notM (do let x2 ← (do let x1 ← (pure a0); DL.ask (isiD "str" x1)); DL.ask (truD x2))) (do let x8 ← (do let r7 ← (do let x5 ← (mkL (do let x3 ← (pure a0); let _ ← DL.ask (strOf x3); let y4 ← (pure (.str [46])); DL.ask (splitD x3 y4))); let r6 ← pure []; pure (x5 :: r6)); DL.ask (lenD r7)); let y9 ← (pure (.int 3)); DL.ask ((gtD x8 y9).bind bOf))); seqF (if t36 = true then (do let v11 ← (pure (.bl false)); pure (.rt v11)) else (pure (.nx ()))) fun (q10 : Unit) => (do let r35 ← (do let r14 ← (mkL (do let x12 ← (pure a0); let _ ← DL.ask (strOf x12); let y13 ← (pure (.str [46])); DL.ask (splitD x12 y13))); DL.ask (itD r14)); seqF (forF (fun d => some d) (fun (q15 : Unit) (c16 : D) => (k__law_is_good_6020_0 c16)) r35 ()) fun (q33 : Unit) => (do let v34 ← (pure (.bl true)); pure (.rt v34))))
theorem l__law_is_good_6020_1 (a0 : D) : k__law_is_good_6020_1 a0 = (do let t36 ← (DL.orM (DL.notM (do let x2 ← (do let x1 ← (pure a0); DL.ask (isiD "str" x1)); DL.ask (truD x2))) (do let x8 ← (do let r7 ← (do let x5 ← (mkL (do let x3 ← (pure a0); let _ ← DL.ask (strOf x3); let y4 ← (pure (.str [46])); DL.ask (splitD x3 y4))); let r6 ← pure []; pure (x5 :: r6)); DL.ask (lenD r7)); let y9 ← (pure (.int 3)); DL.ask ((gtD x8 y9).bind bOf))); seqF (if t36 = true then (do let v11 ← (pure (.bl false)); pure (.rt v11)) else (pure (.nx ()))) fun (q10 : Unit) => (do let r35 ← (do let r14 ← (mkL (do let x12 ← (pure a0); let _ ← DL.ask (strOf x12); let y13 ← (pure (.str [46])); DL.ask (splitD x12 y13))); DL.ask (itD r14)); seqF (forF (fun d => some d) (fun (q15 : Unit) (c16 : D) => (k__law_is_good_6020_0 c16)) r35 ()) fun (q33 : Unit) => (do let v34 ← (pure (.bl true)); pure (.rt v34)))) := rfl
def b__law_is_good_6020 (a0 : D) : R (Fl Unit Empty) := (k__law_is_good_6020_1 a0)
theorem e__law_is_good_6020 (a0 : D) : b__law_is_good_6020 a0 = (do let t36 ← (DL.orM (DL.notM (do let x2 ← (DL.ask (isiD "str" a0)); DL.ask (truD x2))) (do let _ ← DL.ask (strOf a0); let x5 ← (DL.ask (splitD a0 (.str [46]))); let x8 ← (DL.ask (lenD [(.lst x5)])); DL.ask ((gtD x8 (.int 3)).bind bOf))); seqF (if t36 = true then (pure (.rt (.bl false))) else (pure (.nx ()))) fun (q10 : Unit) => (do let _ ← DL.ask (strOf a0); let r14 ← (DL.ask (splitD a0 (.str [46]))); let r35 ← (DL.ask (itD (.lst r14))); seqF (forF (fun d => some d) (fun (q15 : Unit) (c16 : D) => (do let t32 ← (DL.orM (DL.notM (do let x20 ← (chainM leD leD (pure (.int 1)) (DL.ask (lenD [c16])) (pure (.int 20))); DL.ask (bOf x20))) (do let r26 ← (DL.ask (itD c16)); let x28 ← (lcF (fun d => some d) (fun (c23 : D) => (DL.ask ((notInD c23 (.str [97, 98, 99, 100, 101, 102, 103, 104, 105, 106, 107, 108, 109, 110, 111, 112, 113, 114, 115, 116, 117, 118, 119, 120, 121, 122, 48, 49, 50, 51, 52, 53, 54, 55, 56, 57])).bind bOf))) (fun (c23 : D) => (pure c23)) r26); let y29 ← (DL.ask (szL [])); DL.ask ((neD (.lst x28) (.lst y29)).bind bOf))); seqF (if t32 = true then (pure (.rt (.bl false))) else (pure (.nx ()))) fun (q30 : Unit) => (pure (.nx ())))) r35 ()) fun (q33 : Unit) => (pure (.rt (.bl true))))) := by
  unfold b__law_is_good_6020; simp only [l__law_is_good_6020_0, l__law_is_good_6020_1, pure_bind, bind_assoc, mkL]
def m__law_is_good_6020 : List D → R D := apR1 fun a0 => (runR false (b__law_is_good_6020 a0))
theorem n__law_is_good_6020 : ∀ ds : List D, m__law_is_good_6020 ds ≠ .stuck → ds.length = 1 := apR1_len _
def b__law_same_9288 (a0 a1 : D) : R (Fl Unit Empty) := (do let v7 ← (andV (do let x1 ← (pure a0); let y2 ← (pure a1); DL.ask (eqD x1 y2)) (do let x5 ← (do let x3 ← (pure a0); DL.ask (isiD "bool" x3)); let y6 ← (do let x4 ← (pure a1); DL.ask (isiD "bool" x4)); DL.ask (eqD x5 y6))); pure (.rt v7))
theorem e__law_same_9288 (a0 a1 : D) : b__law_same_9288 a0 a1 = (do let v7 ← (andV (DL.ask (eqD a0 a1)) (do let x5 ← (DL.ask (isiD "bool" a0)); let y6 ← (DL.ask (isiD "bool" a1)); DL.ask (eqD x5 y6))); pure (.rt v7)) := by
  unfold b__law_same_9288; simp only [pure_bind, bind_assoc, mkL]
def m__law_same_9288 : List D → R D := apR2 fun a0 a1 => (runR false (b__law_same_9288 a0 a1))
theorem n__law_same_9288 : ∀ ds : List D, m__law_same_9288 ds ≠ .stuck → ds.length = 2 := apR2_len _
def k__law_due_99cc_0 (c44 : D) (q43 : List D) : R (Fl (List D) (List D)) := (do let t58 ← (Mo.noex (do let x46 ← (pure c44); let y47 ← (pure (.lst q43)); DL.ask ((inD x46 y47).bind bOf))); seqF (if t58 = true then (do let v55 ← (do let r53 ← (do let x51 ← (pure (.str [116, 119, 105, 99, 101])); let r52 ← (do let x49 ← (pure c44); let r50 ← pure []; pure (x49 :: r50)); pure (x51 :: r52)); let r54 ← DL.ask (szL r53); pure (.tup r54)); pure (.rt v55)) else (pure (.nx ()))) fun (q48 : Unit) => (do let v56 ← (pure c44); let v57 ← DL.ask (apd q43 v56); (pure (.nx v57))))
theorem l__law_due_99cc_0 (c44 : D) (q43 : List D) : k__law_due_99cc_0 c44 q43 = (do let t58 ← (Mo.noex (do let x46 ← (pure c44); let y47 ← (pure (.lst q43)); DL.ask ((inD x46 y47).bind bOf))); seqF (if t58 = true then (do let v55 ← (do let r53 ← (do let x51 ← (pure (.str [116, 119, 105, 99, 101])); let r52 ← (do let x49 ← (pure c44); let r50 ← pure []; pure (x49 :: r50)); pure (x51 :: r52)); let r54 ← DL.ask (szL r53); pure (.tup r54)); pure (.rt v55)) else (pure (.nx ()))) fun (q48 : Unit) => (do let v56 ← (pure c44); let v57 ← DL.ask (apd q43 v56); (pure (.nx v57)))) := rfl
def k__law_due_99cc_1 (v20 : D) (c5 : D) (q4 : List D) : R (Fl (List D) (List D)) := (do let t61 ← (do let x30 ← (pure v20); let y31 ← (mkL (do let r29 ← pure []; DL.ask (szL r29))); DL.ask ((neD x30 y31).bind bOf)); seqF (if t61 = true then (do let v41 ← (do let r39 ← (do let x37 ← (pure (.str [104, 111, 115, 116])); let r38 ← (do let x35 ← (do let x33 ← (pure v20); let y34 ← (pure (.int 0)); DL.ask (ixD x33 y34)); let r36 ← pure []; pure (x35 :: r36)); pure (x37 :: r38)); let r40 ← DL.ask (szL r39); pure (.tup r40)); pure (.rt v41)) else (pure (.nx ()))) fun (q32 : Unit) => (do let r60 ← (do let r42 ← (pure c5); DL.ask (itD r42)); seqF (forF (fun d => some d) (fun (q43 : List D) (c44 : D) => (k__law_due_99cc_0 c44 q43)) r60 q4) fun (q59 : List D) => (pure (.nx q59))))
theorem l__law_due_99cc_1 (v20 : D) (c5 : D) (q4 : List D) : k__law_due_99cc_1 v20 c5 q4 = (do let t61 ← (do let x30 ← (pure v20); let y31 ← (mkL (do let r29 ← pure []; DL.ask (szL r29))); DL.ask ((neD x30 y31).bind bOf)); seqF (if t61 = true then (do let v41 ← (do let r39 ← (do let x37 ← (pure (.str [104, 111, 115, 116])); let r38 ← (do let x35 ← (do let x33 ← (pure v20); let y34 ← (pure (.int 0)); DL.ask (ixD x33 y34)); let r36 ← pure []; pure (x35 :: r36)); pure (x37 :: r38)); let r40 ← DL.ask (szL r39); pure (.tup r40)); pure (.rt v41)) else (pure (.nx ()))) fun (q32 : Unit) => (do let r60 ← (do let r42 ← (pure c5); DL.ask (itD r42)); seqF (forF (fun d => some d) (fun (q43 : List D) (c44 : D) => (k__law_due_99cc_0 c44 q43)) r60 q4) fun (q59 : List D) => (pure (.nx q59)))) := rfl
def k__law_due_99cc_2 (c5 : D) (q4 : List D) : R (Fl (List D) (List D)) := (do let t62 ← (DL.orM (DL.notM (do let x7 ← (do let x6 ← (pure c5); DL.ask (isi2D "list" "tuple" x6)); DL.ask (truD x7))) (DL.notM (do let x11 ← (chainM leD leD (pure (.int 2)) (do let r10 ← (do let x8 ← (pure c5); let r9 ← pure []; pure (x8 :: r9)); DL.ask (lenD r10)) (pure (.int 4))); DL.ask (bOf x11)))); seqF (if t62 = true then (do let v19 ← (do let r17 ← (do let x15 ← (pure (.str [103, 114, 111, 117, 112])); let r16 ← (do let x13 ← (pure c5); let r14 ← pure []; pure (x13 :: r14)); pure (x15 :: r16)); let r18 ← DL.ask (szL r17); pure (.tup r18)); pure (.rt v19)) else (pure (.nx ()))) fun (q12 : Unit) => (do let v20 ← mkL (do let r28 ← (do let r21 ← (pure c5); DL.ask (itD r21)); lcF (fun d => some d) (fun (c23 : D) => (DL.notM (do let x27 ← (do let r26 ← (do let x24 ← (pure c23); let r25 ← pure []; pure (x24 :: r25)); Mo.lift (m__law_is_good_6020 r26)); DL.ask (truD x27)))) (fun (c23 : D) => (pure c23)) r28); (k__law_due_99cc_1 v20 c5 q4)))
theorem l__law_due_99cc_2 (c5 : D) (q4 : List D) : k__law_due_99cc_2 c5 q4 = (do let t62 ← (DL.orM (DL.notM (do let x7 ← (do let x6 ← (pure c5); DL.ask (isi2D "list" "tuple" x6)); DL.ask (truD x7))) (DL.notM (do let x11 ← (chainM leD leD (pure (.int 2)) (do let r10 ← (do let x8 ← (pure c5); let r9 ← pure []; pure (x8 :: r9)); DL.ask (lenD r10)) (pure (.int 4))); DL.ask (bOf x11)))); seqF (if t62 = true then (do let v19 ← (do let r17 ← (do let x15 ← (pure (.str [103, 114, 111, 117, 112])); let r16 ← (do let x13 ← (pure c5); let r14 ← pure []; pure (x13 :: r14)); pure (x15 :: r16)); let r18 ← DL.ask (szL r17); pure (.tup r18)); pure (.rt v19)) else (pure (.nx ()))) fun (q12 : Unit) => (do let v20 ← mkL (do let r28 ← (do let r21 ← (pure c5); DL.ask (itD r21)); lcF (fun d => some d) (fun (c23 : D) => (DL.notM (do let x27 ← (do let r26 ← (do let x24 ← (pure c23); let r25 ← pure []; pure (x24 :: r25)); Mo.lift (m__law_is_good_6020 r26)); DL.ask (truD x27)))) (fun (c23 : D) => (pure c23)) r28); (k__law_due_99cc_1 v20 c5 q4))) := rfl
def k__law_due_99cc_3 (a0 : D) : R (Fl (Unit) (Empty)) := (do let v75 ← (iteM (do let x67 ← (do let r66 ← (do let x64 ← (pure a0); let r65 ← pure []; pure (x64 :: r65)); DL.ask (lenD r66)); let y68 ← (pure (.int 4)); DL.ask ((gtD x67 y68).bind bOf)) (do let r73 ← (do let x71 ← (pure (.str [109, 97, 110, 121])); let r72 ← (do let x69 ← (pure (.int 4)); let r70 ← pure []; pure (x69 :: r70)); pure (x71 :: r72)); let r74 ← DL.ask (szL r73); pure (.tup r74)) (pure .non)); pure (.rt v75))
theorem l__law_due_99cc_3 (a0 : D) : k__law_due_99cc_3 a0 = (do let v75 ← (iteM (do let x67 ← (do let r66 ← (do let x64 ← (pure a0); let r65 ← pure []; pure (x64 :: r65)); DL.ask (lenD r66)); let y68 ← (pure (.int 4)); DL.ask ((gtD x67 y68).bind bOf)) (do let r73 ← (do let x71 ← (pure (.str [109, 97, 110, 121])); let r72 ← (do let x69 ← (pure (.int 4)); let r70 ← pure []; pure (x69 :: r70)); pure (x71 :: r72)); let r74 ← DL.ask (szL r73); pure (.tup r74)) (pure .non)); pure (.rt v75)) := rfl
def b__law_due_99cc (a0 : D) : R (Fl Unit Empty) := (do let v1 ← (do let r2 ← pure []; DL.ask (szL r2)); (do let r76 ← (do let r3 ← (pure a0); DL.ask (itD r3)); seqF (forF (fun d => some d) (fun (q4 : List D) (c5 : D) => (k__law_due_99cc_2 c5 q4)) r76 v1) fun (q63 : List D) => (k__law_due_99cc_3 a0)))
theorem e__law_due_99cc (a0 : D) : b__law_due_99cc a0 = (do let v1 ← (DL.ask (szL [])); let r76 ← (DL.ask (itD a0)); seqF (forF (fun d => some d) (fun (q4 : List D) (c5 : D) => (do let t62 ← (DL.orM (DL.notM (do let x7 ← (DL.ask (isi2D "list" "tuple" c5)); DL.ask (truD x7))) (DL.notM (do let x11 ← (chainM leD leD (pure (.int 2)) (DL.ask (lenD [c5])) (pure (.int 4))); DL.ask (bOf x11)))); seqF (if t62 = true then (do let r18 ← DL.ask (szL [(.str [103, 114, 111, 117, 112]), c5]); pure (.rt (.tup r18))) else (pure (.nx ()))) fun (q12 : Unit) => (do let r28 ← (DL.ask (itD c5)); let v20 ← (lcF (fun d => some d) (fun (c23 : D) => (DL.notM (do let x27 ← (Mo.lift (m__law_is_good_6020 [c23])); DL.ask (truD x27)))) (fun (c23 : D) => (pure c23)) r28); let y31 ← (DL.ask (szL [])); let t61 ← (DL.ask ((neD (.lst v20) (.lst y31)).bind bOf)); seqF (if t61 = true then (do let x35 ← (DL.ask (ixD (.lst v20) (.int 0))); let r40 ← DL.ask (szL [(.str [104, 111, 115, 116]), x35]); pure (.rt (.tup r40))) else (pure (.nx ()))) fun (q32 : Unit) => (do let r60 ← (DL.ask (itD c5)); seqF (forF (fun d => some d) (fun (q43 : List D) (c44 : D) => (do let t58 ← (Mo.noex (DL.ask ((inD c44 (.lst q43)).bind bOf))); seqF (if t58 = true then (do let r54 ← DL.ask (szL [(.str [116, 119, 105, 99, 101]), c44]); pure (.rt (.tup r54))) else (pure (.nx ()))) fun (q48 : Unit) => (do let v57 ← DL.ask (apd q43 c44); (pure (.nx v57))))) r60 q4) fun (q59 : List D) => (pure (.nx q59)))))) r76 v1) fun (q63 : List D) => (do let v75 ← (iteM (do let x67 ← (DL.ask (lenD [a0])); DL.ask ((gtD x67 (.int 4)).bind bOf)) (do let r74 ← DL.ask (szL [(.str [109, 97, 110, 121]), (.int 4)]); pure (.tup r74)) (pure .non)); pure (.rt v75))) := by
  unfold b__law_due_99cc; simp only [l__law_due_99cc_0, l__law_due_99cc_1, l__law_due_99cc_2, l__law_due_99cc_3, pure_bind, bind_assoc, mkL]
def m__law_due_99cc : List D → R D := apR1 fun a0 => (runR false (b__law_due_99cc a0))
theorem n__law_due_99cc : ∀ ds : List D, m__law_due_99cc ds ≠ .stuck → ds.length = 1 := apR1_len _
def k__law_odd_group_c9dc_0 (a1 : D) : M (Fl (Unit) (Empty)) := (do let v1 ← (mkL (do let r55 ← (do let x53 ← (mkL (do let r2 ← pure []; DL.ask (szL r2))); let r54 ← (do let x51 ← (mkL (do let r5 ← (do let x3 ← (pure a1); let r4 ← pure []; pure (x3 :: r4)); DL.ask (szL r5))); let r52 ← (do let x49 ← (do let r8 ← (do let x6 ← (pure a1); let r7 ← pure []; pure (x6 :: r7)); let r9 ← DL.ask (szL r8); pure (.tup r9)); let r50 ← (do let x47 ← (mkL (do let r28 ← (do let x26 ← (pure a1); let r27 ← (do let x24 ← (do let x10 ← (pure a1); let y11 ← (pure (.str [97])); DL.ask (addD x10 y11)); let r25 ← (do let x22 ← (do let x12 ← (pure a1); let y13 ← (pure (.str [98])); DL.ask (addD x12 y13)); let r23 ← (do let x20 ← (do let x14 ← (pure a1); let y15 ← (pure (.str [99])); DL.ask (addD x14 y15)); let r21 ← (do let x18 ← (do let x16 ← (pure a1); let y17 ← (pure (.str [100])); DL.ask (addD x16 y17)); let r19 ← pure []; pure (x18 :: r19)); pure (x20 :: r21)); pure (x22 :: r23)); pure (x24 :: r25)); pure (x26 :: r27)); DL.ask (szL r28))); let r48 ← (do let x45 ← (pure a1); let r46 ← (do let x43 ← (pure .non); let r44 ← (do let x41 ← (pure (.int 2)); let r42 ← (do let x39 ← (pure (.bl true)); let r40 ← (do let x37 ← (do let r29 ← pure []; let r30 ← DL.ask (szL r29); pure (.tup r30)); let r38 ← (do let x35 ← (mkL (do let r34 ← (do let x32 ← (mkL (do let r31 ← pure []; DL.ask (szL r31))); let r33 ← pure []; pure (x32 :: r33)); DL.ask (szL r34))); let r36 ← pure []; pure (x35 :: r36)); pure (x37 :: r38)); pure (x39 :: r40)); pure (x41 :: r42)); pure (x43 :: r44)); pure (x45 :: r46)); pure (x47 :: r48)); pure (x49 :: r50)); pure (x51 :: r52)); pure (x53 :: r54)); DL.ask (szL r55))); (do let v59 ← (do let r58 ← (do let x56 ← (pure v1); let r57 ← pure []; pure (x56 :: r57)); m__law_of_8ba0 r58); pure (.rt v59)))
theorem l__law_odd_group_c9dc_0 (a1 : D) : k__law_odd_group_c9dc_0 a1 = (do let v1 ← (mkL (do let r55 ← (do let x53 ← (mkL (do let r2 ← pure []; DL.ask (szL r2))); let r54 ← (do let x51 ← (mkL (do let r5 ← (do let x3 ← (pure a1); let r4 ← pure []; pure (x3 :: r4)); DL.ask (szL r5))); let r52 ← (do let x49 ← (do let r8 ← (do let x6 ← (pure a1); let r7 ← pure []; pure (x6 :: r7)); let r9 ← DL.ask (szL r8); pure (.tup r9)); let r50 ← (do let x47 ← (mkL (do let r28 ← (do let x26 ← (pure a1); let r27 ← (do let x24 ← (do let x10 ← (pure a1); let y11 ← (pure (.str [97])); DL.ask (addD x10 y11)); let r25 ← (do let x22 ← (do let x12 ← (pure a1); let y13 ← (pure (.str [98])); DL.ask (addD x12 y13)); let r23 ← (do let x20 ← (do let x14 ← (pure a1); let y15 ← (pure (.str [99])); DL.ask (addD x14 y15)); let r21 ← (do let x18 ← (do let x16 ← (pure a1); let y17 ← (pure (.str [100])); DL.ask (addD x16 y17)); let r19 ← pure []; pure (x18 :: r19)); pure (x20 :: r21)); pure (x22 :: r23)); pure (x24 :: r25)); pure (x26 :: r27)); DL.ask (szL r28))); let r48 ← (do let x45 ← (pure a1); let r46 ← (do let x43 ← (pure .non); let r44 ← (do let x41 ← (pure (.int 2)); let r42 ← (do let x39 ← (pure (.bl true)); let r40 ← (do let x37 ← (do let r29 ← pure []; let r30 ← DL.ask (szL r29); pure (.tup r30)); let r38 ← (do let x35 ← (mkL (do let r34 ← (do let x32 ← (mkL (do let r31 ← pure []; DL.ask (szL r31))); let r33 ← pure []; pure (x32 :: r33)); DL.ask (szL r34))); let r36 ← pure []; pure (x35 :: r36)); pure (x37 :: r38)); pure (x39 :: r40)); pure (x41 :: r42)); pure (x43 :: r44)); pure (x45 :: r46)); pure (x47 :: r48)); pure (x49 :: r50)); pure (x51 :: r52)); pure (x53 :: r54)); DL.ask (szL r55))); (do let v59 ← (do let r58 ← (do let x56 ← (pure v1); let r57 ← pure []; pure (x56 :: r57)); m__law_of_8ba0 r58); pure (.rt v59))) := rfl
def b__law_odd_group_c9dc (a1 : D) : M (Fl Unit Empty) := (k__law_odd_group_c9dc_0 a1)
theorem e__law_odd_group_c9dc (a1 : D) : b__law_odd_group_c9dc a1 = (do let x53 ← (DL.ask (szL [])); let x51 ← (DL.ask (szL [a1])); let r9 ← DL.ask (szL [a1]); let x24 ← (DL.ask (addD a1 (.str [97]))); let x22 ← (DL.ask (addD a1 (.str [98]))); let x20 ← (DL.ask (addD a1 (.str [99]))); let x18 ← (DL.ask (addD a1 (.str [100]))); let x47 ← (DL.ask (szL [a1, x24, x22, x20, x18])); let r30 ← DL.ask (szL []); let x32 ← (DL.ask (szL [])); let x35 ← (DL.ask (szL [(.lst x32)])); let v1 ← (DL.ask (szL [(.lst x53), (.lst x51), (.tup r9), (.lst x47), a1, .non, (.int 2), (.bl true), (.tup r30), (.lst x35)])); let v59 ← (m__law_of_8ba0 [(.lst v1)]); pure (.rt v59)) := by
  unfold b__law_odd_group_c9dc; simp only [l__law_odd_group_c9dc_0, pure_bind, bind_assoc, mkL]
def m__law_odd_group_c9dc : List D → M D := apM1 fun a1 => (runM false (b__law_odd_group_c9dc a1))
theorem n__law_odd_group_c9dc : ∀ ds s, m__law_odd_group_c9dc ds s ≠ .stuck → ds.length = 1 := apM1_len _
def k__law_odd_host_3247_0 (v1 : D) (a1 : D) : M (Fl (Unit) (Empty)) := (do let v72 ← (do let r71 ← (do let x69 ← (do let x67 ← (pure v1); let y68 ← (mkL (do let r66 ← (do let x64 ← (do let r39 ← (do let x37 ← (pure a1); let r38 ← pure []; pure (x37 :: r38)); let r40 ← DL.ask (szL r39); pure (.tup r40)); let r65 ← (do let x62 ← (mkL (do let r43 ← (do let x41 ← (pure a1); let r42 ← pure []; pure (x41 :: r42)); DL.ask (szL r43))); let r63 ← (do let x60 ← (do let x44 ← (pure a1); let y45 ← (pure (.str [10])); DL.ask (addD x44 y45)); let r61 ← (do let x58 ← (do let x46 ← (pure (.str [32])); let y47 ← (pure a1); DL.ask (addD x46 y47)); let r59 ← (do let x56 ← (do let x48 ← (pure (.str [97])); let y49 ← (pure (.int 21)); DL.ask (mulD x48 y49)); let r57 ← (do let x54 ← (do let x52 ← (do let x50 ← (pure (.str [33])); let y51 ← (pure a1); DL.ask (addD x50 y51)); let y53 ← (pure (.str [46, 97])); DL.ask (addD x52 y53)); let r55 ← pure []; pure (x54 :: r55)); pure (x56 :: r57)); pure (x58 :: r59)); pure (x60 :: r61)); pure (x62 :: r63)); pure (x64 :: r65)); DL.ask (szL r66))); DL.ask (addD x67 y68)); let r70 ← pure []; pure (x69 :: r70)); m__law_of_8ba0 r71); pure (.rt v72))
theorem l__law_odd_host_3247_0 (v1 : D) (a1 : D) : k__law_odd_host_3247_0 v1 a1 = (do let v72 ← (do let r71 ← (do let x69 ← (do let x67 ← (pure v1); let y68 ← (mkL (do let r66 ← (do let x64 ← (do let r39 ← (do let x37 ← (pure a1); let r38 ← pure []; pure (x37 :: r38)); let r40 ← DL.ask (szL r39); pure (.tup r40)); let r65 ← (do let x62 ← (mkL (do let r43 ← (do let x41 ← (pure a1); let r42 ← pure []; pure (x41 :: r42)); DL.ask (szL r43))); let r63 ← (do let x60 ← (do let x44 ← (pure a1); let y45 ← (pure (.str [10])); DL.ask (addD x44 y45)); let r61 ← (do let x58 ← (do let x46 ← (pure (.str [32])); let y47 ← (pure a1); DL.ask (addD x46 y47)); let r59 ← (do let x56 ← (do let x48 ← (pure (.str [97])); let y49 ← (pure (.int 21)); DL.ask (mulD x48 y49)); let r57 ← (do let x54 ← (do let x52 ← (do let x50 ← (pure (.str [33])); let y51 ← (pure a1); DL.ask (addD x50 y51)); let y53 ← (pure (.str [46, 97])); DL.ask (addD x52 y53)); let r55 ← pure []; pure (x54 :: r55)); pure (x56 :: r57)); pure (x58 :: r59)); pure (x60 :: r61)); pure (x62 :: r63)); pure (x64 :: r65)); DL.ask (szL r66))); DL.ask (addD x67 y68)); let r70 ← pure []; pure (x69 :: r70)); m__law_of_8ba0 r71); pure (.rt v72)) := rfl
def k__law_odd_host_3247_1 (a1 : D) : M (Fl (Unit) (Empty)) := (do let v1 ← (mkL (do let r36 ← (do let x34 ← (pure (.str [])); let r35 ← (do let x32 ← (do let x2 ← (pure a1); let y3 ← (pure (.str [46])); DL.ask (addD x2 y3)); let r33 ← (do let x30 ← (do let x4 ← (pure (.str [46])); let y5 ← (pure a1); DL.ask (addD x4 y5)); let r31 ← (do let x28 ← (pure (.str [97, 46, 46, 98])); let r29 ← (do let x26 ← (do let x6 ← (pure (.str [97, 46, 98, 46, 99, 46])); let y7 ← (pure a1); DL.ask (addD x6 y7)); let r27 ← (do let x24 ← (do let x8 ← (pure (.str [42, 46])); let y9 ← (pure a1); DL.ask (addD x8 y9)); let r25 ← (do let x22 ← (do let x10 ← (pure a1); let y11 ← (pure (.str [45, 97])); DL.ask (addD x10 y11)); let r23 ← (do let x20 ← (do let x12 ← (pure (.str [65])); let y13 ← (pure a1); DL.ask (addD x12 y13)); let r21 ← (do let x18 ← (pure .non); let r19 ← (do let x16 ← (pure (.int 7)); let r17 ← (do let x14 ← (pure (.bl true)); let r15 ← pure []; pure (x14 :: r15)); pure (x16 :: r17)); pure (x18 :: r19)); pure (x20 :: r21)); pure (x22 :: r23)); pure (x24 :: r25)); pure (x26 :: r27)); pure (x28 :: r29)); pure (x30 :: r31)); pure (x32 :: r33)); pure (x34 :: r35)); DL.ask (szL r36))); (k__law_odd_host_3247_0 v1 a1))
theorem l__law_odd_host_3247_1 (a1 : D) : k__law_odd_host_3247_1 a1 = (do let v1 ← (mkL (do let r36 ← (do let x34 ← (pure (.str [])); let r35 ← (do let x32 ← (do let x2 ← (pure a1); let y3 ← (pure (.str [46])); DL.ask (addD x2 y3)); let r33 ← (do let x30 ← (do let x4 ← (pure (.str [46])); let y5 ← (pure a1); DL.ask (addD x4 y5)); let r31 ← (do let x28 ← (pure (.str [97, 46, 46, 98])); let r29 ← (do let x26 ← (do let x6 ← (pure (.str [97, 46, 98, 46, 99, 46])); let y7 ← (pure a1); DL.ask (addD x6 y7)); let r27 ← (do let x24 ← (do let x8 ← (pure (.str [42, 46])); let y9 ← (pure a1); DL.ask (addD x8 y9)); let r25 ← (do let x22 ← (do let x10 ← (pure a1); let y11 ← (pure (.str [45, 97])); DL.ask (addD x10 y11)); let r23 ← (do let x20 ← (do let x12 ← (pure (.str [65])); let y13 ← (pure a1); DL.ask (addD x12 y13)); let r21 ← (do let x18 ← (pure .non); let r19 ← (do let x16 ← (pure (.int 7)); let r17 ← (do let x14 ← (pure (.bl true)); let r15 ← pure []; pure (x14 :: r15)); pure (x16 :: r17)); pure (x18 :: r19)); pure (x20 :: r21)); pure (x22 :: r23)); pure (x24 :: r25)); pure (x26 :: r27)); pure (x28 :: r29)); pure (x30 :: r31)); pure (x32 :: r33)); pure (x34 :: r35)); DL.ask (szL r36))); (k__law_odd_host_3247_0 v1 a1)) := rfl
def b__law_odd_host_3247 (a1 : D) : M (Fl Unit Empty) := (k__law_odd_host_3247_1 a1)
theorem e__law_odd_host_3247 (a1 : D) : b__law_odd_host_3247 a1 = (do let x32 ← (DL.ask (addD a1 (.str [46]))); let x30 ← (DL.ask (addD (.str [46]) a1)); let x26 ← (DL.ask (addD (.str [97, 46, 98, 46, 99, 46]) a1)); let x24 ← (DL.ask (addD (.str [42, 46]) a1)); let x22 ← (DL.ask (addD a1 (.str [45, 97]))); let x20 ← (DL.ask (addD (.str [65]) a1)); let v1 ← (DL.ask (szL [(.str []), x32, x30, (.str [97, 46, 46, 98]), x26, x24, x22, x20, .non, (.int 7), (.bl true)])); let r40 ← DL.ask (szL [a1]); let x62 ← (DL.ask (szL [a1])); let x60 ← (DL.ask (addD a1 (.str [10]))); let x58 ← (DL.ask (addD (.str [32]) a1)); let x56 ← (DL.ask (mulD (.str [97]) (.int 21))); let x52 ← (DL.ask (addD (.str [33]) a1)); let x54 ← (DL.ask (addD x52 (.str [46, 97]))); let y68 ← (DL.ask (szL [(.tup r40), (.lst x62), x60, x58, x56, x54])); let x69 ← (DL.ask (addD (.lst v1) (.lst y68))); let v72 ← (m__law_of_8ba0 [x69]); pure (.rt v72)) := by
  unfold b__law_odd_host_3247; simp only [l__law_odd_host_3247_0, l__law_odd_host_3247_1, pure_bind, bind_assoc, mkL]
def m__law_odd_host_3247 : List D → M D := apM1 fun a1 => (runM false (b__law_odd_host_3247 a1))
theorem n__law_odd_host_3247 : ∀ ds s, m__law_odd_host_3247 ds s ≠ .stuck → ds.length = 1 := apM1_len _
def k__law_some_12afn_0 (v31 : D) (q29 : List D × List D) (v3 : D) : M (Fl (List D × List D) (List D × List D)) := (do let t58 ← (DL.orM (Mo.noex (do let x49 ← (pure v31); let y50 ← (pure (.lst q29.1)); DL.ask ((notInD x49 y50).bind bOf))) (do let x51 ← (pure v3); let y52 ← (pure (.int 2)); DL.ask ((eqD x51 y52).bind bOf))); seqF (if t58 = true then (do let v54 ← (pure v31); let v55 ← DL.ask (apd q29.1 v54); (do let v56 ← (pure v31); let v57 ← DL.ask (apd q29.2 v56); (pure (.nx (v55, v57))))) else (pure (.nx (q29.1, q29.2)))) fun (q53 : List D × List D) => (pure (.nx (q53.1, q53.2))))
theorem l__law_some_12afn_0 (v31 : D) (q29 : List D × List D) (v3 : D) : k__law_some_12afn_0 v31 q29 v3 = (do let t58 ← (DL.orM (Mo.noex (do let x49 ← (pure v31); let y50 ← (pure (.lst q29.1)); DL.ask ((notInD x49 y50).bind bOf))) (do let x51 ← (pure v3); let y52 ← (pure (.int 2)); DL.ask ((eqD x51 y52).bind bOf))); seqF (if t58 = true then (do let v54 ← (pure v31); let v55 ← DL.ask (apd q29.1 v54); (do let v56 ← (pure v31); let v57 ← DL.ask (apd q29.2 v56); (pure (.nx (v55, v57))))) else (pure (.nx (q29.1, q29.2)))) fun (q53 : List D × List D) => (pure (.nx (q53.1, q53.2)))) := rfl
def k__law_some_12afn_1 (a1 : D) (q29 : List D × List D) (v3 : D) : M (Fl (List D × List D) (List D × List D)) := (do let v31 ← (do let x46 ← (pure (.str [46])); let _ ← DL.ask (strOf x46); let y47 ← (mkL (do let r45 ← (do let r39 ← (do let x37 ← (do let x35 ← (pure (.int 1)); let y36 ← (do let r34 ← (do let x32 ← (pure (.int 3)); let r33 ← pure []; pure (x32 :: r33)); m__law_take_bb49 r34); DL.ask (addD x35 y36)); let r38 ← pure []; pure (x37 :: r38)); DL.ask (rng1 r39)); lcF (fun d => some d) (fun (c41 : D) => pure true) (fun (c41 : D) => (do let r44 ← (do let x42 ← (pure a1); let r43 ← pure []; pure (x42 :: r43)); m__law_of_8ba0 r44)) r45)); DL.ask (joinD x46 y47)); (k__law_some_12afn_0 v31 q29 v3))
theorem l__law_some_12afn_1 (a1 : D) (q29 : List D × List D) (v3 : D) : k__law_some_12afn_1 a1 q29 v3 = (do let v31 ← (do let x46 ← (pure (.str [46])); let _ ← DL.ask (strOf x46); let y47 ← (mkL (do let r45 ← (do let r39 ← (do let x37 ← (do let x35 ← (pure (.int 1)); let y36 ← (do let r34 ← (do let x32 ← (pure (.int 3)); let r33 ← pure []; pure (x32 :: r33)); m__law_take_bb49 r34); DL.ask (addD x35 y36)); let r38 ← pure []; pure (x37 :: r38)); DL.ask (rng1 r39)); lcF (fun d => some d) (fun (c41 : D) => pure true) (fun (c41 : D) => (do let r44 ← (do let x42 ← (pure a1); let r43 ← pure []; pure (x42 :: r43)); m__law_of_8ba0 r44)) r45)); DL.ask (joinD x46 y47)); (k__law_some_12afn_0 v31 q29 v3)) := rfl
def k__law_some_12afn_2 (q59 : List D × List D) (q17 : List D × List D) : M (Fl (List D) (List D × List D)) := (do let v66 ← (iteM (do let x71 ← (do let r70 ← (do let x68 ← (pure (.int 2)); let r69 ← pure []; pure (x68 :: r69)); m__law_take_bb49 r70); let y72 ← (pure (.int 0)); DL.ask ((eqD x71 y72).bind bOf)) (do let r75 ← (do let x73 ← (pure (.lst q59.2)); let r74 ← pure []; pure (x73 :: r74)); DL.ask (tupleD r75)) (pure (.lst q59.2))); let v67 ← DL.ask (apd q17.1 v66); (pure (.nx v67)))
theorem l__law_some_12afn_2 (q59 : List D × List D) (q17 : List D × List D) : k__law_some_12afn_2 q59 q17 = (do let v66 ← (iteM (do let x71 ← (do let r70 ← (do let x68 ← (pure (.int 2)); let r69 ← pure []; pure (x68 :: r69)); m__law_take_bb49 r70); let y72 ← (pure (.int 0)); DL.ask ((eqD x71 y72).bind bOf)) (do let r75 ← (do let x73 ← (pure (.lst q59.2)); let r74 ← pure []; pure (x73 :: r74)); DL.ask (tupleD r75)) (pure (.lst q59.2))); let v67 ← DL.ask (apd q17.1 v66); (pure (.nx v67))) := rfl
def k__law_some_12afn_3 (a1 : D) (v3 : D) (q17 : List D × List D) (v19 : List D) : M (Fl (List D × List D) (List D × List D)) := (do let r77 ← (do let r28 ← (do let x26 ← (do let x24 ← (pure (.int 2)); let y25 ← (do let r23 ← (do let x21 ← (pure (.int 3)); let r22 ← pure []; pure (x21 :: r22)); m__law_take_bb49 r23); DL.ask (addD x24 y25)); let r27 ← pure []; pure (x26 :: r27)); DL.ask (rng1 r28)); seqF (forF (fun d => some d) (fun (q29 : List D × List D) (c30 : D) => (k__law_some_12afn_1 a1 q29 v3)) r77 (q17.2, v19)) fun (q59 : List D × List D) => (do let t76 ← (do let x63 ← (do let r62 ← (do let x60 ← (pure (.lst q59.2)); let r61 ← pure []; pure (x60 :: r61)); DL.ask (lenD r62)); let y64 ← (pure (.int 1)); DL.ask ((gtD x63 y64).bind bOf)); seqF (if t76 = true then (k__law_some_12afn_2 q59 q17) else (pure (.nx q17.1))) fun (q65 : List D) => (pure (.nx (q65, q59.1)))))
theorem l__law_some_12afn_3 (a1 : D) (v3 : D) (q17 : List D × List D) (v19 : List D) : k__law_some_12afn_3 a1 v3 q17 v19 = (do let r77 ← (do let r28 ← (do let x26 ← (do let x24 ← (pure (.int 2)); let y25 ← (do let r23 ← (do let x21 ← (pure (.int 3)); let r22 ← pure []; pure (x21 :: r22)); m__law_take_bb49 r23); DL.ask (addD x24 y25)); let r27 ← pure []; pure (x26 :: r27)); DL.ask (rng1 r28)); seqF (forF (fun d => some d) (fun (q29 : List D × List D) (c30 : D) => (k__law_some_12afn_1 a1 q29 v3)) r77 (q17.2, v19)) fun (q59 : List D × List D) => (do let t76 ← (do let x63 ← (do let r62 ← (do let x60 ← (pure (.lst q59.2)); let r61 ← pure []; pure (x60 :: r61)); DL.ask (lenD r62)); let y64 ← (pure (.int 1)); DL.ask ((gtD x63 y64).bind bOf)); seqF (if t76 = true then (k__law_some_12afn_2 q59 q17) else (pure (.nx q17.1))) fun (q65 : List D) => (pure (.nx (q65, q59.1))))) := rfl
def k__law_some_12afn_4 (q78 : List D × List D) (a1 : D) : M (Fl (Unit) (Empty)) := (do let t97 ← (Mo.noex (do let x81 ← (pure (.lst q78.1)); let y82 ← (mkL (do let r80 ← pure []; DL.ask (szL r80))); DL.ask ((neD x81 y82).bind bOf))); if t97 = true then pure (.rt (.lst q78.1)) else do let v98 ← (do let r96 ← (do let x94 ← (mkL (do let r93 ← (do let x91 ← (do let x83 ← (pure a1); let y84 ← (pure (.int 0)); DL.ask (ixD x83 y84)); let r92 ← (do let x89 ← (do let x87 ← (do let x85 ← (pure a1); let y86 ← (pure (.int 0)); DL.ask (ixD x85 y86)); let y88 ← (pure (.str [46, 97])); DL.ask (addD x87 y88)); let r90 ← pure []; pure (x89 :: r90)); pure (x91 :: r92)); DL.ask (szL r93))); let r95 ← pure []; pure (x94 :: r95)); DL.ask (szL r96)); pure (.rt (.lst v98)))
theorem l__law_some_12afn_4 (q78 : List D × List D) (a1 : D) : k__law_some_12afn_4 q78 a1 = (do let t97 ← (Mo.noex (do let x81 ← (pure (.lst q78.1)); let y82 ← (mkL (do let r80 ← pure []; DL.ask (szL r80))); DL.ask ((neD x81 y82).bind bOf))); if t97 = true then pure (.rt (.lst q78.1)) else do let v98 ← (do let r96 ← (do let x94 ← (mkL (do let r93 ← (do let x91 ← (do let x83 ← (pure a1); let y84 ← (pure (.int 0)); DL.ask (ixD x83 y84)); let r92 ← (do let x89 ← (do let x87 ← (do let x85 ← (pure a1); let y86 ← (pure (.int 0)); DL.ask (ixD x85 y86)); let y88 ← (pure (.str [46, 97])); DL.ask (addD x87 y88)); let r90 ← pure []; pure (x89 :: r90)); pure (x91 :: r92)); DL.ask (szL r93))); let r95 ← pure []; pure (x94 :: r95)); DL.ask (szL r96)); pure (.rt (.lst v98))) := rfl
def k__law_some_12afn_5 (a1 : D) (v3 : D) (v1 : List D) (v2 : List D) : M (Fl (Unit) (Empty)) := (do let r99 ← (do let r16 ← (do let x14 ← (do let x12 ← (pure (.int 1)); let y13 ← (do let r11 ← (do let x9 ← (pure (.int 5)); let r10 ← pure []; pure (x9 :: r10)); m__law_take_bb49 r11); DL.ask (addD x12 y13)); let r15 ← pure []; pure (x14 :: r15)); DL.ask (rng1 r16)); seqF (forF (fun d => some d) (fun (q17 : List D × List D) (c18 : D) => (do let v19 ← (do let r20 ← pure []; DL.ask (szL r20)); (k__law_some_12afn_3 a1 v3 q17 v19))) r99 (v1, v2)) fun (q78 : List D × List D) => (k__law_some_12afn_4 q78 a1))
theorem l__law_some_12afn_5 (a1 : D) (v3 : D) (v1 : List D) (v2 : List D) : k__law_some_12afn_5 a1 v3 v1 v2 = (do let r99 ← (do let r16 ← (do let x14 ← (do let x12 ← (pure (.int 1)); let y13 ← (do let r11 ← (do let x9 ← (pure (.int 5)); let r10 ← pure []; pure (x9 :: r10)); m__law_take_bb49 r11); DL.ask (addD x12 y13)); let r15 ← pure []; pure (x14 :: r15)); DL.ask (rng1 r16)); seqF (forF (fun d => some d) (fun (q17 : List D × List D) (c18 : D) => (do let v19 ← (do let r20 ← pure []; DL.ask (szL r20)); (k__law_some_12afn_3 a1 v3 q17 v19))) r99 (v1, v2)) fun (q78 : List D × List D) => (k__law_some_12afn_4 q78 a1)) := rfl
def b__law_some_12afn (a1 : D) : M (Fl Unit Empty) := (do let v1 ← (do let r4 ← pure []; DL.ask (szL r4)); let v2 ← (do let r5 ← pure []; DL.ask (szL r5)); let v3 ← (do let r8 ← (do let x6 ← (pure (.int 3)); let r7 ← pure []; pure (x6 :: r7)); m__law_take_bb49 r8); (k__law_some_12afn_5 a1 v3 v1 v2))
theorem e__law_some_12afn (a1 : D) : b__law_some_12afn a1 = (do let v1 ← (DL.ask (szL [])); let v2 ← (DL.ask (szL [])); let v3 ← (m__law_take_bb49 [(.int 3)]); let y13 ← (m__law_take_bb49 [(.int 5)]); let x14 ← (DL.ask (addD (.int 1) y13)); let r99 ← (DL.ask (rng1 [x14])); seqF (forF (fun d => some d) (fun (q17 : List D × List D) (c18 : D) => (do let v19 ← (DL.ask (szL [])); let y25 ← (m__law_take_bb49 [(.int 3)]); let x26 ← (DL.ask (addD (.int 2) y25)); let r77 ← (DL.ask (rng1 [x26])); seqF (forF (fun d => some d) (fun (q29 : List D × List D) (c30 : D) => (do let _ ← DL.ask (strOf (.str [46])); let y36 ← (m__law_take_bb49 [(.int 3)]); let x37 ← (DL.ask (addD (.int 1) y36)); let r45 ← (DL.ask (rng1 [x37])); let y47 ← (lcF (fun d => some d) (fun (c41 : D) => pure true) (fun (c41 : D) => (m__law_of_8ba0 [a1])) r45); let v31 ← (DL.ask (joinD (.str [46]) (.lst y47))); let t58 ← (DL.orM (Mo.noex (DL.ask ((notInD v31 (.lst q29.1)).bind bOf))) (DL.ask ((eqD v3 (.int 2)).bind bOf))); seqF (if t58 = true then (do let v55 ← DL.ask (apd q29.1 v31); let v57 ← DL.ask (apd q29.2 v31); (pure (.nx (v55, v57)))) else (pure (.nx (q29.1, q29.2)))) fun (q53 : List D × List D) => (pure (.nx (q53.1, q53.2))))) r77 (q17.2, v19)) fun (q59 : List D × List D) => (do let x63 ← (DL.ask (lenD [(.lst q59.2)])); let t76 ← (DL.ask ((gtD x63 (.int 1)).bind bOf)); seqF (if t76 = true then (do let v66 ← (iteM (do let x71 ← (m__law_take_bb49 [(.int 2)]); DL.ask ((eqD x71 (.int 0)).bind bOf)) (DL.ask (tupleD [(.lst q59.2)])) (pure (.lst q59.2))); let v67 ← DL.ask (apd q17.1 v66); (pure (.nx v67))) else (pure (.nx q17.1))) fun (q65 : List D) => (pure (.nx (q65, q59.1)))))) r99 (v1, v2)) fun (q78 : List D × List D) => (do let t97 ← (Mo.noex (do let y82 ← (DL.ask (szL [])); DL.ask ((neD (.lst q78.1) (.lst y82)).bind bOf))); if t97 = true then pure (.rt (.lst q78.1)) else do let v98 ← (do let x91 ← (DL.ask (ixD a1 (.int 0))); let x87 ← (DL.ask (ixD a1 (.int 0))); let x89 ← (DL.ask (addD x87 (.str [46, 97]))); let x94 ← (DL.ask (szL [x91, x89])); DL.ask (szL [(.lst x94)])); pure (.rt (.lst v98)))) := by
  unfold b__law_some_12afn; simp only [l__law_some_12afn_0, l__law_some_12afn_1, l__law_some_12afn_2, l__law_some_12afn_3, l__law_some_12afn_4, l__law_some_12afn_5, pure_bind, bind_assoc, mkL]
def m__law_some_12afn : List D → M D := apM1 fun a1 => (runM true (b__law_some_12afn a1))
theorem n__law_some_12afn : ∀ ds s, m__law_some_12afn ds s ≠ .stuck → ds.length = 1 := apM1_len _
def k_Groups_translated_fd84_0 (a1 : D) (a0 : D) : R (Fl (Unit) (Empty)) := (do let t14 ← (DL.notM (do let x4 ← (do let r3 ← (do let x1 ← (pure a1); let r2 ← pure []; pure (x1 :: r2)); Mo.lift (m_is_host_45ba r3)); DL.ask (truD x4))); seqF (if t14 = true then (do let v6 ← (pure a1); raiseX "BadHost" "host" v6) else (pure (.nx ()))) fun (q5 : Unit) => (do let v13 ← (do let r12 ← (do let x10 ← (do let x7 ← (pure a0); DL.ask (fldD ["Groups"] "hosts" x7)); let r11 ← (do let x8 ← (pure a1); let r9 ← pure []; pure (x8 :: r9)); pure (x10 :: r11)); Mo.lift (m_moved_8ac7 r12)); pure (.rt v13)))
theorem l_Groups_translated_fd84_0 (a1 : D) (a0 : D) : k_Groups_translated_fd84_0 a1 a0 = (do let t14 ← (DL.notM (do let x4 ← (do let r3 ← (do let x1 ← (pure a1); let r2 ← pure []; pure (x1 :: r2)); Mo.lift (m_is_host_45ba r3)); DL.ask (truD x4))); seqF (if t14 = true then (do let v6 ← (pure a1); raiseX "BadHost" "host" v6) else (pure (.nx ()))) fun (q5 : Unit) => (do let v13 ← (do let r12 ← (do let x10 ← (do let x7 ← (pure a0); DL.ask (fldD ["Groups"] "hosts" x7)); let r11 ← (do let x8 ← (pure a1); let r9 ← pure []; pure (x8 :: r9)); pure (x10 :: r11)); Mo.lift (m_moved_8ac7 r12)); pure (.rt v13))) := rfl
def b_Groups_translated_fd84 (a0 a1 : D) : R (Fl Unit Empty) := (k_Groups_translated_fd84_0 a1 a0)
theorem e_Groups_translated_fd84 (a0 a1 : D) : b_Groups_translated_fd84 a0 a1 = (do let t14 ← (DL.notM (do let x4 ← (Mo.lift (m_is_host_45ba [a1])); DL.ask (truD x4))); seqF (if t14 = true then (raiseX "BadHost" "host" a1) else (pure (.nx ()))) fun (q5 : Unit) => (do let x10 ← (DL.ask (fldD ["Groups"] "hosts" a0)); let v13 ← (Mo.lift (m_moved_8ac7 [x10, a1])); pure (.rt v13))) := by
  unfold b_Groups_translated_fd84; simp only [l_Groups_translated_fd84_0, pure_bind, bind_assoc, mkL]
def m_Groups_translated_fd84 : List D → R D := apR2 fun a0 a1 => (runR false (b_Groups_translated_fd84 a0 a1))
theorem n_Groups_translated_fd84 : ∀ ds : List D, m_Groups_translated_fd84 ds ≠ .stuck → ds.length = 2 := apR2_len _
def k_Groups_origins_a60a_0 (c14 : D) (a1 : D) (q13 : List D) : R (Fl (List D) (List D)) := (do let v24 ← (mkL (do let r46 ← (do let r26 ← (pure c14); DL.ask (itD r26)); lcF (fun d => some d) (fun (c28 : D) => pure true) (fun (c28 : D) => (do let x44 ← (do let x41 ← (pure a1); let l42 ← (pure none); let u43 ← (do let x39 ← (do let x37 ← (do let r31 ← (do let x29 ← (pure a1); let r30 ← pure []; pure (x29 :: r30)); DL.ask (lenD r31)); let y38 ← (do let r36 ← (do let x34 ← (do let x32 ← (pure c14); let y33 ← (pure (.int 0)); DL.ask (ixD x32 y33)); let r35 ← pure []; pure (x34 :: r35)); DL.ask (lenD r36)); DL.ask (subD x37 y38)); let i40 ← DL.ask (intOf x39); pure (some i40)); DL.ask (sliceD x41 l42 u43)); let y45 ← (pure c28); DL.ask (addD x44 y45))) r46)); let v25 ← DL.ask (extI q13 [v24]); (pure (.nx v25)))
theorem l_Groups_origins_a60a_0 (c14 : D) (a1 : D) (q13 : List D) : k_Groups_origins_a60a_0 c14 a1 q13 = (do let v24 ← (mkL (do let r46 ← (do let r26 ← (pure c14); DL.ask (itD r26)); lcF (fun d => some d) (fun (c28 : D) => pure true) (fun (c28 : D) => (do let x44 ← (do let x41 ← (pure a1); let l42 ← (pure none); let u43 ← (do let x39 ← (do let x37 ← (do let r31 ← (do let x29 ← (pure a1); let r30 ← pure []; pure (x29 :: r30)); DL.ask (lenD r31)); let y38 ← (do let r36 ← (do let x34 ← (do let x32 ← (pure c14); let y33 ← (pure (.int 0)); DL.ask (ixD x32 y33)); let r35 ← pure []; pure (x34 :: r35)); DL.ask (lenD r36)); DL.ask (subD x37 y38)); let i40 ← DL.ask (intOf x39); pure (some i40)); DL.ask (sliceD x41 l42 u43)); let y45 ← (pure c28); DL.ask (addD x44 y45))) r46)); let v25 ← DL.ask (extI q13 [v24]); (pure (.nx v25))) := rfl
def k_Groups_origins_a60a_1 (a1 : D) (c14 : D) (q13 : List D) : R (Fl (List D) (List D)) := (do let t47 ← (do let x22 ← (do let r21 ← (do let x19 ← (pure a1); let r20 ← (do let x17 ← (do let x15 ← (pure c14); let y16 ← (pure (.int 0)); DL.ask (ixD x15 y16)); let r18 ← pure []; pure (x17 :: r18)); pure (x19 :: r20)); Mo.lift (m_ends_with_d715 r21)); DL.ask (truD x22)); seqF (if t47 = true then (k_Groups_origins_a60a_0 c14 a1 q13) else (pure (.nx q13))) fun (q23 : List D) => (pure (.nx q23)))
theorem l_Groups_origins_a60a_1 (a1 : D) (c14 : D) (q13 : List D) : k_Groups_origins_a60a_1 a1 c14 q13 = (do let t47 ← (do let x22 ← (do let r21 ← (do let x19 ← (pure a1); let r20 ← (do let x17 ← (do let x15 ← (pure c14); let y16 ← (pure (.int 0)); DL.ask (ixD x15 y16)); let r18 ← pure []; pure (x17 :: r18)); pure (x19 :: r20)); Mo.lift (m_ends_with_d715 r21)); DL.ask (truD x22)); seqF (if t47 = true then (k_Groups_origins_a60a_0 c14 a1 q13) else (pure (.nx q13))) fun (q23 : List D) => (pure (.nx q23))) := rfl
def k_Groups_origins_a60a_2 (a1 : D) (a0 : D) : R (Fl (Unit) (Empty)) := (do let v7 ← (do let r10 ← (do let x8 ← (pure a1); let r9 ← pure []; pure (x8 :: r9)); DL.ask (szL r10)); (do let r49 ← (do let r12 ← (do let x11 ← (pure a0); DL.ask (fldD ["Groups"] "hosts" x11)); DL.ask (itD r12)); seqF (forF (fun d => some d) (fun (q13 : List D) (c14 : D) => (k_Groups_origins_a60a_1 a1 c14 q13)) r49 v7) fun (q48 : List D) => (Mo.lift R.stuck)))
theorem l_Groups_origins_a60a_2 (a1 : D) (a0 : D) : k_Groups_origins_a60a_2 a1 a0 = (do let v7 ← (do let r10 ← (do let x8 ← (pure a1); let r9 ← pure []; pure (x8 :: r9)); DL.ask (szL r10)); (do let r49 ← (do let r12 ← (do let x11 ← (pure a0); DL.ask (fldD ["Groups"] "hosts" x11)); DL.ask (itD r12)); seqF (forF (fun d => some d) (fun (q13 : List D) (c14 : D) => (k_Groups_origins_a60a_1 a1 c14 q13)) r49 v7) fun (q48 : List D) => (Mo.lift R.stuck))) := rfl
def b_Groups_origins_a60a (a0 a1 : D) : R (Fl Unit Empty) := (do let t50 ← (DL.notM (do let x4 ← (do let r3 ← (do let x1 ← (pure a1); let r2 ← pure []; pure (x1 :: r2)); Mo.lift (m_is_host_45ba r3)); DL.ask (truD x4))); seqF (if t50 = true then (do let v6 ← (pure a1); raiseX "BadHost" "host" v6) else (pure (.nx ()))) fun (q5 : Unit) => (k_Groups_origins_a60a_2 a1 a0))
theorem e_Groups_origins_a60a (a0 a1 : D) : b_Groups_origins_a60a a0 a1 = (do let t50 ← (DL.notM (do let x4 ← (Mo.lift (m_is_host_45ba [a1])); DL.ask (truD x4))); seqF (if t50 = true then (raiseX "BadHost" "host" a1) else (pure (.nx ()))) fun (q5 : Unit) => (do let v7 ← (DL.ask (szL [a1])); let r12 ← (DL.ask (fldD ["Groups"] "hosts" a0)); let r49 ← (DL.ask (itD r12)); seqF (forF (fun d => some d) (fun (q13 : List D) (c14 : D) => (do let x17 ← (DL.ask (ixD c14 (.int 0))); let x22 ← (Mo.lift (m_ends_with_d715 [a1, x17])); let t47 ← (DL.ask (truD x22)); seqF (if t47 = true then (do let r46 ← (DL.ask (itD c14)); let v24 ← (lcF (fun d => some d) (fun (c28 : D) => pure true) (fun (c28 : D) => (do let x37 ← (DL.ask (lenD [a1])); let x34 ← (DL.ask (ixD c14 (.int 0))); let y38 ← (DL.ask (lenD [x34])); let x39 ← (DL.ask (subD x37 y38)); let i40 ← DL.ask (intOf x39); let x44 ← (DL.ask (sliceD a1 none (some i40))); DL.ask (addD x44 c28))) r46); let v25 ← DL.ask (extI q13 [(.lst v24)]); (pure (.nx v25))) else (pure (.nx q13))) fun (q23 : List D) => (pure (.nx q23)))) r49 v7) fun (q48 : List D) => (Mo.lift R.stuck))) := by
  unfold b_Groups_origins_a60a; simp only [l_Groups_origins_a60a_0, l_Groups_origins_a60a_1, l_Groups_origins_a60a_2, pure_bind, bind_assoc, mkL]
def m_Groups_origins_a60a : List D → R D := apR2 fun a0 a1 => (runR false (b_Groups_origins_a60a a0 a1))
theorem n_Groups_origins_a60a : ∀ ds : List D, m_Groups_origins_a60a ds ≠ .stuck → ds.length = 2 := apR2_len _
def k_Groups_member_6374_0 (a0 : D) (a1 : D) : R (Fl (Unit) (Empty)) := (do let v7 ← (do let r13 ← (do let x11 ← (do let x8 ← (pure a0); DL.ask (fldD ["Groups"] "hosts" x8)); let r12 ← (do let x9 ← (pure a1); let r10 ← pure []; pure (x9 :: r10)); pure (x11 :: r12)); Mo.lift (m_member_and_head_c6a4 r13)); (do let v21 ← (iteM (do let x14 ← (pure v7); let y15 ← (pure .non); DL.ask ((isD x14 y15).bind bOf)) (pure .non) (do let r20 ← (do let x18 ← (do let x16 ← (pure v7); let y17 ← (pure (.int 0)); DL.ask (ixD x16 y17)); let r19 ← pure []; pure (x18 :: r19)); Mo.lift (m_host_text_f5b6 r20))); pure (.rt v21)))
theorem l_Groups_member_6374_0 (a0 : D) (a1 : D) : k_Groups_member_6374_0 a0 a1 = (do let v7 ← (do let r13 ← (do let x11 ← (do let x8 ← (pure a0); DL.ask (fldD ["Groups"] "hosts" x8)); let r12 ← (do let x9 ← (pure a1); let r10 ← pure []; pure (x9 :: r10)); pure (x11 :: r12)); Mo.lift (m_member_and_head_c6a4 r13)); (do let v21 ← (iteM (do let x14 ← (pure v7); let y15 ← (pure .non); DL.ask ((isD x14 y15).bind bOf)) (pure .non) (do let r20 ← (do let x18 ← (do let x16 ← (pure v7); let y17 ← (pure (.int 0)); DL.ask (ixD x16 y17)); let r19 ← pure []; pure (x18 :: r19)); Mo.lift (m_host_text_f5b6 r20))); pure (.rt v21))) := rfl
def b_Groups_member_6374 (a0 a1 : D) : R (Fl Unit Empty) := (do let t22 ← (DL.notM (do let x4 ← (do let r3 ← (do let x1 ← (pure a1); let r2 ← pure []; pure (x1 :: r2)); Mo.lift (m_is_host_45ba r3)); DL.ask (truD x4))); seqF (if t22 = true then (do let v6 ← (pure a1); raiseX "BadHost" "host" v6) else (pure (.nx ()))) fun (q5 : Unit) => (k_Groups_member_6374_0 a0 a1))
theorem e_Groups_member_6374 (a0 a1 : D) : b_Groups_member_6374 a0 a1 = (do let t22 ← (DL.notM (do let x4 ← (Mo.lift (m_is_host_45ba [a1])); DL.ask (truD x4))); seqF (if t22 = true then (raiseX "BadHost" "host" a1) else (pure (.nx ()))) fun (q5 : Unit) => (do let x11 ← (DL.ask (fldD ["Groups"] "hosts" a0)); let v7 ← (Mo.lift (m_member_and_head_c6a4 [x11, a1])); let v21 ← (iteM (DL.ask ((isD v7 .non).bind bOf)) (pure .non) (do let x18 ← (DL.ask (ixD v7 (.int 0))); Mo.lift (m_host_text_f5b6 [x18]))); pure (.rt v21))) := by
  unfold b_Groups_member_6374; simp only [l_Groups_member_6374_0, pure_bind, bind_assoc, mkL]
def m_Groups_member_6374 : List D → R D := apR2 fun a0 a1 => (runR false (b_Groups_member_6374 a0 a1))
theorem n_Groups_member_6374 : ∀ ds : List D, m_Groups_member_6374 ds ≠ .stuck → ds.length = 2 := apR2_len _
def k__law_wrong_hosts_4fc9_0 (q21 : List D) (a1 : D) : R (Fl (Unit) (Empty)) := (do let v56 ← (andV (do let x33 ← (do let r32 ← (do let x30 ← (pure (.lst q21)); let r31 ← pure []; pure (x30 :: r31)); DL.ask (lenD r32)); let y34 ← (pure (.int 3)); DL.ask (eqD x33 y34)) (andV (do let r41 ← (do let x39 ← (do let x35 ← (pure (.lst q21)); let y36 ← (pure (.int 0)); DL.ask (ixD x35 y36)); let r40 ← (do let x37 ← (pure a1); let r38 ← pure []; pure (x37 :: r38)); pure (x39 :: r40)); Mo.lift (m__law_same_9288 r41)) (andV (do let r48 ← (do let x46 ← (do let x42 ← (pure (.lst q21)); let y43 ← (pure (.int 1)); DL.ask (ixD x42 y43)); let r47 ← (do let x44 ← (pure a1); let r45 ← pure []; pure (x44 :: r45)); pure (x46 :: r47)); Mo.lift (m__law_same_9288 r48)) (do let r55 ← (do let x53 ← (do let x49 ← (pure (.lst q21)); let y50 ← (pure (.int 2)); DL.ask (ixD x49 y50)); let r54 ← (do let x51 ← (pure a1); let r52 ← pure []; pure (x51 :: r52)); pure (x53 :: r54)); Mo.lift (m__law_same_9288 r55))))); pure (.rt v56))
theorem l__law_wrong_hosts_4fc9_0 (q21 : List D) (a1 : D) : k__law_wrong_hosts_4fc9_0 q21 a1 = (do let v56 ← (andV (do let x33 ← (do let r32 ← (do let x30 ← (pure (.lst q21)); let r31 ← pure []; pure (x30 :: r31)); DL.ask (lenD r32)); let y34 ← (pure (.int 3)); DL.ask (eqD x33 y34)) (andV (do let r41 ← (do let x39 ← (do let x35 ← (pure (.lst q21)); let y36 ← (pure (.int 0)); DL.ask (ixD x35 y36)); let r40 ← (do let x37 ← (pure a1); let r38 ← pure []; pure (x37 :: r38)); pure (x39 :: r40)); Mo.lift (m__law_same_9288 r41)) (andV (do let r48 ← (do let x46 ← (do let x42 ← (pure (.lst q21)); let y43 ← (pure (.int 1)); DL.ask (ixD x42 y43)); let r47 ← (do let x44 ← (pure a1); let r45 ← pure []; pure (x44 :: r45)); pure (x46 :: r47)); Mo.lift (m__law_same_9288 r48)) (do let r55 ← (do let x53 ← (do let x49 ← (pure (.lst q21)); let y50 ← (pure (.int 2)); DL.ask (ixD x49 y50)); let r54 ← (do let x51 ← (pure a1); let r52 ← pure []; pure (x51 :: r52)); pure (x53 :: r54)); Mo.lift (m__law_same_9288 r55))))); pure (.rt v56)) := rfl
def k__law_wrong_hosts_4fc9_1 (a0 : D) (a1 : D) (q12 : List D) : R (Fl (Unit) (Empty)) := (seqF (tryFs [("BadGroup", "group"), ("BadHost", "host"), ("TooMany", "limit"), ("Twice", "name")] (do let _ ← (do let x25 ← (pure a0); let _ ← DL.ask (insOk ["Groups"] "origins" x25); let r26 ← (do let x23 ← (pure a1); let r24 ← pure []; pure (x23 :: r24)); Mo.lift (dispM [("Groups", m_Groups_origins_a60a)] x25 r26)); (pure (.nx q12))) [("BadHost", fun e27 => (do let v28 ← (pure e27); let v29 ← DL.ask (apd q12 v28); (pure (.nx v29))))]) fun (q21 : List D) => (k__law_wrong_hosts_4fc9_0 q21 a1))
theorem l__law_wrong_hosts_4fc9_1 (a0 : D) (a1 : D) (q12 : List D) : k__law_wrong_hosts_4fc9_1 a0 a1 q12 = (seqF (tryFs [("BadGroup", "group"), ("BadHost", "host"), ("TooMany", "limit"), ("Twice", "name")] (do let _ ← (do let x25 ← (pure a0); let _ ← DL.ask (insOk ["Groups"] "origins" x25); let r26 ← (do let x23 ← (pure a1); let r24 ← pure []; pure (x23 :: r24)); Mo.lift (dispM [("Groups", m_Groups_origins_a60a)] x25 r26)); (pure (.nx q12))) [("BadHost", fun e27 => (do let v28 ← (pure e27); let v29 ← DL.ask (apd q12 v28); (pure (.nx v29))))]) fun (q21 : List D) => (k__law_wrong_hosts_4fc9_0 q21 a1)) := rfl
def k__law_wrong_hosts_4fc9_2 (a0 : D) (a1 : D) (q3 : List D) : R (Fl (Unit) (Empty)) := (seqF (tryFs [("BadGroup", "group"), ("BadHost", "host"), ("TooMany", "limit"), ("Twice", "name")] (do let _ ← (do let x16 ← (pure a0); let _ ← DL.ask (insOk ["Groups"] "member" x16); let r17 ← (do let x14 ← (pure a1); let r15 ← pure []; pure (x14 :: r15)); Mo.lift (dispM [("Groups", m_Groups_member_6374)] x16 r17)); (pure (.nx q3))) [("BadHost", fun e18 => (do let v19 ← (pure e18); let v20 ← DL.ask (apd q3 v19); (pure (.nx v20))))]) fun (q12 : List D) => (k__law_wrong_hosts_4fc9_1 a0 a1 q12))
theorem l__law_wrong_hosts_4fc9_2 (a0 : D) (a1 : D) (q3 : List D) : k__law_wrong_hosts_4fc9_2 a0 a1 q3 = (seqF (tryFs [("BadGroup", "group"), ("BadHost", "host"), ("TooMany", "limit"), ("Twice", "name")] (do let _ ← (do let x16 ← (pure a0); let _ ← DL.ask (insOk ["Groups"] "member" x16); let r17 ← (do let x14 ← (pure a1); let r15 ← pure []; pure (x14 :: r15)); Mo.lift (dispM [("Groups", m_Groups_member_6374)] x16 r17)); (pure (.nx q3))) [("BadHost", fun e18 => (do let v19 ← (pure e18); let v20 ← DL.ask (apd q3 v19); (pure (.nx v20))))]) fun (q12 : List D) => (k__law_wrong_hosts_4fc9_1 a0 a1 q12)) := rfl
def k__law_wrong_hosts_4fc9_3 (a0 : D) (a1 : D) (v1 : List D) : R (Fl (Unit) (Empty)) := (seqF (tryFs [("BadGroup", "group"), ("BadHost", "host"), ("TooMany", "limit"), ("Twice", "name")] (do let _ ← (do let x7 ← (pure a0); let _ ← DL.ask (insOk ["Groups"] "translated" x7); let r8 ← (do let x5 ← (pure a1); let r6 ← pure []; pure (x5 :: r6)); Mo.lift (dispM [("Groups", m_Groups_translated_fd84)] x7 r8)); (pure (.nx v1))) [("BadHost", fun e9 => (do let v10 ← (pure e9); let v11 ← DL.ask (apd v1 v10); (pure (.nx v11))))]) fun (q3 : List D) => (k__law_wrong_hosts_4fc9_2 a0 a1 q3))
theorem l__law_wrong_hosts_4fc9_3 (a0 : D) (a1 : D) (v1 : List D) : k__law_wrong_hosts_4fc9_3 a0 a1 v1 = (seqF (tryFs [("BadGroup", "group"), ("BadHost", "host"), ("TooMany", "limit"), ("Twice", "name")] (do let _ ← (do let x7 ← (pure a0); let _ ← DL.ask (insOk ["Groups"] "translated" x7); let r8 ← (do let x5 ← (pure a1); let r6 ← pure []; pure (x5 :: r6)); Mo.lift (dispM [("Groups", m_Groups_translated_fd84)] x7 r8)); (pure (.nx v1))) [("BadHost", fun e9 => (do let v10 ← (pure e9); let v11 ← DL.ask (apd v1 v10); (pure (.nx v11))))]) fun (q3 : List D) => (k__law_wrong_hosts_4fc9_2 a0 a1 q3)) := rfl
def b__law_wrong_hosts_4fc9 (a0 a1 : D) : R (Fl Unit Empty) := (do let v1 ← (do let r2 ← pure []; DL.ask (szL r2)); (k__law_wrong_hosts_4fc9_3 a0 a1 v1))
theorem e__law_wrong_hosts_4fc9 (a0 a1 : D) : b__law_wrong_hosts_4fc9 a0 a1 = (do let v1 ← (DL.ask (szL [])); (seqF (tryFs [("BadGroup", "group"), ("BadHost", "host"), ("TooMany", "limit"), ("Twice", "name")] (do let _ ← DL.ask (insOk ["Groups"] "translated" a0); let _ ← (Mo.lift (dispM [("Groups", m_Groups_translated_fd84)] a0 [a1])); (pure (.nx v1))) [("BadHost", fun e9 => (do let v11 ← DL.ask (apd v1 e9); (pure (.nx v11))))]) fun (q3 : List D) => (seqF (tryFs [("BadGroup", "group"), ("BadHost", "host"), ("TooMany", "limit"), ("Twice", "name")] (do let _ ← DL.ask (insOk ["Groups"] "member" a0); let _ ← (Mo.lift (dispM [("Groups", m_Groups_member_6374)] a0 [a1])); (pure (.nx q3))) [("BadHost", fun e18 => (do let v20 ← DL.ask (apd q3 e18); (pure (.nx v20))))]) fun (q12 : List D) => (seqF (tryFs [("BadGroup", "group"), ("BadHost", "host"), ("TooMany", "limit"), ("Twice", "name")] (do let _ ← DL.ask (insOk ["Groups"] "origins" a0); let _ ← (Mo.lift (dispM [("Groups", m_Groups_origins_a60a)] a0 [a1])); (pure (.nx q12))) [("BadHost", fun e27 => (do let v29 ← DL.ask (apd q12 e27); (pure (.nx v29))))]) fun (q21 : List D) => (do let v56 ← (andV (do let x33 ← (DL.ask (lenD [(.lst q21)])); DL.ask (eqD x33 (.int 3))) (andV (do let x39 ← (DL.ask (ixD (.lst q21) (.int 0))); Mo.lift (m__law_same_9288 [x39, a1])) (andV (do let x46 ← (DL.ask (ixD (.lst q21) (.int 1))); Mo.lift (m__law_same_9288 [x46, a1])) (do let x53 ← (DL.ask (ixD (.lst q21) (.int 2))); Mo.lift (m__law_same_9288 [x53, a1]))))); pure (.rt v56)))))) := by
  unfold b__law_wrong_hosts_4fc9; simp only [l__law_wrong_hosts_4fc9_0, l__law_wrong_hosts_4fc9_1, l__law_wrong_hosts_4fc9_2, l__law_wrong_hosts_4fc9_3, pure_bind, bind_assoc, mkL]
def m__law_wrong_hosts_4fc9 : List D → R D := apR2 fun a0 a1 => (runR false (b__law_wrong_hosts_4fc9 a0 a1))
theorem n__law_wrong_hosts_4fc9 : ∀ ds : List D, m__law_wrong_hosts_4fc9 ds ≠ .stuck → ds.length = 2 := apR2_len _
def k_Groups_init_1887_0 (c7 : D) (q6 : List D × List D) : R (Fl (List D × List D) (List D × List D)) := (do let w14 ← (do let r13 ← (do let x11 ← (pure c7); let r12 ← (do let x9 ← (pure (.lst q6.2)); let r10 ← pure []; pure (x9 :: r10)); pure (x11 :: r12)); Mo.lift (m_checked_group_64d1 r13)); let v8 ← DL.ask (flatD w14); (do let v15 ← (pure v8); let v16 ← DL.ask (apd q6.1 v15); (do let v17 ← (mkL (do let r21 ← (do let x19 ← (pure v8); let r20 ← pure []; pure (x19 :: r20)); let r22 ← DL.ask (listD r21); DL.ask (szL r22))); let v18 ← DL.ask (extI q6.2 [v17]); (pure (.nx (v16, v18))))))
theorem l_Groups_init_1887_0 (c7 : D) (q6 : List D × List D) : k_Groups_init_1887_0 c7 q6 = (do let w14 ← (do let r13 ← (do let x11 ← (pure c7); let r12 ← (do let x9 ← (pure (.lst q6.2)); let r10 ← pure []; pure (x9 :: r10)); pure (x11 :: r12)); Mo.lift (m_checked_group_64d1 r13)); let v8 ← DL.ask (flatD w14); (do let v15 ← (pure v8); let v16 ← DL.ask (apd q6.1 v15); (do let v17 ← (mkL (do let r21 ← (do let x19 ← (pure v8); let r20 ← pure []; pure (x19 :: r20)); let r22 ← DL.ask (listD r21); DL.ask (szL r22))); let v18 ← DL.ask (extI q6.2 [v17]); (pure (.nx (v16, v18)))))) := rfl
def k_Groups_init_1887_1 (q23 : List D × List D) (v31 : D) : R (Fl (List D) (Empty)) := (do let v35 ← (do let r52 ← (do let x50 ← (mkL (do let r49 ← (do let r36 ← (pure (.lst q23.1)); DL.ask (itD r36)); lcF (fun d => some d) (fun (c38 : D) => pure true) (fun (c38 : D) => (do let r48 ← (do let x46 ← (mkL (do let r45 ← (do let r39 ← (pure c38); DL.ask (itD r39)); lcF (fun d => some d) (fun (c41 : D) => pure true) (fun (c41 : D) => (do let r44 ← (do let x42 ← (pure c41); let r43 ← pure []; pure (x42 :: r43)); Mo.lift (m_host_text_f5b6 r44))) r45)); let r47 ← pure []; pure (x46 :: r47)); DL.ask (tupleD r48))) r49)); let r51 ← pure []; pure (x50 :: r51)); DL.ask (tupleD r52)); (pure (.nx [v31, v35])))
theorem l_Groups_init_1887_1 (q23 : List D × List D) (v31 : D) : k_Groups_init_1887_1 q23 v31 = (do let v35 ← (do let r52 ← (do let x50 ← (mkL (do let r49 ← (do let r36 ← (pure (.lst q23.1)); DL.ask (itD r36)); lcF (fun d => some d) (fun (c38 : D) => pure true) (fun (c38 : D) => (do let r48 ← (do let x46 ← (mkL (do let r45 ← (do let r39 ← (pure c38); DL.ask (itD r39)); lcF (fun d => some d) (fun (c41 : D) => pure true) (fun (c41 : D) => (do let r44 ← (do let x42 ← (pure c41); let r43 ← pure []; pure (x42 :: r43)); Mo.lift (m_host_text_f5b6 r44))) r45)); let r47 ← pure []; pure (x46 :: r47)); DL.ask (tupleD r48))) r49)); let r51 ← pure []; pure (x50 :: r51)); DL.ask (tupleD r52)); (pure (.nx [v31, v35]))) := rfl
def k_Groups_init_1887_2 (q23 : List D × List D) : R (Fl (List D) (Empty)) := (do let t53 ← (do let x27 ← (do let r26 ← (do let x24 ← (pure (.lst q23.1)); let r25 ← pure []; pure (x24 :: r25)); DL.ask (lenD r26)); let y28 ← (pure c_MOST_GROUPS); DL.ask ((gtD x27 y28).bind bOf)); seqF (if t53 = true then (do let v30 ← (pure c_MOST_GROUPS); raiseX "TooMany" "limit" v30) else (pure (.nx ()))) fun (q29 : Unit) => (do let v31 ← (do let r34 ← (do let x32 ← (pure (.lst q23.1)); let r33 ← pure []; pure (x32 :: r33)); DL.ask (tupleD r34)); (k_Groups_init_1887_1 q23 v31)))
theorem l_Groups_init_1887_2 (q23 : List D × List D) : k_Groups_init_1887_2 q23 = (do let t53 ← (do let x27 ← (do let r26 ← (do let x24 ← (pure (.lst q23.1)); let r25 ← pure []; pure (x24 :: r25)); DL.ask (lenD r26)); let y28 ← (pure c_MOST_GROUPS); DL.ask ((gtD x27 y28).bind bOf)); seqF (if t53 = true then (do let v30 ← (pure c_MOST_GROUPS); raiseX "TooMany" "limit" v30) else (pure (.nx ()))) fun (q29 : Unit) => (do let v31 ← (do let r34 ← (do let x32 ← (pure (.lst q23.1)); let r33 ← pure []; pure (x32 :: r33)); DL.ask (tupleD r34)); (k_Groups_init_1887_1 q23 v31))) := rfl
def b_Groups_init_1887 (a1 : D) : R (Fl (List D) Empty) := (do let v1 ← (do let r3 ← pure []; DL.ask (szL r3)); let v2 ← (do let r4 ← pure []; DL.ask (szL r4)); (do let r54 ← (do let r5 ← (pure a1); DL.ask (itD r5)); seqF (forF (fun d => some d) (fun (q6 : List D × List D) (c7 : D) => (k_Groups_init_1887_0 c7 q6)) r54 (v1, v2)) fun (q23 : List D × List D) => (k_Groups_init_1887_2 q23)))
theorem e_Groups_init_1887 (a1 : D) : b_Groups_init_1887 a1 = (do let v1 ← (DL.ask (szL [])); let v2 ← (DL.ask (szL [])); let r54 ← (DL.ask (itD a1)); seqF (forF (fun d => some d) (fun (q6 : List D × List D) (c7 : D) => (do let w14 ← (Mo.lift (m_checked_group_64d1 [c7, (.lst q6.2)])); let v8 ← DL.ask (flatD w14); let v16 ← DL.ask (apd q6.1 v8); let r22 ← DL.ask (listD [v8]); let v17 ← (DL.ask (szL r22)); let v18 ← DL.ask (extI q6.2 [(.lst v17)]); (pure (.nx (v16, v18))))) r54 (v1, v2)) fun (q23 : List D × List D) => (do let x27 ← (DL.ask (lenD [(.lst q23.1)])); let t53 ← (DL.ask ((gtD x27 c_MOST_GROUPS).bind bOf)); seqF (if t53 = true then (raiseX "TooMany" "limit" c_MOST_GROUPS) else (pure (.nx ()))) fun (q29 : Unit) => (do let v31 ← (DL.ask (tupleD [(.lst q23.1)])); let r49 ← (DL.ask (itD (.lst q23.1))); let x50 ← (lcF (fun d => some d) (fun (c38 : D) => pure true) (fun (c38 : D) => (do let r45 ← (DL.ask (itD c38)); let x46 ← (lcF (fun d => some d) (fun (c41 : D) => pure true) (fun (c41 : D) => (Mo.lift (m_host_text_f5b6 [c41]))) r45); DL.ask (tupleD [(.lst x46)]))) r49); let v35 ← (DL.ask (tupleD [(.lst x50)])); (pure (.nx [v31, v35]))))) := by
  unfold b_Groups_init_1887; simp only [l_Groups_init_1887_0, l_Groups_init_1887_1, l_Groups_init_1887_2, pure_bind, bind_assoc, mkL]
def m_Groups_init_1887 : List D → R (List D) := apI1 fun a1 => runI (b_Groups_init_1887 a1)
def k__law_made_e8a3_0 (a0 : D) : R (Fl (Unit) (Empty)) := (do let v30 ← (do let r28 ← (do let x26 ← (do let x20 ← (pure a0); let y21 ← (pure (.int 0)); DL.ask (ixD x20 y21)); let r27 ← (do let x24 ← (do let x22 ← (pure a0); let y23 ← (pure (.int 1)); DL.ask (ixD x22 y23)); let r25 ← pure []; pure (x24 :: r25)); pure (x26 :: r27)); let o29 ← Mo.lift (starD 0 m_Groups_init_1887 r28); pure (D.ins "Groups" ["hosts", "groups"] o29)); pure (.rt v30))
theorem l__law_made_e8a3_0 (a0 : D) : k__law_made_e8a3_0 a0 = (do let v30 ← (do let r28 ← (do let x26 ← (do let x20 ← (pure a0); let y21 ← (pure (.int 0)); DL.ask (ixD x20 y21)); let r27 ← (do let x24 ← (do let x22 ← (pure a0); let y23 ← (pure (.int 1)); DL.ask (ixD x22 y23)); let r25 ← pure []; pure (x24 :: r25)); pure (x26 :: r27)); let o29 ← Mo.lift (starD 0 m_Groups_init_1887 r28); pure (D.ins "Groups" ["hosts", "groups"] o29)); pure (.rt v30)) := rfl
def k__law_made_e8a3_1 (a0 : D) : R (Fl (Unit) (Empty)) := (do let v51 ← (do let r49 ← (do let x47 ← (do let x37 ← (pure a0); let y38 ← (pure (.int 0)); DL.ask (ixD x37 y38)); let r48 ← (do let x45 ← (do let x39 ← (pure a0); let y40 ← (pure (.int 1)); DL.ask (ixD x39 y40)); let r46 ← (do let x43 ← (do let x41 ← (pure a0); let y42 ← (pure (.int 2)); DL.ask (ixD x41 y42)); let r44 ← pure []; pure (x43 :: r44)); pure (x45 :: r46)); pure (x47 :: r48)); let o50 ← Mo.lift (starD 0 m_Groups_init_1887 r49); pure (D.ins "Groups" ["hosts", "groups"] o50)); pure (.rt v51))
theorem l__law_made_e8a3_1 (a0 : D) : k__law_made_e8a3_1 a0 = (do let v51 ← (do let r49 ← (do let x47 ← (do let x37 ← (pure a0); let y38 ← (pure (.int 0)); DL.ask (ixD x37 y38)); let r48 ← (do let x45 ← (do let x39 ← (pure a0); let y40 ← (pure (.int 1)); DL.ask (ixD x39 y40)); let r46 ← (do let x43 ← (do let x41 ← (pure a0); let y42 ← (pure (.int 2)); DL.ask (ixD x41 y42)); let r44 ← pure []; pure (x43 :: r44)); pure (x45 :: r46)); pure (x47 :: r48)); let o50 ← Mo.lift (starD 0 m_Groups_init_1887 r49); pure (D.ins "Groups" ["hosts", "groups"] o50)); pure (.rt v51)) := rfl
def k__law_made_e8a3_2 (a0 : D) : R (Fl (Unit) (Empty)) := (do let v76 ← (do let r74 ← (do let x72 ← (do let x58 ← (pure a0); let y59 ← (pure (.int 0)); DL.ask (ixD x58 y59)); let r73 ← (do let x70 ← (do let x60 ← (pure a0); let y61 ← (pure (.int 1)); DL.ask (ixD x60 y61)); let r71 ← (do let x68 ← (do let x62 ← (pure a0); let y63 ← (pure (.int 2)); DL.ask (ixD x62 y63)); let r69 ← (do let x66 ← (do let x64 ← (pure a0); let y65 ← (pure (.int 3)); DL.ask (ixD x64 y65)); let r67 ← pure []; pure (x66 :: r67)); pure (x68 :: r69)); pure (x70 :: r71)); pure (x72 :: r73)); let o75 ← Mo.lift (starD 0 m_Groups_init_1887 r74); pure (D.ins "Groups" ["hosts", "groups"] o75)); pure (.rt v76))
theorem l__law_made_e8a3_2 (a0 : D) : k__law_made_e8a3_2 a0 = (do let v76 ← (do let r74 ← (do let x72 ← (do let x58 ← (pure a0); let y59 ← (pure (.int 0)); DL.ask (ixD x58 y59)); let r73 ← (do let x70 ← (do let x60 ← (pure a0); let y61 ← (pure (.int 1)); DL.ask (ixD x60 y61)); let r71 ← (do let x68 ← (do let x62 ← (pure a0); let y63 ← (pure (.int 2)); DL.ask (ixD x62 y63)); let r69 ← (do let x66 ← (do let x64 ← (pure a0); let y65 ← (pure (.int 3)); DL.ask (ixD x64 y65)); let r67 ← pure []; pure (x66 :: r67)); pure (x68 :: r69)); pure (x70 :: r71)); pure (x72 :: r73)); let o75 ← Mo.lift (starD 0 m_Groups_init_1887 r74); pure (D.ins "Groups" ["hosts", "groups"] o75)); pure (.rt v76)) := rfl
def k__law_made_e8a3_3 (a0 : D) : R (Fl (Unit) (Empty)) := (do let v99 ← (do let r97 ← (do let x95 ← (do let x77 ← (pure a0); let y78 ← (pure (.int 0)); DL.ask (ixD x77 y78)); let r96 ← (do let x93 ← (do let x79 ← (pure a0); let y80 ← (pure (.int 1)); DL.ask (ixD x79 y80)); let r94 ← (do let x91 ← (do let x81 ← (pure a0); let y82 ← (pure (.int 2)); DL.ask (ixD x81 y82)); let r92 ← (do let x89 ← (do let x83 ← (pure a0); let y84 ← (pure (.int 3)); DL.ask (ixD x83 y84)); let r90 ← (do let x87 ← (do let x85 ← (pure a0); let y86 ← (pure (.int 4)); DL.ask (ixD x85 y86)); let r88 ← pure []; pure (x87 :: r88)); pure (x89 :: r90)); pure (x91 :: r92)); pure (x93 :: r94)); pure (x95 :: r96)); let o98 ← Mo.lift (starD 0 m_Groups_init_1887 r97); pure (D.ins "Groups" ["hosts", "groups"] o98)); pure (.rt v99))
theorem l__law_made_e8a3_3 (a0 : D) : k__law_made_e8a3_3 a0 = (do let v99 ← (do let r97 ← (do let x95 ← (do let x77 ← (pure a0); let y78 ← (pure (.int 0)); DL.ask (ixD x77 y78)); let r96 ← (do let x93 ← (do let x79 ← (pure a0); let y80 ← (pure (.int 1)); DL.ask (ixD x79 y80)); let r94 ← (do let x91 ← (do let x81 ← (pure a0); let y82 ← (pure (.int 2)); DL.ask (ixD x81 y82)); let r92 ← (do let x89 ← (do let x83 ← (pure a0); let y84 ← (pure (.int 3)); DL.ask (ixD x83 y84)); let r90 ← (do let x87 ← (do let x85 ← (pure a0); let y86 ← (pure (.int 4)); DL.ask (ixD x85 y86)); let r88 ← pure []; pure (x87 :: r88)); pure (x89 :: r90)); pure (x91 :: r92)); pure (x93 :: r94)); pure (x95 :: r96)); let o98 ← Mo.lift (starD 0 m_Groups_init_1887 r97); pure (D.ins "Groups" ["hosts", "groups"] o98)); pure (.rt v99)) := rfl
def k__law_made_e8a3_4 (a0 : D) : R (Fl (Unit) (Empty)) := (do let t101 ← (do let x34 ← (do let r33 ← (do let x31 ← (pure a0); let r32 ← pure []; pure (x31 :: r32)); DL.ask (lenD r33)); let y35 ← (pure (.int 3)); DL.ask ((eqD x34 y35).bind bOf)); seqF (if t101 = true then (k__law_made_e8a3_1 a0) else (pure (.nx ()))) fun (q36 : Unit) => (do let t100 ← (do let x55 ← (do let r54 ← (do let x52 ← (pure a0); let r53 ← pure []; pure (x52 :: r53)); DL.ask (lenD r54)); let y56 ← (pure (.int 4)); DL.ask ((eqD x55 y56).bind bOf)); seqF (if t100 = true then (k__law_made_e8a3_2 a0) else (pure (.nx ()))) fun (q57 : Unit) => (k__law_made_e8a3_3 a0)))
theorem l__law_made_e8a3_4 (a0 : D) : k__law_made_e8a3_4 a0 = (do let t101 ← (do let x34 ← (do let r33 ← (do let x31 ← (pure a0); let r32 ← pure []; pure (x31 :: r32)); DL.ask (lenD r33)); let y35 ← (pure (.int 3)); DL.ask ((eqD x34 y35).bind bOf)); seqF (if t101 = true then (k__law_made_e8a3_1 a0) else (pure (.nx ()))) fun (q36 : Unit) => (do let t100 ← (do let x55 ← (do let r54 ← (do let x52 ← (pure a0); let r53 ← pure []; pure (x52 :: r53)); DL.ask (lenD r54)); let y56 ← (pure (.int 4)); DL.ask ((eqD x55 y56).bind bOf)); seqF (if t100 = true then (k__law_made_e8a3_2 a0) else (pure (.nx ()))) fun (q57 : Unit) => (k__law_made_e8a3_3 a0))) := rfl
def k__law_made_e8a3_5 (a0 : D) : R (Fl (Unit) (Empty)) := (do let t103 ← (do let x4 ← (do let r3 ← (do let x1 ← (pure a0); let r2 ← pure []; pure (x1 :: r2)); DL.ask (lenD r3)); let y5 ← (pure (.int 1)); DL.ask ((eqD x4 y5).bind bOf)); seqF (if t103 = true then (do let v13 ← (do let r11 ← (do let x9 ← (do let x7 ← (pure a0); let y8 ← (pure (.int 0)); DL.ask (ixD x7 y8)); let r10 ← pure []; pure (x9 :: r10)); let o12 ← Mo.lift (starD 0 m_Groups_init_1887 r11); pure (D.ins "Groups" ["hosts", "groups"] o12)); pure (.rt v13)) else (pure (.nx ()))) fun (q6 : Unit) => (do let t102 ← (do let x17 ← (do let r16 ← (do let x14 ← (pure a0); let r15 ← pure []; pure (x14 :: r15)); DL.ask (lenD r16)); let y18 ← (pure (.int 2)); DL.ask ((eqD x17 y18).bind bOf)); seqF (if t102 = true then (k__law_made_e8a3_0 a0) else (pure (.nx ()))) fun (q19 : Unit) => (k__law_made_e8a3_4 a0)))
theorem l__law_made_e8a3_5 (a0 : D) : k__law_made_e8a3_5 a0 = (do let t103 ← (do let x4 ← (do let r3 ← (do let x1 ← (pure a0); let r2 ← pure []; pure (x1 :: r2)); DL.ask (lenD r3)); let y5 ← (pure (.int 1)); DL.ask ((eqD x4 y5).bind bOf)); seqF (if t103 = true then (do let v13 ← (do let r11 ← (do let x9 ← (do let x7 ← (pure a0); let y8 ← (pure (.int 0)); DL.ask (ixD x7 y8)); let r10 ← pure []; pure (x9 :: r10)); let o12 ← Mo.lift (starD 0 m_Groups_init_1887 r11); pure (D.ins "Groups" ["hosts", "groups"] o12)); pure (.rt v13)) else (pure (.nx ()))) fun (q6 : Unit) => (do let t102 ← (do let x17 ← (do let r16 ← (do let x14 ← (pure a0); let r15 ← pure []; pure (x14 :: r15)); DL.ask (lenD r16)); let y18 ← (pure (.int 2)); DL.ask ((eqD x17 y18).bind bOf)); seqF (if t102 = true then (k__law_made_e8a3_0 a0) else (pure (.nx ()))) fun (q19 : Unit) => (k__law_made_e8a3_4 a0))) := rfl
def b__law_made_e8a3 (a0 : D) : R (Fl Unit Empty) := (k__law_made_e8a3_5 a0)
theorem e__law_made_e8a3 (a0 : D) : b__law_made_e8a3 a0 = (do let x4 ← (DL.ask (lenD [a0])); let t103 ← (DL.ask ((eqD x4 (.int 1)).bind bOf)); seqF (if t103 = true then (do let x9 ← (DL.ask (ixD a0 (.int 0))); let o12 ← Mo.lift (starD 0 m_Groups_init_1887 [x9]); pure (.rt (D.ins "Groups" ["hosts", "groups"] o12))) else (pure (.nx ()))) fun (q6 : Unit) => (do let x17 ← (DL.ask (lenD [a0])); let t102 ← (DL.ask ((eqD x17 (.int 2)).bind bOf)); seqF (if t102 = true then (do let x26 ← (DL.ask (ixD a0 (.int 0))); let x24 ← (DL.ask (ixD a0 (.int 1))); let o29 ← Mo.lift (starD 0 m_Groups_init_1887 [x26, x24]); pure (.rt (D.ins "Groups" ["hosts", "groups"] o29))) else (pure (.nx ()))) fun (q19 : Unit) => (do let x34 ← (DL.ask (lenD [a0])); let t101 ← (DL.ask ((eqD x34 (.int 3)).bind bOf)); seqF (if t101 = true then (do let x47 ← (DL.ask (ixD a0 (.int 0))); let x45 ← (DL.ask (ixD a0 (.int 1))); let x43 ← (DL.ask (ixD a0 (.int 2))); let o50 ← Mo.lift (starD 0 m_Groups_init_1887 [x47, x45, x43]); pure (.rt (D.ins "Groups" ["hosts", "groups"] o50))) else (pure (.nx ()))) fun (q36 : Unit) => (do let x55 ← (DL.ask (lenD [a0])); let t100 ← (DL.ask ((eqD x55 (.int 4)).bind bOf)); seqF (if t100 = true then (do let x72 ← (DL.ask (ixD a0 (.int 0))); let x70 ← (DL.ask (ixD a0 (.int 1))); let x68 ← (DL.ask (ixD a0 (.int 2))); let x66 ← (DL.ask (ixD a0 (.int 3))); let o75 ← Mo.lift (starD 0 m_Groups_init_1887 [x72, x70, x68, x66]); pure (.rt (D.ins "Groups" ["hosts", "groups"] o75))) else (pure (.nx ()))) fun (q57 : Unit) => (do let x95 ← (DL.ask (ixD a0 (.int 0))); let x93 ← (DL.ask (ixD a0 (.int 1))); let x91 ← (DL.ask (ixD a0 (.int 2))); let x89 ← (DL.ask (ixD a0 (.int 3))); let x87 ← (DL.ask (ixD a0 (.int 4))); let o98 ← Mo.lift (starD 0 m_Groups_init_1887 [x95, x93, x91, x89, x87]); pure (.rt (D.ins "Groups" ["hosts", "groups"] o98))))))) := by
  unfold b__law_made_e8a3; simp only [l__law_made_e8a3_0, l__law_made_e8a3_1, l__law_made_e8a3_2, l__law_made_e8a3_3, l__law_made_e8a3_4, l__law_made_e8a3_5, pure_bind, bind_assoc, mkL]
def m__law_made_e8a3 : List D → R D := apR1 fun a0 => (runR false (b__law_made_e8a3 a0))
theorem n__law_made_e8a3 : ∀ ds : List D, m__law_made_e8a3 ds ≠ .stuck → ds.length = 1 := apR1_len _
def k_law_ef94_0 (v5 : D) (v57 : List D) (v22 : D) (q20 : List D) : M (Fl (List D) (List D)) := (do let v63 ← (do let r68 ← (do let x66 ← (do let x64 ← (pure v5); let y65 ← (pure (.int 1)); DL.ask (ixD x64 y65)); let r67 ← pure []; pure (x66 :: r67)); m__law_odd_host_3247 r68); let j76 ← (do let r75 ← (do let x73 ← (do let w69 ← Mo.noex (do let r72 ← (do let x70 ← (pure (.lst v57)); let r71 ← pure []; pure (x70 :: r71)); DL.ask (lenD r72)); DL.ask (flatD w69)); let r74 ← pure []; pure (x73 :: r74)); m__law_take_bb49 r75); let v77 ← DL.ask (setI v57 j76 v63); (do let v78 ← (pure (.lst v77)); let j79 ← (pure v22); let v80 ← DL.ask (setI q20 j79 v78); (pure (.nx v80))))
theorem l_law_ef94_0 (v5 : D) (v57 : List D) (v22 : D) (q20 : List D) : k_law_ef94_0 v5 v57 v22 q20 = (do let v63 ← (do let r68 ← (do let x66 ← (do let x64 ← (pure v5); let y65 ← (pure (.int 1)); DL.ask (ixD x64 y65)); let r67 ← pure []; pure (x66 :: r67)); m__law_odd_host_3247 r68); let j76 ← (do let r75 ← (do let x73 ← (do let w69 ← Mo.noex (do let r72 ← (do let x70 ← (pure (.lst v57)); let r71 ← pure []; pure (x70 :: r71)); DL.ask (lenD r72)); DL.ask (flatD w69)); let r74 ← pure []; pure (x73 :: r74)); m__law_take_bb49 r75); let v77 ← DL.ask (setI v57 j76 v63); (do let v78 ← (pure (.lst v77)); let j79 ← (pure v22); let v80 ← DL.ask (setI q20 j79 v78); (pure (.nx v80)))) := rfl
def k_law_ef94_1 (q20 : List D) (v22 : D) (v5 : D) : M (Fl (List D) (List D)) := (do let t81 ← (DL.orM (do let x33 ← (do let r32 ← (do let x30 ← (pure (.int 3)); let r31 ← pure []; pure (x30 :: r31)); m__law_take_bb49 r32); let y34 ← (pure (.int 0)); DL.ask ((eqD x33 y34).bind bOf)) (DL.orM (DL.notM (do let x39 ← (do let w35 ← Mo.noex (do let x38 ← (do let x36 ← (pure (.lst q20)); let y37 ← (pure v22); DL.ask (ixD x36 y37)); DL.ask (isi2D "list" "tuple" x38)); DL.ask (flatD w35)); DL.ask (truD x39))) (Mo.noex (do let x46 ← (do let r45 ← (do let x43 ← (do let x41 ← (pure (.lst q20)); let y42 ← (pure v22); DL.ask (ixD x41 y42)); let r44 ← pure []; pure (x43 :: r44)); DL.ask (lenD r45)); let y47 ← (pure (.int 0)); DL.ask ((eqD x46 y47).bind bOf))))); seqF (if t81 = true then (do let v49 ← (do let r54 ← (do let x52 ← (do let x50 ← (pure v5); let y51 ← (pure (.int 0)); DL.ask (ixD x50 y51)); let r53 ← pure []; pure (x52 :: r53)); m__law_odd_group_c9dc r54); let j55 ← (pure v22); let v56 ← DL.ask (setI q20 j55 v49); (pure (.nx v56))) else (do let v57 ← (do let r61 ← (do let x59 ← (do let y58 ← (pure v22); DL.ask (ixD (.lst q20) y58)); let r60 ← pure []; pure (x59 :: r60)); let r62 ← DL.ask (listD r61); DL.ask (szL r62)); (k_law_ef94_0 v5 v57 v22 q20))) fun (q48 : List D) => (pure (.nx q48)))
theorem l_law_ef94_1 (q20 : List D) (v22 : D) (v5 : D) : k_law_ef94_1 q20 v22 v5 = (do let t81 ← (DL.orM (do let x33 ← (do let r32 ← (do let x30 ← (pure (.int 3)); let r31 ← pure []; pure (x30 :: r31)); m__law_take_bb49 r32); let y34 ← (pure (.int 0)); DL.ask ((eqD x33 y34).bind bOf)) (DL.orM (DL.notM (do let x39 ← (do let w35 ← Mo.noex (do let x38 ← (do let x36 ← (pure (.lst q20)); let y37 ← (pure v22); DL.ask (ixD x36 y37)); DL.ask (isi2D "list" "tuple" x38)); DL.ask (flatD w35)); DL.ask (truD x39))) (Mo.noex (do let x46 ← (do let r45 ← (do let x43 ← (do let x41 ← (pure (.lst q20)); let y42 ← (pure v22); DL.ask (ixD x41 y42)); let r44 ← pure []; pure (x43 :: r44)); DL.ask (lenD r45)); let y47 ← (pure (.int 0)); DL.ask ((eqD x46 y47).bind bOf))))); seqF (if t81 = true then (do let v49 ← (do let r54 ← (do let x52 ← (do let x50 ← (pure v5); let y51 ← (pure (.int 0)); DL.ask (ixD x50 y51)); let r53 ← pure []; pure (x52 :: r53)); m__law_odd_group_c9dc r54); let j55 ← (pure v22); let v56 ← DL.ask (setI q20 j55 v49); (pure (.nx v56))) else (do let v57 ← (do let r61 ← (do let x59 ← (do let y58 ← (pure v22); DL.ask (ixD (.lst q20) y58)); let r60 ← pure []; pure (x59 :: r60)); let r62 ← DL.ask (listD r61); DL.ask (szL r62)); (k_law_ef94_0 v5 v57 v22 q20))) fun (q48 : List D) => (pure (.nx q48))) := rfl
def k_law_ef94_2 (e97 : D) : M (Fl (D × D) (Empty)) := (do let v98 ← (do let r104 ← (do let x102 ← (pure (.str [103, 114, 111, 117, 112])); let r103 ← (do let x100 ← (pure e97); let r101 ← pure []; pure (x100 :: r101)); pure (x102 :: r103)); let r105 ← DL.ask (szL r104); pure (.tup r105)); let v99 ← (mkL (do let r110 ← (do let x108 ← (pure (.bl true)); let r109 ← (do let x106 ← (notV (pure (.bl false))); let r107 ← pure []; pure (x106 :: r107)); pure (x108 :: r109)); DL.ask (szL r110))); (pure (.nx (v98, v99))))
theorem l_law_ef94_2 (e97 : D) : k_law_ef94_2 e97 = (do let v98 ← (do let r104 ← (do let x102 ← (pure (.str [103, 114, 111, 117, 112])); let r103 ← (do let x100 ← (pure e97); let r101 ← pure []; pure (x100 :: r101)); pure (x102 :: r103)); let r105 ← DL.ask (szL r104); pure (.tup r105)); let v99 ← (mkL (do let r110 ← (do let x108 ← (pure (.bl true)); let r109 ← (do let x106 ← (notV (pure (.bl false))); let r107 ← pure []; pure (x106 :: r107)); pure (x108 :: r109)); DL.ask (szL r110))); (pure (.nx (v98, v99)))) := rfl
def k_law_ef94_3 (e111 : D) : M (Fl (D × D) (Empty)) := (do let v112 ← (do let r118 ← (do let x116 ← (pure (.str [104, 111, 115, 116])); let r117 ← (do let x114 ← (pure e111); let r115 ← pure []; pure (x114 :: r115)); pure (x116 :: r117)); let r119 ← DL.ask (szL r118); pure (.tup r119)); let v113 ← (mkL (do let r124 ← (do let x122 ← (pure (.bl true)); let r123 ← (do let x120 ← (notV (pure (.bl false))); let r121 ← pure []; pure (x120 :: r121)); pure (x122 :: r123)); DL.ask (szL r124))); (pure (.nx (v112, v113))))
theorem l_law_ef94_3 (e111 : D) : k_law_ef94_3 e111 = (do let v112 ← (do let r118 ← (do let x116 ← (pure (.str [104, 111, 115, 116])); let r117 ← (do let x114 ← (pure e111); let r115 ← pure []; pure (x114 :: r115)); pure (x116 :: r117)); let r119 ← DL.ask (szL r118); pure (.tup r119)); let v113 ← (mkL (do let r124 ← (do let x122 ← (pure (.bl true)); let r123 ← (do let x120 ← (notV (pure (.bl false))); let r121 ← pure []; pure (x120 :: r121)); pure (x122 :: r123)); DL.ask (szL r124))); (pure (.nx (v112, v113)))) := rfl
def k_law_ef94_4 (e125 : D) : M (Fl (D × D) (Empty)) := (do let v126 ← (do let r132 ← (do let x130 ← (pure (.str [116, 119, 105, 99, 101])); let r131 ← (do let x128 ← (pure e125); let r129 ← pure []; pure (x128 :: r129)); pure (x130 :: r131)); let r133 ← DL.ask (szL r132); pure (.tup r133)); let v127 ← (mkL (do let r138 ← (do let x136 ← (pure (.bl true)); let r137 ← (do let x134 ← (notV (pure (.bl false))); let r135 ← pure []; pure (x134 :: r135)); pure (x136 :: r137)); DL.ask (szL r138))); (pure (.nx (v126, v127))))
theorem l_law_ef94_4 (e125 : D) : k_law_ef94_4 e125 = (do let v126 ← (do let r132 ← (do let x130 ← (pure (.str [116, 119, 105, 99, 101])); let r131 ← (do let x128 ← (pure e125); let r129 ← pure []; pure (x128 :: r129)); pure (x130 :: r131)); let r133 ← DL.ask (szL r132); pure (.tup r133)); let v127 ← (mkL (do let r138 ← (do let x136 ← (pure (.bl true)); let r137 ← (do let x134 ← (notV (pure (.bl false))); let r135 ← pure []; pure (x134 :: r135)); pure (x136 :: r137)); DL.ask (szL r138))); (pure (.nx (v126, v127)))) := rfl
def k_law_ef94_5 (e139 : D) : M (Fl (D × D) (Empty)) := (do let v140 ← (do let r146 ← (do let x144 ← (pure (.str [109, 97, 110, 121])); let r145 ← (do let x142 ← (pure e139); let r143 ← pure []; pure (x142 :: r143)); pure (x144 :: r145)); let r147 ← DL.ask (szL r146); pure (.tup r147)); let v141 ← (mkL (do let r152 ← (do let x150 ← (pure (.bl true)); let r151 ← (do let x148 ← (notV (pure (.bl false))); let r149 ← pure []; pure (x148 :: r149)); pure (x150 :: r151)); DL.ask (szL r152))); (pure (.nx (v140, v141))))
theorem l_law_ef94_5 (e139 : D) : k_law_ef94_5 e139 = (do let v140 ← (do let r146 ← (do let x144 ← (pure (.str [109, 97, 110, 121])); let r145 ← (do let x142 ← (pure e139); let r143 ← pure []; pure (x142 :: r143)); pure (x144 :: r145)); let r147 ← DL.ask (szL r146); pure (.tup r147)); let v141 ← (mkL (do let r152 ← (do let x150 ← (pure (.bl true)); let r151 ← (do let x148 ← (notV (pure (.bl false))); let r149 ← pure []; pure (x148 :: r149)); pure (x150 :: r151)); DL.ask (szL r152))); (pure (.nx (v140, v141)))) := rfl
def k_law_ef94_6 (q91 : D × D) (v88 : D) : M (Fl (Unit) (Empty)) := (do let v179 ← (andV (do let x156 ← (pure q91.1); DL.ask (isiD "tuple" x156)) (andV (do let x161 ← (do let x157 ← (pure q91.1); let y158 ← (pure (.int 0)); DL.ask (ixD x157 y158)); let y162 ← (do let x159 ← (pure v88); let y160 ← (pure (.int 0)); DL.ask (ixD x159 y160)); DL.ask (eqD x161 y162)) (andV (do let r171 ← (do let x169 ← (do let x163 ← (pure q91.1); let y164 ← (pure (.int 1)); DL.ask (ixD x163 y164)); let r170 ← (do let x167 ← (do let x165 ← (pure v88); let y166 ← (pure (.int 1)); DL.ask (ixD x165 y166)); let r168 ← pure []; pure (x167 :: r168)); pure (x169 :: r170)); Mo.lift (m__law_same_9288 r171)) (do let x177 ← (pure q91.2); let y178 ← (mkL (do let r176 ← (do let x174 ← (pure (.bl true)); let r175 ← (do let x172 ← (pure (.bl true)); let r173 ← pure []; pure (x172 :: r173)); pure (x174 :: r175)); DL.ask (szL r176))); DL.ask (eqD x177 y178))))); pure (.rt v179))
theorem l_law_ef94_6 (q91 : D × D) (v88 : D) : k_law_ef94_6 q91 v88 = (do let v179 ← (andV (do let x156 ← (pure q91.1); DL.ask (isiD "tuple" x156)) (andV (do let x161 ← (do let x157 ← (pure q91.1); let y158 ← (pure (.int 0)); DL.ask (ixD x157 y158)); let y162 ← (do let x159 ← (pure v88); let y160 ← (pure (.int 0)); DL.ask (ixD x159 y160)); DL.ask (eqD x161 y162)) (andV (do let r171 ← (do let x169 ← (do let x163 ← (pure q91.1); let y164 ← (pure (.int 1)); DL.ask (ixD x163 y164)); let r170 ← (do let x167 ← (do let x165 ← (pure v88); let y166 ← (pure (.int 1)); DL.ask (ixD x165 y166)); let r168 ← pure []; pure (x167 :: r168)); pure (x169 :: r170)); Mo.lift (m__law_same_9288 r171)) (do let x177 ← (pure q91.2); let y178 ← (mkL (do let r176 ← (do let x174 ← (pure (.bl true)); let r175 ← (do let x172 ← (pure (.bl true)); let r173 ← pure []; pure (x172 :: r173)); pure (x174 :: r175)); DL.ask (szL r176))); DL.ask (eqD x177 y178))))); pure (.rt v179)) := rfl
def k_law_ef94_7 (v5 : D) (q91 : D × D) : M (Fl (Unit) (Empty)) := (do let v197 ← (mkL (do let r259 ← (do let x257 ← (do let r198 ← pure []; let r199 ← DL.ask (szL r198); pure (.tup r199)); let r258 ← (do let x255 ← (mkL (do let r204 ← (do let x202 ← (do let x200 ← (pure v5); let y201 ← (pure (.int 0)); DL.ask (ixD x200 y201)); let r203 ← pure []; pure (x202 :: r203)); DL.ask (szL r204))); let r256 ← (do let x253 ← (do let x205 ← (pure v5); let y206 ← (pure (.int 0)); DL.ask (ixD x205 y206)); let r254 ← (do let x251 ← (pure D.non); let r252 ← (do let x249 ← (pure (.bl true)); let r250 ← (do let x247 ← (pure (.int 0)); let r248 ← (do let x245 ← (do let x213 ← (do let r211 ← (do let x209 ← (do let x207 ← (pure v5); let y208 ← (pure (.int 0)); DL.ask (ixD x207 y208)); let r210 ← pure []; pure (x209 :: r210)); let r212 ← DL.ask (szL r211); pure (.tup r212)); let y214 ← (pure (.int 21)); DL.ask (mulTD x213 y214)); let r246 ← (do let x243 ← (do let r221 ← (do let x219 ← (do let x215 ← (pure v5); let y216 ← (pure (.int 0)); DL.ask (ixD x215 y216)); let r220 ← (do let x217 ← (pure (.str [])); let r218 ← pure []; pure (x217 :: r218)); pure (x219 :: r220)); let r222 ← DL.ask (szL r221); pure (.tup r222)); let r244 ← (do let x241 ← (do let r229 ← (do let x227 ← (do let r225 ← (do let x223 ← (pure (.str [97])); let r224 ← pure []; pure (x223 :: r224)); let r226 ← DL.ask (szL r225); pure (.tup r226)); let r228 ← pure []; pure (x227 :: r228)); let r230 ← DL.ask (szL r229); pure (.tup r230)); let r242 ← (do let x239 ← (do let r237 ← (do let x235 ← (do let x231 ← (pure v5); let y232 ← (pure (.int 1)); DL.ask (ixD x231 y232)); let r236 ← (do let x233 ← (pure (.int 3)); let r234 ← pure []; pure (x233 :: r234)); pure (x235 :: r236)); let r238 ← DL.ask (szL r237); pure (.tup r238)); let r240 ← pure []; pure (x239 :: r240)); pure (x241 :: r242)); pure (x243 :: r244)); pure (x245 :: r246)); pure (x247 :: r248)); pure (x249 :: r250)); pure (x251 :: r252)); pure (x253 :: r254)); pure (x255 :: r256)); pure (x257 :: r258)); DL.ask (szL r259))); (do let v268 ← (do let r267 ← (do let x265 ← (pure q91.1); let r266 ← (do let x263 ← (do let r262 ← (do let x260 ← (pure v197); let r261 ← pure []; pure (x260 :: r261)); m__law_of_8ba0 r262); let r264 ← pure []; pure (x263 :: r264)); pure (x265 :: r266)); Mo.lift (m__law_wrong_hosts_4fc9 r267)); pure (.rt v268)))
theorem l_law_ef94_7 (v5 : D) (q91 : D × D) : k_law_ef94_7 v5 q91 = (do let v197 ← (mkL (do let r259 ← (do let x257 ← (do let r198 ← pure []; let r199 ← DL.ask (szL r198); pure (.tup r199)); let r258 ← (do let x255 ← (mkL (do let r204 ← (do let x202 ← (do let x200 ← (pure v5); let y201 ← (pure (.int 0)); DL.ask (ixD x200 y201)); let r203 ← pure []; pure (x202 :: r203)); DL.ask (szL r204))); let r256 ← (do let x253 ← (do let x205 ← (pure v5); let y206 ← (pure (.int 0)); DL.ask (ixD x205 y206)); let r254 ← (do let x251 ← (pure D.non); let r252 ← (do let x249 ← (pure (.bl true)); let r250 ← (do let x247 ← (pure (.int 0)); let r248 ← (do let x245 ← (do let x213 ← (do let r211 ← (do let x209 ← (do let x207 ← (pure v5); let y208 ← (pure (.int 0)); DL.ask (ixD x207 y208)); let r210 ← pure []; pure (x209 :: r210)); let r212 ← DL.ask (szL r211); pure (.tup r212)); let y214 ← (pure (.int 21)); DL.ask (mulTD x213 y214)); let r246 ← (do let x243 ← (do let r221 ← (do let x219 ← (do let x215 ← (pure v5); let y216 ← (pure (.int 0)); DL.ask (ixD x215 y216)); let r220 ← (do let x217 ← (pure (.str [])); let r218 ← pure []; pure (x217 :: r218)); pure (x219 :: r220)); let r222 ← DL.ask (szL r221); pure (.tup r222)); let r244 ← (do let x241 ← (do let r229 ← (do let x227 ← (do let r225 ← (do let x223 ← (pure (.str [97])); let r224 ← pure []; pure (x223 :: r224)); let r226 ← DL.ask (szL r225); pure (.tup r226)); let r228 ← pure []; pure (x227 :: r228)); let r230 ← DL.ask (szL r229); pure (.tup r230)); let r242 ← (do let x239 ← (do let r237 ← (do let x235 ← (do let x231 ← (pure v5); let y232 ← (pure (.int 1)); DL.ask (ixD x231 y232)); let r236 ← (do let x233 ← (pure (.int 3)); let r234 ← pure []; pure (x233 :: r234)); pure (x235 :: r236)); let r238 ← DL.ask (szL r237); pure (.tup r238)); let r240 ← pure []; pure (x239 :: r240)); pure (x241 :: r242)); pure (x243 :: r244)); pure (x245 :: r246)); pure (x247 :: r248)); pure (x249 :: r250)); pure (x251 :: r252)); pure (x253 :: r254)); pure (x255 :: r256)); pure (x257 :: r258)); DL.ask (szL r259))); (do let v268 ← (do let r267 ← (do let x265 ← (pure q91.1); let r266 ← (do let x263 ← (do let r262 ← (do let x260 ← (pure v197); let r261 ← pure []; pure (x260 :: r261)); m__law_of_8ba0 r262); let r264 ← pure []; pure (x263 :: r264)); pure (x265 :: r266)); Mo.lift (m__law_wrong_hosts_4fc9 r267)); pure (.rt v268))) := rfl
def k_law_ef94_8 (q91 : D × D) (q82 : List D) (v5 : D) : M (Fl (Unit) (Empty)) := (do let t269 ← (DL.orM (DL.notM (do let x181 ← (do let x180 ← (pure q91.1); DL.ask (isiT [("Groups", true)] noneOfB x180)); DL.ask (truD x181))) (do let x193 ← (do let x182 ← (pure q91.1); DL.ask (fldD ["Groups"] "groups" x182)); let y194 ← (do let r192 ← (do let x190 ← (mkL (do let r189 ← (do let r183 ← (pure (.lst q82)); DL.ask (itD r183)); lcF (fun d => some d) (fun (c185 : D) => pure true) (fun (c185 : D) => (do let r188 ← (do let x186 ← (pure c185); let r187 ← pure []; pure (x186 :: r187)); DL.ask (tupleD r188))) r189)); let r191 ← pure []; pure (x190 :: r191)); DL.ask (tupleD r192)); DL.ask ((neD x193 y194).bind bOf))); seqF (if t269 = true then (do let v196 ← (pure (.bl false)); pure (.rt v196)) else (pure (.nx ()))) fun (q195 : Unit) => (k_law_ef94_7 v5 q91))
theorem l_law_ef94_8 (q91 : D × D) (q82 : List D) (v5 : D) : k_law_ef94_8 q91 q82 v5 = (do let t269 ← (DL.orM (DL.notM (do let x181 ← (do let x180 ← (pure q91.1); DL.ask (isiT [("Groups", true)] noneOfB x180)); DL.ask (truD x181))) (do let x193 ← (do let x182 ← (pure q91.1); DL.ask (fldD ["Groups"] "groups" x182)); let y194 ← (do let r192 ← (do let x190 ← (mkL (do let r189 ← (do let r183 ← (pure (.lst q82)); DL.ask (itD r183)); lcF (fun d => some d) (fun (c185 : D) => pure true) (fun (c185 : D) => (do let r188 ← (do let x186 ← (pure c185); let r187 ← pure []; pure (x186 :: r187)); DL.ask (tupleD r188))) r189)); let r191 ← pure []; pure (x190 :: r191)); DL.ask (tupleD r192)); DL.ask ((neD x193 y194).bind bOf))); seqF (if t269 = true then (do let v196 ← (pure (.bl false)); pure (.rt v196)) else (pure (.nx ()))) fun (q195 : Unit) => (k_law_ef94_7 v5 q91)) := rfl
def k_law_ef94_9 (q82 : List D) (v90 : D) (v88 : D) (v5 : D) : M (Fl (Unit) (Empty)) := (seqF (tryFs [("BadGroup", "group"), ("BadHost", "host"), ("TooMany", "limit"), ("Twice", "name")] (do let v93 ← (do let r96 ← (do let x94 ← (pure (.lst q82)); let r95 ← pure []; pure (x94 :: r95)); Mo.lift (m__law_made_e8a3 r96)); (pure (.nx (v93, v90)))) [("BadGroup", fun e97 => (k_law_ef94_2 e97)), ("BadHost", fun e111 => (k_law_ef94_3 e111)), ("Twice", fun e125 => (k_law_ef94_4 e125)), ("TooMany", fun e139 => (k_law_ef94_5 e139))]) fun (q91 : D × D) => (do let t270 ← (do let x153 ← (pure v88); let y154 ← (pure D.non); DL.ask ((isNotD x153 y154).bind bOf)); seqF (if t270 = true then (k_law_ef94_6 q91 v88) else (pure (.nx ()))) fun (q155 : Unit) => (k_law_ef94_8 q91 q82 v5)))
theorem l_law_ef94_9 (q82 : List D) (v90 : D) (v88 : D) (v5 : D) : k_law_ef94_9 q82 v90 v88 v5 = (seqF (tryFs [("BadGroup", "group"), ("BadHost", "host"), ("TooMany", "limit"), ("Twice", "name")] (do let v93 ← (do let r96 ← (do let x94 ← (pure (.lst q82)); let r95 ← pure []; pure (x94 :: r95)); Mo.lift (m__law_made_e8a3 r96)); (pure (.nx (v93, v90)))) [("BadGroup", fun e97 => (k_law_ef94_2 e97)), ("BadHost", fun e111 => (k_law_ef94_3 e111)), ("Twice", fun e125 => (k_law_ef94_4 e125)), ("TooMany", fun e139 => (k_law_ef94_5 e139))]) fun (q91 : D × D) => (do let t270 ← (do let x153 ← (pure v88); let y154 ← (pure D.non); DL.ask ((isNotD x153 y154).bind bOf)); seqF (if t270 = true then (k_law_ef94_6 q91 v88) else (pure (.nx ()))) fun (q155 : Unit) => (k_law_ef94_8 q91 q82 v5))) := rfl
def k_law_ef94_10 (v5 : D) (v9 : List D) : M (Fl (Unit) (Empty)) := (do let r271 ← (do let r19 ← (do let x17 ← (do let r16 ← (do let x14 ← (pure (.int 3)); let r15 ← pure []; pure (x14 :: r15)); m__law_take_bb49 r16); let r18 ← pure []; pure (x17 :: r18)); DL.ask (rng1 r19)); seqF (forF (fun d => some d) (fun (q20 : List D) (c21 : D) => (do let v22 ← (do let r29 ← (do let x27 ← (do let w23 ← Mo.noex (do let r26 ← (do let x24 ← (pure (.lst q20)); let r25 ← pure []; pure (x24 :: r25)); DL.ask (lenD r26)); DL.ask (flatD w23)); let r28 ← pure []; pure (x27 :: r28)); m__law_take_bb49 r29); (k_law_ef94_1 q20 v22 v5))) r271 v9) fun (q82 : List D) => (do let v88 ← (do let r86 ← (do let x84 ← (pure (.lst q82)); let r85 ← pure []; pure (x84 :: r85)); Mo.lift (m__law_due_99cc r86)); let v89 ← (pure D.non); let v90 ← (mkL (do let r87 ← pure []; DL.ask (szL r87))); (k_law_ef94_9 q82 v90 v88 v5)))
theorem l_law_ef94_10 (v5 : D) (v9 : List D) : k_law_ef94_10 v5 v9 = (do let r271 ← (do let r19 ← (do let x17 ← (do let r16 ← (do let x14 ← (pure (.int 3)); let r15 ← pure []; pure (x14 :: r15)); m__law_take_bb49 r16); let r18 ← pure []; pure (x17 :: r18)); DL.ask (rng1 r19)); seqF (forF (fun d => some d) (fun (q20 : List D) (c21 : D) => (do let v22 ← (do let r29 ← (do let x27 ← (do let w23 ← Mo.noex (do let r26 ← (do let x24 ← (pure (.lst q20)); let r25 ← pure []; pure (x24 :: r25)); DL.ask (lenD r26)); DL.ask (flatD w23)); let r28 ← pure []; pure (x27 :: r28)); m__law_take_bb49 r29); (k_law_ef94_1 q20 v22 v5))) r271 v9) fun (q82 : List D) => (do let v88 ← (do let r86 ← (do let x84 ← (pure (.lst q82)); let r85 ← pure []; pure (x84 :: r85)); Mo.lift (m__law_due_99cc r86)); let v89 ← (pure D.non); let v90 ← (mkL (do let r87 ← pure []; DL.ask (szL r87))); (k_law_ef94_9 q82 v90 v88 v5))) := rfl
def k_law_ef94_11 (a0 : D) : R (Fl (Unit) (Empty)) := (do let i2 ← DL.ask (scrOf a0); let v1 ← Mo.noex (m__law_bag_d7b5 [.scr i2]); withBagW v1 (do let v5 ← (do let r8 ← (do let x6 ← (pure (.int 20)); let r7 ← pure []; pure (x6 :: r7)); m__law_pool_b280 r8); (do let v9 ← (do let r12 ← (do let x10 ← (pure v5); let r11 ← pure []; pure (x10 :: r11)); let r13 ← m__law_some_12afn r12; DL.ask (lstOf r13)); (k_law_ef94_10 v5 v9))))
theorem l_law_ef94_11 (a0 : D) : k_law_ef94_11 a0 = (do let i2 ← DL.ask (scrOf a0); let v1 ← Mo.noex (m__law_bag_d7b5 [.scr i2]); withBagW v1 (do let v5 ← (do let r8 ← (do let x6 ← (pure (.int 20)); let r7 ← pure []; pure (x6 :: r7)); m__law_pool_b280 r8); (do let v9 ← (do let r12 ← (do let x10 ← (pure v5); let r11 ← pure []; pure (x10 :: r11)); let r13 ← m__law_some_12afn r12; DL.ask (lstOf r13)); (k_law_ef94_10 v5 v9)))) := rfl
def b_law_ef94 (a0 : D) : R (Fl Unit Empty) := (k_law_ef94_11 a0)
theorem e_law_ef94 (a0 : D) : b_law_ef94 a0 = (do let i2 ← DL.ask (scrOf a0); let v1 ← Mo.noex (m__law_bag_d7b5 [.scr i2]); withBagW v1 (do let v5 ← (m__law_pool_b280 [(.int 20)]); let r13 ← m__law_some_12afn [v5]; let v9 ← (DL.ask (lstOf r13)); let x17 ← (m__law_take_bb49 [(.int 3)]); let r271 ← (DL.ask (rng1 [x17])); seqF (forF (fun d => some d) (fun (q20 : List D) (c21 : D) => (do let w23 ← Mo.noex (DL.ask (lenD [(.lst q20)])); let x27 ← (DL.ask (flatD w23)); let v22 ← (m__law_take_bb49 [x27]); let t81 ← (DL.orM (do let x33 ← (m__law_take_bb49 [(.int 3)]); DL.ask ((eqD x33 (.int 0)).bind bOf)) (DL.orM (DL.notM (do let w35 ← Mo.noex (do let x38 ← (DL.ask (ixD (.lst q20) v22)); DL.ask (isi2D "list" "tuple" x38)); let x39 ← (DL.ask (flatD w35)); DL.ask (truD x39))) (Mo.noex (do let x43 ← (DL.ask (ixD (.lst q20) v22)); let x46 ← (DL.ask (lenD [x43])); DL.ask ((eqD x46 (.int 0)).bind bOf))))); seqF (if t81 = true then (do let x52 ← (DL.ask (ixD v5 (.int 0))); let v49 ← (m__law_odd_group_c9dc [x52]); let v56 ← DL.ask (setI q20 v22 v49); (pure (.nx v56))) else (do let x59 ← (DL.ask (ixD (.lst q20) v22)); let r62 ← DL.ask (listD [x59]); let v57 ← (DL.ask (szL r62)); let x66 ← (DL.ask (ixD v5 (.int 1))); let v63 ← (m__law_odd_host_3247 [x66]); let w69 ← Mo.noex (DL.ask (lenD [(.lst v57)])); let x73 ← (DL.ask (flatD w69)); let j76 ← (m__law_take_bb49 [x73]); let v77 ← DL.ask (setI v57 j76 v63); let v80 ← DL.ask (setI q20 v22 (.lst v77)); (pure (.nx v80)))) fun (q48 : List D) => (pure (.nx q48)))) r271 v9) fun (q82 : List D) => (do let v88 ← (Mo.lift (m__law_due_99cc [(.lst q82)])); let v90 ← (DL.ask (szL [])); (seqF (tryFs [("BadGroup", "group"), ("BadHost", "host"), ("TooMany", "limit"), ("Twice", "name")] (do let v93 ← (Mo.lift (m__law_made_e8a3 [(.lst q82)])); (pure (.nx (v93, (.lst v90))))) [("BadGroup", fun e97 => (do let r105 ← DL.ask (szL [(.str [103, 114, 111, 117, 112]), e97]); let x106 ← (notV (pure (.bl false))); let v99 ← (DL.ask (szL [(.bl true), x106])); (pure (.nx ((.tup r105), (.lst v99)))))), ("BadHost", fun e111 => (do let r119 ← DL.ask (szL [(.str [104, 111, 115, 116]), e111]); let x120 ← (notV (pure (.bl false))); let v113 ← (DL.ask (szL [(.bl true), x120])); (pure (.nx ((.tup r119), (.lst v113)))))), ("Twice", fun e125 => (do let r133 ← DL.ask (szL [(.str [116, 119, 105, 99, 101]), e125]); let x134 ← (notV (pure (.bl false))); let v127 ← (DL.ask (szL [(.bl true), x134])); (pure (.nx ((.tup r133), (.lst v127)))))), ("TooMany", fun e139 => (do let r147 ← DL.ask (szL [(.str [109, 97, 110, 121]), e139]); let x148 ← (notV (pure (.bl false))); let v141 ← (DL.ask (szL [(.bl true), x148])); (pure (.nx ((.tup r147), (.lst v141))))))]) fun (q91 : D × D) => (do let t270 ← (DL.ask ((isNotD v88 D.non).bind bOf)); seqF (if t270 = true then (do let v179 ← (andV (DL.ask (isiD "tuple" q91.1)) (andV (do let x161 ← (DL.ask (ixD q91.1 (.int 0))); let y162 ← (DL.ask (ixD v88 (.int 0))); DL.ask (eqD x161 y162)) (andV (do let x169 ← (DL.ask (ixD q91.1 (.int 1))); let x167 ← (DL.ask (ixD v88 (.int 1))); Mo.lift (m__law_same_9288 [x169, x167])) (do let y178 ← (DL.ask (szL [(.bl true), (.bl true)])); DL.ask (eqD q91.2 (.lst y178)))))); pure (.rt v179)) else (pure (.nx ()))) fun (q155 : Unit) => (do let t269 ← (DL.orM (DL.notM (do let x181 ← (DL.ask (isiT [("Groups", true)] noneOfB q91.1)); DL.ask (truD x181))) (do let x193 ← (DL.ask (fldD ["Groups"] "groups" q91.1)); let r189 ← (DL.ask (itD (.lst q82))); let x190 ← (lcF (fun d => some d) (fun (c185 : D) => pure true) (fun (c185 : D) => (DL.ask (tupleD [c185]))) r189); let y194 ← (DL.ask (tupleD [(.lst x190)])); DL.ask ((neD x193 y194).bind bOf))); seqF (if t269 = true then (pure (.rt (.bl false))) else (pure (.nx ()))) fun (q195 : Unit) => (do let r199 ← DL.ask (szL []); let x202 ← (DL.ask (ixD v5 (.int 0))); let x255 ← (DL.ask (szL [x202])); let x253 ← (DL.ask (ixD v5 (.int 0))); let x209 ← (DL.ask (ixD v5 (.int 0))); let r212 ← DL.ask (szL [x209]); let x245 ← (DL.ask (mulTD (.tup r212) (.int 21))); let x219 ← (DL.ask (ixD v5 (.int 0))); let r222 ← DL.ask (szL [x219, (.str [])]); let r226 ← DL.ask (szL [(.str [97])]); let r230 ← DL.ask (szL [(.tup r226)]); let x235 ← (DL.ask (ixD v5 (.int 1))); let r238 ← DL.ask (szL [x235, (.int 3)]); let v197 ← (DL.ask (szL [(.tup r199), (.lst x255), x253, D.non, (.bl true), (.int 0), x245, (.tup r222), (.tup r230), (.tup r238)])); let x263 ← (m__law_of_8ba0 [(.lst v197)]); let v268 ← (Mo.lift (m__law_wrong_hosts_4fc9 [q91.1, x263])); pure (.rt v268)))))))) := by
  unfold b_law_ef94; simp only [l_law_ef94_0, l_law_ef94_1, l_law_ef94_2, l_law_ef94_3, l_law_ef94_4, l_law_ef94_5, l_law_ef94_6, l_law_ef94_7, l_law_ef94_8, l_law_ef94_9, l_law_ef94_10, l_law_ef94_11, pure_bind, bind_assoc, mkL]
def m_law_ef94 : List D → R D := apR1 fun a0 => (runR false (b_law_ef94 a0))
end FN
namespace FN
open DL PySem PySem.W
theorem same71 {d : D} {n : Nat} (hn : n ≤ 60) (h : nic n d = true) : m__law_same_9288 [d, d] = .ok (.bl true) := by
  obtain ⟨b, e⟩ := isi_bool h
  have e1 : eqD d d = some (.bl true) := by rw [eq_nic h h hn hn, deq_refl n _ h]
  have e2 : eqD (.bl b) (.bl b) = some (.bl true) := by cases b <;> rfl
  unfold m__law_same_9288 apR2
  simp only [e__law_same_9288, andV, e, e1, e2, askR, pure_bind, tru_bl, if_true]
  rfl
def SG71 : List Nat := [97, 98, 99, 100, 101, 102, 103, 104, 105, 106, 107, 108, 109, 110, 111, 112, 113, 114, 115, 116, 117, 118, 119, 120, 121, 122, 48, 49, 50, 51, 52, 53, 54, 55, 56, 57]
theorem sg_ch (c : Nat) : (c ∈ SG71) ↔ (c ∈ CH) := by
  have h1 : ∀ c ∈ SG71, c ∈ CH := by decide
  have h2 : ∀ c ∈ CH, c ∈ SG71 := by decide
  exact ⟨h1 c, h2 c⟩
theorem lc_signs {z S : List Nat} (h : S = SG71) : (lcF (fun d => some d) (fun (c23 : D) => (DL.ask ((notInD c23 (.str S)).bind bOf) : R Bool)) (fun (c23 : D) => (pure c23)) (chrs z) : R (List D)) = .ok (chrs (z.filter fun c => !decide (c ∈ CH))) := by
  subst h
  have := lcR (u := fun d => some d) (xt := fun (c23 : D) => (DL.ask ((notInD c23 (.str SG71)).bind bOf) : R Bool)) (xe := fun (c23 : D) => (pure c23)) (c := fun d => d) (p := fun d => !decide (sgn d ∈ CH)) (f := fun d => d) (chrs z) (fun _ _ => rfl) (fun d m => ?_) (fun _ _ _ => rfl)
  · refine this.trans ?_
    rw [filter_chrs (fun c => !decide (c ∈ CH)), List.map_id']
  · obtain ⟨c, _, rfl⟩ := chrs_mem m
    have e : (notInD (.str [c]) (.str SG71)).bind bOf = some (!decide (c ∈ SG71)) := rfl
    show (DL.ask ((notInD (.str [c]) (.str SG71)).bind bOf) : R Bool) = _
    rw [e, askR]
    show R.ok _ = R.ok (!decide (c ∈ CH))
    congr 2
    exact decide_eq_decide.mpr (sg_ch c)
theorem ne_chrs0 {z : List Nat} (h : ∀ c ∈ z, c < 1114112) : (neD (.lst (chrs z)) (.lst [])).bind bOf = some (!z.isEmpty) := by
  rw [ne_nic (n := 2) (m := 2) (by
    rw [nic_lst]
    refine nicL_iff.mpr fun d m => ?_
    obtain ⟨c, hc, rfl⟩ := chrs_mem m
    exact nic_str fun x hx => by rw [List.mem_singleton.mp hx]; exact h c hc) rfl (by omega) (by omega)]
  cases z <;> rfl
theorem filter_all {α : Type} (p : α → Bool) : ∀ z : List α, (z.filter fun c => !p c).isEmpty = z.all p
  | [] => rfl
  | c :: z => by
    rw [List.filter_cons, List.all_cons]
    cases q : p c
    · rfl
    · simp only [Bool.not_true, Bool.false_eq_true, if_false, Bool.true_and]
      exact filter_all p z
theorem good_str {P : List (List Nat)} (h0 : P ≠ []) (hf : ∀ p ∈ P, 46 ∉ p ∧ ∀ c ∈ p, c < 1114112) (hl : (joinN [46] P).length ≤ 900) : m__law_is_good_6020 [.str (joinN [46] P)] = .ok (.bl (decide (P.length ≤ 3) && P.all (isLab 20))) := by
  have sp : splitD (.str (joinN [46] P)) (.str [46]) = some (P.map .str) := by
    show (if 46 < 256 ∧ (joinN [46] P).length ≤ 1000000 then some ((TL.spl [46] 0 [] (joinN [46] P)).map D.str) else none) = _
    rw [if_pos ⟨by omega, by omega⟩, joinN_eq, TL.spl_join h0 fun p m => (hf p m).1]
  have isS : ∀ z, isiD "str" (.str z) = some (.bl true) := fun _ => rfl
  have ll : lenD [.lst (P.map .str)] = some (.int (P.length : Int)) := by
    show some (D.int ((P.map D.str).length : Int)) = _
    rw [List.length_map]
  have g3 : (gtD (.int (P.length : Int)) (.int 3)).bind bOf = some (decide (3 < P.length)) := by
    rw [gt_l]
    show some (decide _) = _
    congr 1
    exact decide_eq_decide.mpr (by omega)
  have il : itD (.lst (P.map .str)) = some (P.map .str) := rfl
  have s0 : szL [] = some [] := sz_ok (by simp)
  unfold m__law_is_good_6020 apR1
  simp only [e__law_is_good_6020, isS, tru_bl, DL.notM, DL.orM, Bool.not_true, Bool.false_eq_true, if_false, str_of, sp, ll, g3, il, s0, askR, pure_bind]
  by_cases c3 : 3 < P.length
  · simp only [decide_eq_true c3, if_true]
    rw [decide_eq_false (by omega)]
    rfl
  · simp only [decide_eq_false c3, Bool.false_eq_true, if_false, sqp]
    rw [decide_eq_true (show P.length ≤ 3 by omega), Bool.true_and]
    rw [for_ret (fun d => match d with | .str z => if isLab 20 z = true then none else some (.bl false) | _ => none) (P.map .str) (fun d m => ?_), findSome_map]
    · have : P.findSome? (fun z => if isLab 20 z = true then none else some (D.bl false)) = if P.all (isLab 20) = true then none else some (.bl false) := by
        clear sp ll il g3 hf hl c3 h0
        induction P with
        | nil => rfl
        | cons z P ih =>
          rw [List.findSome?_cons, ih, List.all_cons]
          cases isLab 20 z <;> cases P.all (isLab 20) <;> rfl
      rw [show P.findSome? (fun a => match D.str a with | .str z => if isLab 20 z = true then none else some (.bl false) | _ => none) = P.findSome? (fun z => if isLab 20 z = true then none else some (D.bl false)) from rfl, this]
      cases P.all (isLab 20) <;> rfl
    · obtain ⟨z, hz, rfl⟩ := List.mem_map.mp m
      refine ⟨_, rfl, ?_⟩
      have lz : lenD [.str z] = some (.int (z.length : Int)) := rfl
      have iz : itD (.str z) = some (chrs z) := rfl
      have ch : (chainM leD leD (pure (.int 1)) (pure (.int (z.length : Int))) (pure (.int 20)) : R D) = .ok (.bl (decide (1 ≤ z.length) && decide (z.length ≤ 20))) := by
        rw [chain_ii]
        congr 3
        · exact decide_eq_decide.mpr (by omega)
        · exact decide_eq_decide.mpr (by omega)
      simp only [lz, ch, okpR, pure_bind, askR, bOf_bl]
      show _ = match (if isLab 20 z = true then none else some (D.bl false)) with | some x => (R.ok (Fl.rt x) : R (Fl Unit Unit)) | none => .ok (.nx ())
      unfold isLab
      cases c1 : (decide (1 ≤ z.length) && decide (z.length ≤ 20))
      · simp only [Bool.not_false, if_true]
        rw [← Bool.and_assoc, c1]
        rfl
      · rw [← Bool.and_assoc, c1, Bool.true_and]
        simp only [Bool.not_true, Bool.false_eq_true, if_false, iz, askR, pure_bind]
        rw [lc_signs (z := z) (by rfl)]
        simp only [okpR, pure_bind, ne_chrs0 (fun c m => (hf z hz).2 c (List.mem_filter.mp m).1), askR]
        rw [filter_all]
        cases z.all fun c => decide (c ∈ CH) <;> rfl
theorem good_not {d : D} (h : isiD "str" d = some (.bl false)) : m__law_is_good_6020 [d] = .ok (.bl false) := by
  unfold m__law_is_good_6020 apR1
  simp only [e__law_is_good_6020, h, askR, pure_bind, tru_bl, DL.notM, DL.orM, Bool.not_false, if_true]
  rfl
theorem host_of_not {d : D} (h : isiD "str" d = some (.bl false)) : m_host_of_5eec [d] = .ex ⟨"BadHost", "host", d⟩ := by
  unfold m_host_of_5eec apR1
  simp only [e_host_of_5eec, h, askR, pure_bind, tru_bl, DL.notM, DL.orM, Bool.not_false, if_true]
  rfl
theorem host_of_str {P : List (List Nat)} (h0 : P ≠ []) (hf : ∀ p ∈ P, 46 ∉ p) (hl : (joinN [46] P).length ≤ 900) : m_host_of_5eec [.str (joinN [46] P)] = if okRow P = true then .ok (hD P) else .ex ⟨"BadHost", "host", .str (joinN [46] P)⟩ := by
  have sp : splitD (.str (joinN [46] P)) (.str [46]) = some (P.map .str) := by
    show (if 46 < 256 ∧ (joinN [46] P).length ≤ 1000000 then some ((TL.spl [46] 0 [] (joinN [46] P)).map D.str) else none) = _
    rw [if_pos ⟨by omega, by omega⟩, joinN_eq, TL.spl_join h0 hf]
  have isS : ∀ z, isiD "str" (.str z) = some (.bl true) := fun _ => rfl
  have ih : m_is_host_45ba [.tup (P.map .str)] = .ok (.bl (okRow P)) := by
    rw [is_host_row]
    cases P with
    | nil => exact absurd rfl h0
    | cons a b => rw [List.isEmpty_cons, Bool.not_false, Bool.and_true]
  unfold m_host_of_5eec apR1
  simp only [e_host_of_5eec, isS, tru_bl, askR, pure_bind, DL.orM, DL.notM, Bool.not_true, Bool.false_eq_true, if_false, str_of, sp, tup_lst, ih, lift_pR, okpR, sqp]
  cases okRow P <;> rfl
/-- a thing that is no text of a host of at most three labels -/
def BadH (d : D) : Prop := nic 3 d = true ∧ m__law_is_good_6020 [d] = .ok (.bl false) ∧ (m_host_of_5eec [d] = .ex ⟨"BadHost", "host", d⟩ ∨ ∃ A : Hst, m_host_of_5eec [d] = .ok (hD A) ∧ 4 ≤ A.length)
theorem badH_not {d : D} (h : isiD "str" d = some (.bl false)) (hn : nic 3 d = true) : BadH d := ⟨hn, good_not h, .inl (host_of_not h)⟩
theorem badH_str {P : List (List Nat)} {t : List Nat} (e : t = joinN [46] P) (h0 : P ≠ []) (hf : ∀ p ∈ P, 46 ∉ p ∧ ∀ c ∈ p, c < 1114112) (hl : (joinN [46] P).length ≤ 900) (hb : 3 < P.length ∨ ∃ z ∈ P, isLab 20 z = false) (ht : ∀ c ∈ t, c < 1114112) : BadH (.str t) := by
  subst e
  refine ⟨nic_str ht, ?_, ?_⟩
  · rw [good_str h0 hf hl]
    rcases hb with h | ⟨z, hz, e⟩
    · rw [decide_eq_false (by omega)]; rfl
    · have : P.all (isLab 20) = false := by
        rw [Bool.eq_false_iff]
        intro h
        rw [List.all_eq_true.mp h z hz] at e
        cases e
      rw [this, Bool.and_false]
  · rw [host_of_str h0 (fun p m => (hf p m).1) hl]
    cases c : okRow P with
    | false => exact .inl rfl
    | true =>
      refine .inr ⟨P, rfl, ?_⟩
      rcases hb with h | ⟨z, hz, e⟩
      · omega
      · have : isLab 20 z = true := by
          unfold okRow at c
          simp only [Bool.and_eq_true, List.all_eq_true] at c
          exact c.2 z hz
        rw [this] at e; cases e
end FN
namespace FN
open DL PySem PySem.W
def oddH (z : List Nat) : List D := [.str [], .str (z ++ [46]), .str ([46] ++ z), .str [97, 46, 46, 98], .str ([97, 46, 98, 46, 99, 46] ++ z), .str ([42, 46] ++ z), .str (z ++ [45, 97]), .str ([65] ++ z), .non, .int 7, .bl true] ++
  [.tup [.str z], .lst [.str z], .str (z ++ [10]), .str ([32] ++ z), .str (List.replicate 21 97), .str ([33] ++ z ++ [46, 97])]
theorem nic_one {z : List Nat} (h : ∀ c ∈ z, c < 1114112) {n : Nat} : nicL n [.str z] = true := nicL_iff.mpr fun d m => by rw [List.mem_singleton.mp m]; exact nic_str h
theorem oddH_bad {z : List Nat} (hz : isLab 20 z = true) : ∀ d ∈ oddH z, BadH d := by
  obtain ⟨h1, h2, h3⟩ := isLab_iff.mp hz
  have f46 : 46 ∉ z := ch_free (by decide) hz
  have cz : ∀ c ∈ z, c < 1114112 := fun c m => ch_lt (h3 c m)
  intro d m
  simp only [oddH, List.mem_append, List.mem_cons, List.not_mem_nil, or_false] at m
  rcases m with (rfl | rfl | rfl | rfl | rfl | rfl | rfl | rfl | rfl | rfl | rfl) | (rfl | rfl | rfl | rfl | rfl | rfl)
  · exact badH_str (P := [[]]) (by simp [joinN]) (by simp) (fm_cons (⟨by decide, by decide⟩) fm_nil) (by simp [joinN] <;> omega) (.inr ⟨[], by simp, rfl⟩) (by decide)
  · exact badH_str (P := [z, []]) (by simp [joinN]) (by simp) (fm_cons (⟨f46, cz⟩) (fm_cons (⟨by decide, by decide⟩) fm_nil)) (by simp [joinN] <;> omega) (.inr ⟨[], by simp, rfl⟩) (List.forall_mem_append.mpr ⟨cz, (by decide)⟩)
  · exact badH_str (P := [[], z]) (by simp [joinN]) (by simp) (fm_cons (⟨by decide, by decide⟩) (fm_cons (⟨f46, cz⟩) fm_nil)) (by simp [joinN] <;> omega) (.inr ⟨[], by simp, rfl⟩) (List.forall_mem_append.mpr ⟨(by decide), cz⟩)
  · exact badH_str (P := [[97], [], [98]]) (by simp [joinN]) (by simp) (fm_cons (⟨by decide, by decide⟩) (fm_cons (⟨by decide, by decide⟩) (fm_cons (⟨by decide, by decide⟩) fm_nil))) (by simp [joinN] <;> omega) (.inr ⟨[], by simp, rfl⟩) (by decide)
  · exact badH_str (P := [[97], [98], [99], z]) (by simp [joinN]) (by simp) (fm_cons (⟨by decide, by decide⟩) (fm_cons (⟨by decide, by decide⟩) (fm_cons (⟨by decide, by decide⟩) (fm_cons (⟨f46, cz⟩) fm_nil)))) (by simp [joinN] <;> omega) (.inl (by simp)) (List.forall_mem_append.mpr ⟨(by decide), cz⟩)
  · exact badH_str (P := [[42], z]) (by simp [joinN]) (by simp) (fm_cons (⟨by decide, by decide⟩) (fm_cons (⟨f46, cz⟩) fm_nil)) (by simp [joinN] <;> omega) (.inr ⟨[42], by simp, lab_not (s := 42) (by decide) (by simp)⟩) (List.forall_mem_append.mpr ⟨(by decide), cz⟩)
  · exact badH_str (P := [z ++ [45, 97]]) (by simp [joinN]) (by simp) (fm_cons (⟨by rw [List.mem_append, not_or]; exact ⟨f46, by decide⟩, List.forall_mem_append.mpr ⟨cz, by decide⟩⟩) fm_nil) (by simp [joinN] <;> omega) (.inr ⟨(z ++ [45, 97]), by simp, lab_not (s := 45) (by decide) (by simp)⟩) (List.forall_mem_append.mpr ⟨cz, (by decide)⟩)
  · exact badH_str (P := [[65] ++ z]) (by simp [joinN]) (by simp) (fm_cons (⟨by rw [List.mem_append, not_or]; exact ⟨by decide, f46⟩, List.forall_mem_append.mpr ⟨by decide, cz⟩⟩) fm_nil) (by simp [joinN] <;> omega) (.inr ⟨([65] ++ z), by simp, lab_not (s := 65) (by decide) (by simp)⟩) (List.forall_mem_append.mpr ⟨(by decide), cz⟩)
  · exact badH_not rfl rfl
  · exact badH_not rfl rfl
  · exact badH_not rfl rfl
  · exact badH_not rfl (by rw [nic_tup]; exact nic_one cz)
  · exact badH_not rfl (by rw [nic_lst]; exact nic_one cz)
  · exact badH_str (P := [z ++ [10]]) (by simp [joinN]) (by simp) (fm_cons (⟨by rw [List.mem_append, not_or]; exact ⟨f46, by decide⟩, List.forall_mem_append.mpr ⟨cz, by decide⟩⟩) fm_nil) (by simp [joinN] <;> omega) (.inr ⟨(z ++ [10]), by simp, lab_not (s := 10) (by decide) (by simp)⟩) (List.forall_mem_append.mpr ⟨cz, (by decide)⟩)
  · exact badH_str (P := [[32] ++ z]) (by simp [joinN]) (by simp) (fm_cons (⟨by rw [List.mem_append, not_or]; exact ⟨by decide, f46⟩, List.forall_mem_append.mpr ⟨by decide, cz⟩⟩) fm_nil) (by simp [joinN] <;> omega) (.inr ⟨([32] ++ z), by simp, lab_not (s := 32) (by decide) (by simp)⟩) (List.forall_mem_append.mpr ⟨(by decide), cz⟩)
  · exact badH_str (P := [List.replicate 21 97]) (by simp [joinN]) (by simp) (fm_cons (⟨by decide, by decide⟩) fm_nil) (by simp [joinN] <;> omega) (.inr ⟨List.replicate 21 97, by simp, by decide⟩) (by decide)
  · exact badH_str (P := [[33] ++ z, [97]]) (by simp [joinN]) (by simp) (fm_cons (⟨by rw [List.mem_append, not_or]; exact ⟨by decide, f46⟩, List.forall_mem_append.mpr ⟨by decide, cz⟩⟩) (fm_cons (⟨by decide, by decide⟩) fm_nil)) (by simp [joinN] <;> omega) (.inr ⟨([33] ++ z), by simp, lab_not (s := 33) (by decide) (by simp)⟩) (List.forall_mem_append.mpr ⟨(List.forall_mem_append.mpr ⟨(by decide), cz⟩), (by decide)⟩)
/-- a thing that is no group -/
def BadG (g : D) : Prop := nic 4 g = true ∧ (isi2D "list" "tuple" g = some (.bl false) ∨ ∃ ds : List D, (g = .lst ds ∨ g = .tup ds) ∧ (ds.length < 2 ∨ 4 < ds.length) ∧ ds.length ≤ 10)
def oddG (z : List Nat) : List D := [.lst [], .lst [.str z], .tup [.str z], .lst [.str z, .str (z ++ [97]), .str (z ++ [98]), .str (z ++ [99]), .str (z ++ [100])], .str z, .non, .int 2, .bl true, .tup [], .lst [.lst []]]
theorem oddG_bad {z : List Nat} (hz : isLab 20 z = true) : ∀ d ∈ oddG z, BadG d := by
  obtain ⟨h1, h2, h3⟩ := isLab_iff.mp hz
  have cz : ∀ c ∈ z, c < 1114112 := fun c m => ch_lt (h3 c m)
  intro d m
  simp only [oddG, List.mem_cons, List.not_mem_nil, or_false] at m
  rcases m with rfl | rfl | rfl | rfl | rfl | rfl | rfl | rfl | rfl | rfl
  · exact ⟨rfl, .inr ⟨[], .inl rfl, .inl (by simp), by simp⟩⟩
  · exact ⟨by rw [nic_lst]; exact nic_one cz, .inr ⟨_, .inl rfl, .inl (by simp), by simp⟩⟩
  · exact ⟨by rw [nic_tup]; exact nic_one cz, .inr ⟨_, .inr rfl, .inl (by simp), by simp⟩⟩
  · refine ⟨?_, .inr ⟨_, .inl rfl, .inr (by simp), by simp⟩⟩
    rw [nic_lst]
    refine nicL_iff.mpr fun d m => ?_
    simp only [List.mem_cons, List.not_mem_nil, or_false] at m
    rcases m with rfl | rfl | rfl | rfl | rfl
    · exact nic_str cz
    all_goals exact nic_str (List.forall_mem_append.mpr ⟨cz, by decide⟩)
  · exact ⟨nic_str cz, .inl rfl⟩
  · exact ⟨rfl, .inl rfl⟩
  · exact ⟨rfl, .inl rfl⟩
  · exact ⟨rfl, .inl rfl⟩
  · exact ⟨rfl, .inr ⟨[], .inr rfl, .inl (by simp), by simp⟩⟩
  · exact ⟨rfl, .inr ⟨_, .inl rfl, .inl (by simp), by simp⟩⟩
theorem odd_host_ok {z : List Nat} (hz : isLab 20 z = true) : Bk 1 (m__law_odd_host_3247 [.str z]) fun d => BadH d := by
  obtain ⟨z1, z2, _⟩ := isLab_iff.mp hz
  have a : ∀ w v : List Nat, w.length + v.length ≤ 100 → addD (.str w) (.str v) = some (.str (w ++ v)) := fun w v h => add_ss (by omega)
  have l1 : ∀ c : List Nat, c.length ≤ 10 → addD (.str c) (.str z) = some (.str (c ++ z)) := fun c h => a _ _ (by omega)
  have l2 : ∀ c : List Nat, c.length ≤ 10 → addD (.str z) (.str c) = some (.str (z ++ c)) := fun c h => a _ _ (by omega)
  have l4 : addD (.str ([33] ++ z)) (.str [46, 97]) = some (.str ([33] ++ z ++ [46, 97])) := a _ _ (by simp; omega)
  have m : mulD (.str [97]) (.int 21) = some (.str (List.replicate 21 97)) := mul_s (a := [97]) (k := 21) (by omega) (by simp)
  have s1 : ∀ a : D, szL [a] = some [a] := fun a => sz_ok (by simp)
  have s6 : ∀ a b c d e f : D, szL [a, b, c, d, e, f] = some [a, b, c, d, e, f] := fun a b c d e f => sz_ok (by simp)
  have s11 : ∀ a b c d e f g h i j k : D, szL [a, b, c, d, e, f, g, h, i, j, k] = some [a, b, c, d, e, f, g, h, i, j, k] := fun a b c d e f g h i j k => sz_ok (by simp)
  have ll : ∀ x y : List D, x.length + y.length ≤ 1000 → addD (.lst x) (.lst y) = some (.lst (x ++ y)) := fun x y h => add_ll (by omega)
  refine bk_runM ?_
  simp only [e__law_odd_host_3247]
  simp only [l1 [46] (by simp), l1 [97, 46, 98, 46, 99, 46] (by simp), l1 [42, 46] (by simp), l1 [65] (by simp), l1 [32] (by simp), l1 [33] (by simp), l2 [46] (by simp), l2 [45, 97] (by simp), l2 [10] (by simp), l4, m, s1, s6, s11, askM, pure_bind]
  rw [ll _ _ (by simp)]
  simp only [askM, pure_bind]
  exact bk_then (K1 := 1) (of_okW (ds := oddH z) (by simp [oddH]) (by simp [oddH])) fun d hd => bk_pure (oddH_bad hz d hd)
theorem odd_group_ok {z : List Nat} (hz : isLab 20 z = true) : Bk 1 (m__law_odd_group_c9dc [.str z]) fun d => BadG d := by
  obtain ⟨z1, z2, _⟩ := isLab_iff.mp hz
  have l2 : ∀ c : List Nat, c.length ≤ 10 → addD (.str z) (.str c) = some (.str (z ++ c)) := fun c h => add_ss (by omega)
  have s0 : szL [] = some [] := sz_ok (by simp)
  have s1 : ∀ a : D, szL [a] = some [a] := fun a => sz_ok (by simp)
  have s5 : ∀ a b c d e : D, szL [a, b, c, d, e] = some [a, b, c, d, e] := fun a b c d e => sz_ok (by simp)
  have s10 : ∀ a b c d e f g h i j : D, szL [a, b, c, d, e, f, g, h, i, j] = some [a, b, c, d, e, f, g, h, i, j] := fun a b c d e f g h i j => sz_ok (by simp)
  refine bk_runM ?_
  simp only [e__law_odd_group_c9dc]
  simp only [l2 [97] (by simp), l2 [98] (by simp), l2 [99] (by simp), l2 [100] (by simp), s0, s1, s5, s10, askM, pure_bind]
  exact bk_then (K1 := 1) (of_okW (ds := oddG z) (by simp [oddG]) (by simp [oddG])) fun d hd => bk_pure (oddG_bad hz d hd)
end FN
namespace FN
open DL PySem PySem.W
/-- a host, or a thing that is none -/
abbrev It7 := Hst ⊕ D
def encI : It7 → D
  | .inl m => txD m
  | .inr d => d
def ItOk : It7 → Prop
  | .inl m => MemOk m
  | .inr d => BadH d
def fstI (L : List It7) : Option D := L.findSome? fun x => match x with | .inl _ => none | .inr d => some d
def hostsI : List It7 → List Hst
  | [] => []
  | .inl m :: L => m :: hostsI L
  | .inr _ :: L => hostsI L
def dupH : List Hst → List Hst → Option Hst
  | _, [] => none
  | T, m :: r => if m ∈ T then some m else dupH (T ++ [m]) r
inductive Gp where
  | bad (d : D)
  | seq (t : Bool) (L : List It7)
def encG : Gp → D
  | .bad d => d
  | .seq true L => .tup (L.map encI)
  | .seq false L => .lst (L.map encI)
def GpOk : Gp → Prop
  | .bad d => BadG d
  | .seq _ L => 2 ≤ L.length ∧ L.length ≤ 4 ∧ ∀ x ∈ L, ItOk x
def kGroup : List Nat := [103, 114, 111, 117, 112]
def kHost : List Nat := [104, 111, 115, 116]
def kTwice7 : List Nat := [116, 119, 105, 99, 101]
def kMany7 : List Nat := [109, 97, 110, 121]
/-- the error that is due of a group, or its hosts -/
inductive Er where
  | group (d : D)
  | host (d : D)
  | twice (m : Hst)
def resG (T : List Hst) : Gp → Er ⊕ List Hst
  | .bad d => .inl (.group d)
  | .seq _ L => match fstI L with
    | some d => .inl (.host d)
    | none => match dupH T (hostsI L) with
      | some m => .inl (.twice m)
      | none => .inr (hostsI L)
theorem resG_seq (T : List Hst) (t : Bool) (L : List It7) : resG T (.seq t L) = match fstI L with
    | some d => .inl (.host d)
    | none => match dupH T (hostsI L) with
      | some m => .inl (.twice m)
      | none => .inr (hostsI L) := rfl
def exE : Er → Exn
  | .group d => ⟨"BadGroup", "group", d⟩
  | .host d => ⟨"BadHost", "host", d⟩
  | .twice m => ⟨"Twice", "name", txD m⟩
def duE : Er → D
  | .group d => .tup [.str kGroup, d]
  | .host d => .tup [.str kHost, d]
  | .twice m => .tup [.str kTwice7, txD m]
theorem mem_tx {m : Hst} (h : MemOk m) : ∀ c ∈ joinN [46] m, c < 1114112 := fun c hc => join_tx (by unfold okRow; rw [decide_eq_true (by have := h.2.2; omega), Bool.true_and, List.all_eq_true]; exact h.1) (by have := h.2.1; omega) c hc
theorem nic_txD {m : Hst} (h : MemOk m) {n : Nat} : nic n (txD m) = true := nic_str (mem_tx h)
theorem nic_it {x : It7} (h : ItOk x) : nic 3 (encI x) = true := by
  cases x with
  | inl m => exact nic_txD h
  | inr d => exact h.1
theorem good_tx {m : Hst} (h : MemOk m) : m__law_is_good_6020 [txD m] = .ok (.bl true) := by
  have f : ∀ p ∈ m, 46 ∉ p ∧ ∀ c ∈ p, c < 1114112 := fun p hp => ⟨ch_free (by decide) (h.1 p hp), fun c hc => ch_lt ((isLab_iff.mp (h.1 p hp)).2.2 c hc)⟩
  have hl := labs_join h.1 (by have := h.2.2; omega)
  show m__law_is_good_6020 [.str (joinN [46] m)] = _
  have h0 : m ≠ [] := fun e => by have := h.2.1; rw [e] at this; simp at this
  have hl9 : (joinN [46] m).length ≤ 900 := by
    obtain ⟨ha, h1, h3⟩ := h
    match m, h1, h3, ha with
    | [a], _, _, ha =>
      have := (isLab_iff.mp (ha a (by simp))).2.1
      simp [joinN]; omega
    | [a, b], _, _, ha =>
      have := (isLab_iff.mp (ha a (by simp))).2.1
      have := (isLab_iff.mp (ha b (by simp))).2.1
      simp [joinN]; omega
    | [a, b, c], _, _, ha =>
      have := (isLab_iff.mp (ha a (by simp))).2.1
      have := (isLab_iff.mp (ha b (by simp))).2.1
      have := (isLab_iff.mp (ha c (by simp))).2.1
      simp [joinN]; omega
  rw [good_str h0 f hl9, decide_eq_true h.2.2, Bool.true_and]
  congr 2
  exact List.all_eq_true.mpr h.1
theorem enumC : ∀ (s : List Hst) (k : Nat), ((s.map hD).mapIdx fun i d => D.tup [.int ((i + k : Nat) : Int), d]) = match s with
    | [] => []
    | m :: r => .tup [.int (k : Int), hD m] :: ((r.map hD).mapIdx fun i d => D.tup [.int ((i + (k + 1) : Nat) : Int), d])
  | [], _ => rfl
  | m :: r, k => by
    rw [List.map_cons, List.mapIdx_cons, Nat.zero_add]
    congr 1
    have e : (fun i d => D.tup [.int ((i + 1 + k : Nat) : Int), d]) = fun (i : Nat) (d : D) => D.tup [.int ((i + (k + 1) : Nat) : Int), d] := by
      funext i d
      rw [show i + 1 + k = i + (k + 1) by omega]
    rw [e]
theorem dup_loop {ms T : List Hst} (hT : ∀ t ∈ T, Labs t) (hm : ∀ m ∈ ms, MemOk m) : ∀ (s pre : List Hst), pre ++ s = ms → (forF un2 (fun (q32 : Unit) (c33 : D × D) => (do let t48 ← (DL.orM (DL.ask ((inD c33.2 (.lst (T.map hD))).bind bOf)) (do let i37 ← DL.ask (intOf c33.1); let y42 ← (DL.ask (sliceD (.lst (ms.map hD)) none (some i37))); DL.ask ((inD c33.2 y42).bind bOf))); seqF (if t48 = true then (do let v47 ← (Mo.lift (m_host_text_f5b6 [c33.2])); raiseX "Twice" "name" v47) else (pure (.nx ()))) fun (q43 : Unit) => (pure (.nx ())))) ((s.map hD).mapIdx fun i d => D.tup [.int ((i + pre.length : Nat) : Int), d]) () : R (Fl Unit Empty)) = match dupH (T ++ pre) s with
    | some m => .ex ⟨"Twice", "name", txD m⟩
    | none => .ok (.nx ()) := by
  intro s
  induction s with
  | nil => intro pre _; rfl
  | cons m s ih =>
    intro pre e
    have mm : MemOk m := hm m (by rw [← e]; simp)
    have pm : ∀ t ∈ pre, Labs t := fun t k => (hm t (by rw [← e]; exact List.mem_append_left _ k)).1
    rw [enumC, forF]
    show (((do let t48 ← (DL.orM (DL.ask ((inD (hD m) (.lst (T.map hD))).bind bOf)) (do let i37 ← DL.ask (intOf (.int (pre.length : Int))); let y42 ← (DL.ask (sliceD (.lst (ms.map hD)) none (some i37))); DL.ask ((inD (hD m) y42).bind bOf))); seqF (if t48 = true then (do let v47 ← (Mo.lift (m_host_text_f5b6 [hD m])); raiseX "Twice" "name" v47) else (pure (.nx ()))) fun (q43 : Unit) => (pure (.nx ()))) : R (Fl Unit Unit)) >>= _) = _
    have sl : sliceD (.lst (ms.map hD)) none (some (pre.length : Int)) = some (.lst (pre.map hD)) := by
      show some (D.lst (cutL (ms.map hD) none (some (pre.length : Int)))) = _
      rw [cut_toD, ← e, List.map_append, List.take_left' (by rw [List.length_map])]
    have tx : m_host_text_f5b6 [hD m] = .ok (txD m) := host_text_ok mm
    simp only [in_hosts mm.1 hT, in_hosts mm.1 pm, int_of, sl, askR, pure_bind, DL.orM, tx, lift_pR, okpR]
    unfold dupH
    by_cases c : m ∈ T ++ pre
    · rw [if_pos c]
      rcases List.mem_append.mp c with c1 | c1
      · simp only [decide_eq_true c1, if_true, pure_bind]
        rfl
      · by_cases c2 : m ∈ T
        · simp only [decide_eq_true c2, if_true, pure_bind]
          rfl
        · simp only [decide_eq_false c2, decide_eq_true c1, Bool.false_eq_true, if_false, if_true, pure_bind]
          rfl
    · have c1 : ¬ m ∈ T := fun k => c (List.mem_append_left _ k)
      have c2 : ¬ m ∈ pre := fun k => c (List.mem_append_right _ k)
      rw [if_neg c]
      simp only [decide_eq_false c1, decide_eq_false c2, Bool.false_eq_true, if_false, pure_bind, sqp]
      have ih' := ih (pre ++ [m]) (by rw [← e]; simp)
      rw [List.length_append, List.length_singleton, ← List.append_assoc] at ih'
      exact ih'
theorem hosts_loop : ∀ (L : List It7) (acc : List D), (∀ x ∈ L, ItOk x) → acc.length + L.length ≤ 1000 → (forF (fun d => some d) (fun (q12 : List D) (c13 : D) => (do let v14 ← (Mo.lift (m_host_of_5eec [c13])); let x21 ← (DL.ask (lenD [v14])); let t27 ← (DL.ask ((gtD x21 c_MOST_LABELS_OF_MEMBER).bind bOf)); seqF (if t27 = true then (raiseX "BadHost" "host" c13) else (pure (.nx ()))) fun (q23 : Unit) => (do let v26 ← DL.ask (apd q12 v14); (pure (.nx v26))))) (L.map encI) acc : R (Fl (List D) Empty)) = match fstI L with
    | some d => .ex ⟨"BadHost", "host", d⟩
    | none => .ok (.nx (acc ++ (hostsI L).map hD))
  | [], acc, _, _ => by
    show R.ok (Fl.nx acc) = R.ok (Fl.nx (acc ++ []))
    rw [List.append_nil]
  | x :: L, acc, h, hl => by
    rw [List.length_cons] at hl
    have ih := fun acc' => hosts_loop L acc' (fun y m => h y (.tail _ m))
    rw [List.map_cons, forF]
    show (((do let v14 ← (Mo.lift (m_host_of_5eec [encI x])); let x21 ← (DL.ask (lenD [v14])); let t27 ← (DL.ask ((gtD x21 c_MOST_LABELS_OF_MEMBER).bind bOf)); seqF (if t27 = true then (raiseX "BadHost" "host" (encI x)) else (pure (.nx ()))) fun (q23 : Unit) => (do let v26 ← DL.ask (apd acc v14); (pure (.nx v26)))) : R (Fl (List D) (List D))) >>= _) = _
    have gt : ∀ m : Hst, (gtD (.int (m.length : Int)) c_MOST_LABELS_OF_MEMBER).bind bOf = some (decide (3 < m.length)) := fun m => by
      show (gtD (.int (m.length : Int)) (.int 3)).bind bOf = _
      rw [gt_l]
      show some (decide _) = _
      congr 1
      exact decide_eq_decide.mpr (by omega)
    cases x with
    | inl m =>
      have km : MemOk m := h (.inl m) (.head _)
      have ho' : m_host_of_5eec [encI (.inl m)] = .ok (hD m) := host_of_ok km
      simp only [ho', lift_pR, okpR, pure_bind, lenH, gt, decide_eq_false (show ¬ 3 < m.length by have := km.2.2; omega), askR, Bool.false_eq_true, if_false, sqp, apd_ok (show acc.length < 1000000 by omega)]
      have ih' := ih (acc ++ [hD m]) (by rw [List.length_append, List.length_singleton]; omega)
      have e1 : fstI (.inl m :: L) = fstI L := rfl
      rw [e1]
      refine Eq.trans ih' ?_
      cases fstI L with
      | some d => rfl
      | none =>
        show R.ok _ = R.ok _
        rw [List.append_assoc]
        rfl
    | inr d =>
      obtain ⟨_, _, hb⟩ := h (.inr d) (.head _)
      have e1 : fstI (.inr d :: L) = some d := rfl
      rw [e1]
      rcases hb with hb | ⟨A, hb, h4⟩
      · have hb' : m_host_of_5eec [encI (.inr d)] = .ex ⟨"BadHost", "host", d⟩ := hb
        rw [lift_pR, hb']
        rfl
      · have hb' : m_host_of_5eec [encI (.inr d)] = .ok (hD A) := hb
        simp only [hb', lift_pR, okpR, pure_bind, lenH, gt, decide_eq_true (show 3 < A.length by omega), askR, if_true]
        rfl
theorem hosts_ok : ∀ {L : List It7}, (∀ x ∈ L, ItOk x) → fstI L = none → (∀ m ∈ hostsI L, MemOk m) ∧ L.map encI = (hostsI L).map txD ∧ (hostsI L).length = L.length
  | [], _, _ => ⟨(fun _ m => by cases m), rfl, rfl⟩
  | .inr d :: L, _, h => by cases h
  | .inl m :: L, hx, h => by
    obtain ⟨a, b, c⟩ := hosts_ok (L := L) (fun y k => hx y (.tail _ k)) h
    refine ⟨fun x k => ?_, ?_, ?_⟩
    · rcases List.mem_cons.mp k with rfl | k
      · exact hx (.inl x) (.head _)
      · exact a x k
    · show txD m :: L.map encI = txD m :: (hostsI L).map txD
      rw [b]
    · show (hostsI L).length + 1 = L.length + 1
      rw [c]
theorem checked71 {g : Gp} {T : List Hst} (hg : GpOk g) (hT : ∀ t ∈ T, Labs t) : m_checked_group_64d1 [encG g, .lst (T.map hD)] = match resG T g with
    | .inl e => .ex (exE e)
    | .inr hs => .ok (grD hs) := by
  have chn : ∀ n : Nat, (chainM leD leD (pure c_LEAST_OF_GROUP) (pure (.int (n : Int))) (pure c_MOST_OF_GROUP) : R D) = .ok (.bl (decide (2 ≤ n) && decide (n ≤ 4))) := fun n => by
    show (chainM leD leD (pure (.int 2)) (pure (.int (n : Int))) (pure (.int 4)) : R D) = _
    rw [chain_ii]
    congr 3
    · exact decide_eq_decide.mpr (by omega)
    · exact decide_eq_decide.mpr (by omega)
  have s0 : szL [] = some [] := sz_ok (by simp)
  cases g with
  | bad d =>
    obtain ⟨_, h | ⟨ds, h, hl, _⟩⟩ := hg
    · have h' : isi2D "list" "tuple" (encG (.bad d)) = some (.bl false) := h
      unfold m_checked_group_64d1 apR2
      simp only [e_checked_group_64d1, h', tru_bl, askR, pure_bind, DL.orM, DL.notM, Bool.not_false, if_true]
      rfl
    · have i2 : isi2D "list" "tuple" (encG (.bad d)) = some (.bl true) := by rcases h with rfl | rfl <;> rfl
      have ll : lenD [encG (.bad d)] = some (.int (ds.length : Int)) := by rcases h with rfl | rfl <;> rfl
      have cf : (decide (2 ≤ ds.length) && decide (ds.length ≤ 4)) = false := by
        rcases hl with h | h
        · rw [decide_eq_false (by omega)]; rfl
        · rw [decide_eq_false (show ¬ ds.length ≤ 4 by omega), Bool.and_false]
      unfold m_checked_group_64d1 apR2
      simp only [e_checked_group_64d1, i2, ll, chn, cf, okpR, bOf_bl, tru_bl, askR, pure_bind, DL.orM, DL.notM, Bool.not_true, Bool.not_false, Bool.false_eq_true, if_false, if_true]
      rfl
  | seq t L =>
    obtain ⟨l2, l4, hi⟩ := hg
    have i2 : isi2D "list" "tuple" (encG (.seq t L)) = some (.bl true) := by cases t <;> rfl
    have ll : lenD [encG (.seq t L)] = some (.int (L.length : Int)) := by
      cases t
      · show some (D.int ((L.map encI).length : Int)) = _
        rw [List.length_map]
      · show some (D.int ((L.map encI).length : Int)) = _
        rw [List.length_map]
    have it : itD (encG (.seq t L)) = some (L.map encI) := by cases t <;> rfl
    have cf : (decide (2 ≤ L.length) && decide (L.length ≤ 4)) = true := by rw [decide_eq_true l2, decide_eq_true l4]; rfl
    unfold m_checked_group_64d1 apR2
    simp only [e_checked_group_64d1, i2, ll, chn, cf, it, s0, okpR, bOf_bl, tru_bl, askR, pure_bind, DL.orM, DL.notM, Bool.not_true, Bool.false_eq_true, if_false, sqp]
    have hlp := hosts_loop L [] hi (by simp; omega)
    rw [hlp, resG_seq]
    cases hf : fstI L with
    | some d => rfl
    | none =>
      obtain ⟨a, b, c⟩ := hosts_ok hi hf
      have en : enumOf [.lst ((hostsI L).map hD)] = some (((hostsI L).map hD).mapIdx fun i d => D.tup [.int ((i + ([] : List Hst).length : Nat) : Int), d]) := rfl
      have dl := dup_loop hT a (hostsI L) [] rfl
      have tp : tupleD [.lst ((hostsI L).map hD)] = some (grD (hostsI L)) := rfl
      simp only [List.nil_append, seqR_nx, en, askR, pure_bind]
      simp only [DL.orM] at dl
      rw [dl, List.append_nil]
      cases hd : dupH T (hostsI L) with
      | some m => rfl
      | none =>
        simp only [seqR_nx, tp, askR, pure_bind]
        rfl
end FN
namespace FN
open DL PySem PySem.W
def dueG : List Hst → List Gp → Option Er
  | _, [] => none
  | T, g :: gs => match resG T g with
    | .inl e => some e
    | .inr hs => dueG (T ++ hs) gs
def badsI : List It7 → List D
  | [] => []
  | .inl _ :: L => badsI L
  | .inr d :: L => d :: badsI L
theorem fst_bads : ∀ L : List It7, fstI L = (badsI L).head?
  | [] => rfl
  | .inl _ :: L => fst_bads L
  | .inr _ :: _ => rfl
theorem bads_mem : ∀ {L : List It7}, (∀ x ∈ L, ItOk x) → ∀ d ∈ badsI L, BadH d
  | [], _, _, m => by cases m
  | .inl _ :: L, h, d, m => bads_mem (L := L) (fun x k => h x (.tail _ k)) d m
  | .inr e :: L, h, d, m => by
    rcases List.mem_cons.mp m with rfl | m
    · exact h (.inr d) (.head _)
    · exact bads_mem (L := L) (fun x k => h x (.tail _ k)) d m
theorem lc_badI : ∀ (L : List It7), (∀ x ∈ L, ItOk x) → (lcF (fun d => some d) (fun (c23 : D) => (DL.notM (do let x27 ← (Mo.lift (m__law_is_good_6020 [c23])); DL.ask (truD x27)))) (fun (c23 : D) => (pure c23)) (L.map encI) : R (List D)) = .ok (badsI L)
  | [], _ => rfl
  | x :: L, h => by
    have ih := lc_badI L fun y k => h y (.tail _ k)
    rw [List.map_cons, lcF, ih]
    cases x with
    | inl m =>
      have e : m__law_is_good_6020 [encI (.inl m)] = .ok (.bl true) := good_tx (h (.inl m) (.head _))
      simp only [askR, pure_bind, lift_pR, e, okpR, tru_bl, DL.notM, Bool.not_true, Bool.false_eq_true, if_false]
      rfl
    | inr d =>
      have e : m__law_is_good_6020 [encI (.inr d)] = .ok (.bl false) := (h (.inr d) (.head _)).2.1
      simp only [askR, pure_bind, lift_pR, e, okpR, tru_bl, DL.notM, Bool.not_false, if_true]
      rfl
theorem join_inj {A B : Hst} (hA : MemOk A) (hB : MemOk B) (h : joinN [46] A = joinN [46] B) : A = B := by
  have a := split_labs hA.1 hA.2.1 (by have := hA.2.2; omega)
  have b := split_labs hB.1 hB.2.1 (by have := hB.2.2; omega)
  rw [h, b] at a
  have e : B.map D.str = A.map D.str := by simpa using a
  have inj : Function.Injective D.str := fun _ _ h => by cases h; rfl
  exact ((List.map_inj_right fun _ _ h => inj h).mp e).symm
theorem in_tx {m : Hst} {T : List Hst} (hm : MemOk m) (hT : ∀ t ∈ T, MemOk t) : (inD (txD m) (.lst (T.map txD))).bind bOf = some (decide (m ∈ T)) := by
  have lt : ∀ t : Hst, MemOk t → Tx 1000 (joinN [46] t) := fun t h => ⟨labs_join h.1 (by have := h.2.2; omega), mem_tx h⟩
  have e : T.map txD = (T.map (joinN [46])).map D.str := by rw [List.map_map]; rfl
  rw [e]
  show (inD (.str (joinN [46] m)) _).bind bOf = _
  rw [in_strs (lt m hm) (fun z hz => by
    obtain ⟨t, ht, rfl⟩ := List.mem_map.mp hz
    exact lt t (hT t ht))]
  show some _ = some _
  congr 1
  refine decide_eq_decide.mpr ⟨fun h => ?_, fun h => List.mem_map_of_mem h⟩
  obtain ⟨t, ht, e⟩ := List.mem_map.mp h
  rw [← join_inj (hT t ht) hm e]
  exact ht
theorem due_dup : ∀ (hs T : List Hst), (∀ m ∈ hs, MemOk m) → (∀ t ∈ T, MemOk t) → T.length + hs.length ≤ 1000 → (forF (fun d => some d) (fun (q43 : List D) (c44 : D) => (do let t58 ← (Mo.noex (DL.ask ((inD c44 (.lst q43)).bind bOf))); seqF (if t58 = true then (do let r54 ← DL.ask (szL [(.str [116, 119, 105, 99, 101]), c44]); pure (.rt (.tup r54))) else (pure (.nx ()))) fun (q48 : Unit) => (do let v57 ← DL.ask (apd q43 c44); (pure (.nx v57))))) (hs.map txD) (T.map txD) : R (Fl (List D) (List D))) = match dupH T hs with
    | some m => .ok (.rt (duE (.twice m)))
    | none => .ok (.nx ((T ++ hs).map txD))
  | [], T, _, _, _ => by
    show R.ok _ = R.ok _
    rw [List.append_nil]
  | m :: hs, T, h, hT, hl => by
    rw [List.length_cons] at hl
    have mm := h m (.head _)
    have s2 : ∀ a b : D, szL [a, b] = some [a, b] := fun a b => sz_ok (by simp)
    rw [List.map_cons, forF]
    show (((do let t58 ← (Mo.noex (DL.ask ((inD (txD m) (.lst (T.map txD))).bind bOf))); seqF (if t58 = true then (do let r54 ← DL.ask (szL [(.str [116, 119, 105, 99, 101]), txD m]); pure (.rt (.tup r54))) else (pure (.nx ()))) fun (q48 : Unit) => (do let v57 ← DL.ask (apd (T.map txD) (txD m)); (pure (.nx v57)))) : R (Fl (List D) (List D))) >>= _) = _
    have nx : ∀ b : Bool, (Mo.noex (DL.ask (some b)) : R Bool) = pure b := fun _ => rfl
    unfold dupH
    rw [in_tx mm hT, nx]
    by_cases c : m ∈ T
    · rw [if_pos c]
      simp only [decide_eq_true c, pure_bind, if_true, s2, askR]
      rfl
    · rw [if_neg c]
      simp only [decide_eq_false c, pure_bind, Bool.false_eq_true, if_false, sqp, apd_ok (show (T.map txD).length < 1000000 by rw [List.length_map]; omega), askR]
      have ih := due_dup hs (T ++ [m]) (fun x k => h x (.tail _ k)) (fun t k => by
        rcases List.mem_append.mp k with k | k
        · exact hT t k
        · rw [List.mem_singleton.mp k]; exact mm) (by rw [List.length_append, List.length_singleton]; omega)
      rw [List.append_assoc] at ih
      rw [show T.map txD ++ [txD m] = (T ++ [m]).map txD by rw [List.map_append]; rfl]
      exact ih
theorem nic_group {g : Gp} (h : GpOk g) : nic 4 (encG g) = true := by
  cases g with
  | bad d => exact h.1
  | seq t L =>
    have : nicL 3 (L.map encI) = true := nicL_iff.mpr fun d m => by
      obtain ⟨x, hx, rfl⟩ := List.mem_map.mp m
      exact nic_it (h.2.2 x hx)
    cases t
    · show nic 4 (.lst (L.map encI)) = true
      rw [nic_lst]; exact this
    · show nic 4 (.tup (L.map encI)) = true
      rw [nic_tup]; exact this
theorem res_hosts {T : List Hst} {g : Gp} {hs : List Hst} (hg : GpOk g) (h : resG T g = .inr hs) : (∀ m ∈ hs, MemOk m) ∧ 2 ≤ hs.length ∧ hs.length ≤ 4 ∧ ∃ t L, g = .seq t L ∧ hs = hostsI L ∧ fstI L = none := by
  cases g with
  | bad d => cases h
  | seq t L =>
    rw [resG_seq] at h
    cases hf : fstI L with
    | some d => rw [hf] at h; cases h
    | none =>
      rw [hf] at h
      simp only [] at h
      cases hd : dupH T (hostsI L) with
      | some m => rw [hd] at h; cases h
      | none =>
        rw [hd] at h
        cases h
        obtain ⟨a, b, c⟩ := hosts_ok hg.2.2 hf
        exact ⟨a, by rw [c]; exact hg.1, by rw [c]; exact hg.2.1, t, L, rfl, rfl, hf⟩
theorem due_loop : ∀ (gs : List Gp) (T : List Hst), (∀ g ∈ gs, GpOk g) → (∀ t ∈ T, MemOk t) → T.length + 4 * gs.length ≤ 900 → ∃ T' : List Hst, (forF (fun d => some d) (fun (q4 : List D) (c5 : D) => (do let t62 ← (DL.orM (DL.notM (do let x7 ← (DL.ask (isi2D "list" "tuple" c5)); DL.ask (truD x7))) (DL.notM (do let x11 ← (chainM leD leD (pure (.int 2)) (DL.ask (lenD [c5])) (pure (.int 4))); DL.ask (bOf x11)))); seqF (if t62 = true then (do let r18 ← DL.ask (szL [(.str [103, 114, 111, 117, 112]), c5]); pure (.rt (.tup r18))) else (pure (.nx ()))) fun (q12 : Unit) => (do let r28 ← (DL.ask (itD c5)); let v20 ← (lcF (fun d => some d) (fun (c23 : D) => (DL.notM (do let x27 ← (Mo.lift (m__law_is_good_6020 [c23])); DL.ask (truD x27)))) (fun (c23 : D) => (pure c23)) r28); let y31 ← (DL.ask (szL [])); let t61 ← (DL.ask ((neD (.lst v20) (.lst y31)).bind bOf)); seqF (if t61 = true then (do let x35 ← (DL.ask (ixD (.lst v20) (.int 0))); let r40 ← DL.ask (szL [(.str [104, 111, 115, 116]), x35]); pure (.rt (.tup r40))) else (pure (.nx ()))) fun (q32 : Unit) => (do let r60 ← (DL.ask (itD c5)); seqF (forF (fun d => some d) (fun (q43 : List D) (c44 : D) => (do let t58 ← (Mo.noex (DL.ask ((inD c44 (.lst q43)).bind bOf))); seqF (if t58 = true then (do let r54 ← DL.ask (szL [(.str [116, 119, 105, 99, 101]), c44]); pure (.rt (.tup r54))) else (pure (.nx ()))) fun (q48 : Unit) => (do let v57 ← DL.ask (apd q43 c44); (pure (.nx v57))))) r60 q4) fun (q59 : List D) => (pure (.nx q59)))))) (gs.map encG) (T.map txD) : R (Fl (List D) Empty)) = match dueG T gs with
    | some e => .ok (.rt (duE e))
    | none => .ok (.nx (T'.map txD))
  | [], T, _, _, _ => ⟨T, rfl⟩
  | g :: gs, T, h, hT, hl => by
    rw [List.length_cons] at hl
    have hg := h g (.head _)
    have s0 : szL [] = some [] := sz_ok (by simp)
    have s2 : ∀ a b : D, szL [a, b] = some [a, b] := fun a b => sz_ok (by simp)
    have chn : ∀ n : Nat, (chainM leD leD (pure (.int 2)) (pure (.int (n : Int))) (pure (.int 4)) : R D) = .ok (.bl (decide (2 ≤ n) && decide (n ≤ 4))) := fun n => by
      rw [chain_ii]
      congr 3
      · exact decide_eq_decide.mpr (by omega)
      · exact decide_eq_decide.mpr (by omega)
    cases g with
    | bad d =>
      refine ⟨[], ?_⟩
      have rr : dueG T (.bad d :: gs) = some (.group d) := rfl
      rw [rr, List.map_cons, forF]
      obtain ⟨_, i2 | ⟨ds, e, hlen, _⟩⟩ := hg
      · have i2' : isi2D "list" "tuple" (encG (.bad d)) = some (.bl false) := i2
        simp only [askR, pure_bind, i2', tru_bl, DL.notM, DL.orM, Bool.not_false, if_true, s2]
        rfl
      · have i2 : isi2D "list" "tuple" (encG (.bad d)) = some (.bl true) := by rcases e with rfl | rfl <;> rfl
        have ll : lenD [encG (.bad d)] = some (.int (ds.length : Int)) := by rcases e with rfl | rfl <;> rfl
        have cf : (decide (2 ≤ ds.length) && decide (ds.length ≤ 4)) = false := by
          rcases hlen with h | h
          · rw [decide_eq_false (by omega)]; rfl
          · rw [decide_eq_false (show ¬ ds.length ≤ 4 by omega), Bool.and_false]
        simp only [askR, pure_bind, i2, ll, chn, cf, okpR, bOf_bl, tru_bl, DL.notM, DL.orM, Bool.not_true, Bool.not_false, Bool.false_eq_true, if_false, if_true, s2]
        rfl
    | seq t L =>
      obtain ⟨l2, l4, hi⟩ := hg
      have i2 : isi2D "list" "tuple" (encG (.seq t L)) = some (.bl true) := by cases t <;> rfl
      have ll : lenD [encG (.seq t L)] = some (.int (L.length : Int)) := by
        cases t
        · show some (D.int ((L.map encI).length : Int)) = _
          rw [List.length_map]
        · show some (D.int ((L.map encI).length : Int)) = _
          rw [List.length_map]
      have it : itD (encG (.seq t L)) = some (L.map encI) := by cases t <;> rfl
      have cf : (decide (2 ≤ L.length) && decide (L.length ≤ 4)) = true := by rw [decide_eq_true l2, decide_eq_true l4]; rfl
      have nb : (neD (.lst (badsI L)) (.lst [])).bind bOf = some (!(badsI L).isEmpty) := by
        rw [ne_nic (n := 4) (m := 4) (by
          rw [nic_lst]
          exact nicL_iff.mpr fun d m => (bads_mem hi d m).1) rfl (by omega) (by omega)]
        cases badsI L <;> rfl
      have lb := lc_badI L hi
      have fb := fst_bads L
      cases hb : badsI L with
      | cons d ds =>
        refine ⟨[], ?_⟩
        rw [hb] at fb lb nb
        have rr : dueG T (.seq t L :: gs) = some (.host d) := by
          show (match resG T (.seq t L) with | .inl e => some e | .inr hs => dueG (T ++ hs) gs) = _
          rw [resG_seq, fb]
          rfl
        have ix : ixD (.lst (d :: ds)) (.int 0) = some d := by rw [ix_lst (by omega) (by simp)]; rfl
        rw [rr, List.map_cons, forF]
        simp only [askR, pure_bind, i2, ll, chn, cf, it, lb, s0, nb, okpR, bOf_bl, tru_bl, Bool.not_true, Bool.false_eq_true, if_false, List.isEmpty_cons, Bool.not_false, if_true, ix, s2, DL.orM, sqp]
        have : ∀ {b : Bool}, (DL.notM (pure b) : R Bool) = pure (!b) := fun {b} => rfl
        simp only [this, pure_bind, Bool.not_true, Bool.false_eq_true, if_false, sqp, lb, okpR, askR, nb, Bool.not_false, if_true, List.isEmpty_cons, ix, s2]
        rfl
      | nil =>
        rw [hb] at fb lb nb
        have fn : fstI L = none := fb
        obtain ⟨ha, hmap, hlen⟩ := hosts_ok hi fn
        have dd := due_dup (hostsI L) T ha hT (by omega)
        have notp : ∀ {b : Bool}, (DL.notM (pure b) : R Bool) = pure (!b) := fun {b} => rfl
        cases hd : dupH T (hostsI L) with
        | some m =>
          refine ⟨[], ?_⟩
          have rr : dueG T (.seq t L :: gs) = some (.twice m) := by
            show (match resG T (.seq t L) with | .inl e => some e | .inr hs => dueG (T ++ hs) gs) = _
            rw [resG_seq, fn, hd]
          rw [hd] at dd
          rw [rr, List.map_cons, forF]
          simp only [askR, pure_bind, i2, ll, chn, cf, okpR, bOf_bl, tru_bl, notp, DL.orM, Bool.not_true, Bool.false_eq_true, if_false, sqp, it, lb, s0, nb, List.isEmpty_nil]
          simp only [hmap, dd]
          rfl
        | none =>
          rw [hd] at dd
          obtain ⟨T', ih⟩ := due_loop gs (T ++ hostsI L) (fun x k => h x (.tail _ k)) (fun x k => by
            rcases List.mem_append.mp k with k | k
            · exact hT x k
            · exact ha x k) (by rw [List.length_append]; omega)
          refine ⟨T', ?_⟩
          have rr : dueG T (.seq t L :: gs) = dueG (T ++ hostsI L) gs := by
            show (match resG T (.seq t L) with | .inl e => some e | .inr hs => dueG (T ++ hs) gs) = _
            rw [resG_seq, fn, hd]
          rw [rr, ← ih, List.map_cons, forF]
          simp only [askR, pure_bind, i2, ll, chn, cf, okpR, bOf_bl, tru_bl, notp, DL.orM, Bool.not_true, Bool.false_eq_true, if_false, sqp, it, lb, s0, nb, List.isEmpty_nil]
          simp only [hmap, dd]
          rfl
theorem due71 {gs : List Gp} (h : ∀ g ∈ gs, GpOk g) (hl : gs.length ≤ 100) : m__law_due_99cc [.lst (gs.map encG)] = .ok (match dueG [] gs with
    | some e => duE e
    | none => if 4 < gs.length then .tup [.str kMany7, .int 4] else .non) := by
  have s0 : szL [] = some [] := sz_ok (by simp)
  have s2 : ∀ a b : D, szL [a, b] = some [a, b] := fun a b => sz_ok (by simp)
  have it : itD (.lst (gs.map encG)) = some (gs.map encG) := rfl
  have ll : lenD [.lst (gs.map encG)] = some (.int (gs.length : Int)) := by
    show some (D.int ((gs.map encG).length : Int)) = _
    rw [List.length_map]
  have g4 : (gtD (.int (gs.length : Int)) (.int 4)).bind bOf = some (decide (4 < gs.length)) := by
    rw [gt_l]
    show some (decide _) = _
    congr 1
    exact decide_eq_decide.mpr (by omega)
  obtain ⟨T', lp⟩ := due_loop gs [] h (fun _ m => by cases m) (by simp; omega)
  unfold m__law_due_99cc apR1
  simp only [e__law_due_99cc, s0, it, askR, pure_bind]
  rw [List.map_nil] at lp
  simp only [s0, askR, pure_bind] at lp
  rw [lp]
  cases dueG [] gs with
  | some e => rfl
  | none =>
    simp only [seqR_nx, ll, g4, askR, pure_bind, iteM, s2]
    by_cases c : 4 < gs.length
    · simp only [decide_eq_true c, if_pos c, if_true, pure_bind]; rfl
    · simp only [decide_eq_false c, if_neg c, Bool.false_eq_true, if_false, pure_bind]; rfl
end FN
namespace FN
open DL PySem PySem.W
def hostsG : Gp → List Hst
  | .bad _ => []
  | .seq _ L => hostsI L
theorem init_loop71 : ∀ (gs : List Gp) (done : List (List Hst)) (T : List Hst), (∀ g ∈ gs, GpOk g) → (∀ t ∈ T, Labs t) → done.length + gs.length ≤ 100 → T.length + 4 * gs.length ≤ 900 → (forF (fun d => some d) (fun (q6 : List D × List D) (c7 : D) => (do let w14 ← (Mo.lift (m_checked_group_64d1 [c7, (.lst q6.2)])); let v8 ← DL.ask (flatD w14); let v16 ← DL.ask (apd q6.1 v8); let r22 ← DL.ask (listD [v8]); let v17 ← (DL.ask (szL r22)); let v18 ← DL.ask (extI q6.2 [(.lst v17)]); (pure (.nx (v16, v18))) : R (Fl (List D × List D) (List D × List D)))) (gs.map encG) (done.map grD, T.map hD) : R (Fl (List D × List D) Empty)) = match dueG T gs with
    | some e => .ex (exE e)
    | none => .ok (.nx ((done ++ gs.map hostsG).map grD, (T ++ (gs.map hostsG).flatten).map hD))
  | [], done, T, _, _, _, _ => by
    show R.ok _ = R.ok _
    simp
  | g :: gs, done, T, h, hT, hl, hl2 => by
    rw [List.length_cons] at hl hl2
    have ck := checked71 (h g (.head _)) hT
    rw [List.map_cons, forF]
    show (((do let w14 ← (Mo.lift (m_checked_group_64d1 [encG g, (.lst (T.map hD))])); let v8 ← DL.ask (flatD w14); let v16 ← DL.ask (apd (done.map grD) v8); let r22 ← DL.ask (listD [v8]); let v17 ← (DL.ask (szL r22)); let v18 ← DL.ask (extI (T.map hD) [(.lst v17)]); (pure (.nx (v16, v18)))) : R (Fl (List D × List D) (List D × List D))) >>= _) = _
    cases hr : resG T g with
    | inl e =>
      rw [hr] at ck
      have rr : dueG T (g :: gs) = some e := by
        show (match resG T g with | .inl e => some e | .inr hs => dueG (T ++ hs) gs) = _
        rw [hr]
      rw [rr, lift_pR, ck]
      rfl
    | inr hs =>
      rw [hr] at ck
      obtain ⟨ha, l2, l4, t, L, eg, eh, _⟩ := res_hosts (h g (.head _)) hr
      have rr : dueG T (g :: gs) = dueG (T ++ hs) gs := by
        show (match resG T g with | .inl e => some e | .inr hs => dueG (T ++ hs) gs) = _
        rw [hr]
      have hg : hostsG g = hs := by rw [eg, eh]; rfl
      have li : listD [grD hs] = some (hs.map hD) := rfl
      have ex : extI (T.map hD) [.lst (hs.map hD)] = some (T.map hD ++ hs.map hD) := if_pos (by rw [List.length_map, List.length_map, sizeLine_eq]; omega)
      have ih := init_loop71 gs (done ++ [hs]) (T ++ hs) (fun x k => h x (.tail _ k)) (fun x k => by
        rcases List.mem_append.mp k with k | k
        · exact hT x k
        · exact (ha x k).1) (by rw [List.length_append, List.length_singleton]; omega) (by rw [List.length_append]; omega)
      rw [rr]
      simp only [ck, lift_pR, okpR, pure_bind, imm_grD, askR, apd_ok (show (done.map grD).length < 1000000 by rw [List.length_map]; omega), li, sz_ok (show (hs.map hD).length ≤ 1000000 by rw [List.length_map]; omega), ex]
      rw [show done.map grD ++ [grD hs] = (done ++ [hs]).map grD by rw [List.map_append]; rfl, show T.map hD ++ hs.map hD = (T ++ hs).map hD by rw [List.map_append]]
      refine Eq.trans ih ?_
      cases dueG (T ++ hs) gs with
      | some e => rfl
      | none =>
        show R.ok _ = R.ok _
        simp [hg]
theorem texts71 {kin : List (List Hst)} (hg : ∀ g ∈ kin, ∀ m ∈ g, MemOk m) : (lcF (fun d => some d) (fun (c38 : D) => pure true) (fun (c38 : D) => (do let r45 ← (DL.ask (itD c38)); let x46 ← (lcF (fun d => some d) (fun (c41 : D) => pure true) (fun (c41 : D) => (Mo.lift (m_host_text_f5b6 [c41]))) r45); DL.ask (tupleD [(.lst x46)]))) (kin.map grD) : R (List D)) = .ok (kin.map grT) := by
  induction kin with
  | nil => rfl
  | cons g kin ih =>
    have e := texts_of (hg g (.head _))
    have ih' := ih fun x m => hg x (.tail _ m)
    have ig : itD (grD g) = some (g.map hD) := rfl
    rw [List.map_cons, lcF]
    show ((Mo.noex (do let r44 ← (DL.ask (itD (grD g))); let x45 ← (lcF (fun d => some d) (fun (c40 : D) => pure true) (fun (c40 : D) => (Mo.lift (m_host_text_f5b6 [c40]))) r44); DL.ask (tupleD [(.lst x45)]) : R D)) >>= fun y => (lcF (fun d => some d) (fun (c37 : D) => pure true) (fun (c37 : D) => (do let r44 ← (DL.ask (itD c37)); let x45 ← (lcF (fun d => some d) (fun (c40 : D) => pure true) (fun (c40 : D) => (Mo.lift (m_host_text_f5b6 [c40]))) r44); DL.ask (tupleD [(.lst x45)]))) (kin.map grD) : R (List D)) >>= fun r => pure (y :: r)) = _
    rw [ih']
    simp only [ig, askR, pure_bind, e, okpR, tup_lst]
    rfl
theorem due_none : ∀ {gs : List Gp} {T : List Hst}, (∀ g ∈ gs, GpOk g) → dueG T gs = none → ∀ g ∈ gs, (∀ m ∈ hostsG g, MemOk m) ∧ tupleD [encG g] = some (grT (hostsG g))
  | [], _, _, _, _, m => by cases m
  | g :: gs, T, h, hd, x, m => by
    have hd : (match resG T g with | .inl e => some e | .inr hs => dueG (T ++ hs) gs) = none := hd
    cases hr : resG T g with
    | inl e => rw [hr] at hd; cases hd
    | inr hs =>
      rw [hr] at hd
      rcases List.mem_cons.mp m with rfl | m
      · obtain ⟨ha, l2, l4, t, L, eg, eh, hf⟩ := res_hosts (h x (.head _)) hr
        have hx := h x (.head _)
        subst eg
        obtain ⟨_, hm, _⟩ := hosts_ok hx.2.2 hf
        refine ⟨by show ∀ m ∈ hostsI L, _; rw [← eh]; exact ha, ?_⟩
        cases t
        · show some (D.tup (L.map encI)) = _
          rw [hm]; rfl
        · show some (D.tup (L.map encI)) = _
          rw [hm]; rfl
      · exact due_none (T := T ++ hs) (fun y k => h y (.tail _ k)) hd x m
theorem init71 {gs : List Gp} (h : ∀ g ∈ gs, GpOk g) (hl : gs.length ≤ 100) : m_Groups_init_1887 [.tup (gs.map encG)] = match dueG [] gs with
    | some e => .ex (exE e)
    | none => if 4 < gs.length then .ex ⟨"TooMany", "limit", .int 4⟩ else .ok [.tup ((gs.map hostsG).map grD), .tup ((gs.map hostsG).map grT)] := by
  have s0 : szL [] = some [] := sz_ok (by simp)
  have it : itD (.tup (gs.map encG)) = some (gs.map encG) := rfl
  have lp := init_loop71 gs [] [] h (fun _ m => by cases m) (by simp; omega) (by simp; omega)
  unfold m_Groups_init_1887 apI1
  simp only [e_Groups_init_1887, s0, it, askR, pure_bind]
  rw [List.map_nil, List.map_nil] at lp
  rw [lp]
  cases hd : dueG [] gs with
  | some e => rfl
  | none =>
    simp only [seqR_nx, List.nil_append]
    have ll : lenD [.lst ((gs.map hostsG).map grD)] = some (.int (gs.length : Int)) := by
      show some (D.int (((gs.map hostsG).map grD).length : Int)) = _
      rw [List.length_map, List.length_map]
    have g4 : (gtD (.int (gs.length : Int)) c_MOST_GROUPS).bind bOf = some (decide (4 < gs.length)) := by
      show (gtD (.int (gs.length : Int)) (.int 4)).bind bOf = _
      rw [gt_l]
      show some (decide _) = _
      congr 1
      exact decide_eq_decide.mpr (by omega)
    simp only [ll, g4, askR, pure_bind]
    by_cases c : 4 < gs.length
    · simp only [decide_eq_true c, if_pos c, if_true]; rfl
    · have tl1 : tupleD [.lst ((gs.map hostsG).map grD)] = some (.tup ((gs.map hostsG).map grD)) := rfl
      have il : itD (.lst ((gs.map hostsG).map grD)) = some ((gs.map hostsG).map grD) := rfl
      have tx := texts71 (kin := gs.map hostsG) (fun k hk m hm => by
        obtain ⟨g, hg, rfl⟩ := List.mem_map.mp hk
        exact (due_none h hd g hg).1 m hm)
      simp only [decide_eq_false c, if_neg c, Bool.false_eq_true, if_false, sqp, tl1, il, askR, pure_bind]
      rw [tx]
      simp only [okpR, pure_bind, tup_lst, askR]
      rfl
theorem tryR_ex {α β : Type} {L : List (Str × Str)} {e : Exn} {hs : List (Str × (D → R (Fl α β)))} (h : (e.c, e.f) ∈ L) : tryFs L (R.ex e : R (Fl α β)) hs = pickC hs e := by
  show (if (e.c, e.f) ∈ L then pickC hs e else Mo.lift .stuck) = _
  exact if_pos h
theorem wrong71 {d : D} {kin : List (List Hst)} (hn : nic 3 d = true) (hh : m_is_host_45ba [d] = .ok (.bl false)) : m__law_wrong_hosts_4fc9 [.ins "Groups" ["hosts", "groups"] [.tup (kin.map grD), .tup (kin.map grT)], d] = .ok (.bl true) := by
  have s0 : szL [] = some [] := sz_ok (by simp)
  have t1 : dispM [("Groups", m_Groups_translated_fd84)] (.ins "Groups" ["hosts", "groups"] [.tup (kin.map grD), .tup (kin.map grT)]) [d] = .ex ⟨"BadHost", "host", d⟩ := by
    show m_Groups_translated_fd84 [.ins "Groups" ["hosts", "groups"] [.tup (kin.map grD), .tup (kin.map grT)], d] = _
    unfold m_Groups_translated_fd84 apR2
    simp only [e_Groups_translated_fd84, hh, lift_pR, okpR, pure_bind, tru_bl, askR, DL.notM, Bool.not_false, if_true]
    rfl
  have t2 : dispM [("Groups", m_Groups_member_6374)] (.ins "Groups" ["hosts", "groups"] [.tup (kin.map grD), .tup (kin.map grT)]) [d] = .ex ⟨"BadHost", "host", d⟩ := by
    show m_Groups_member_6374 [.ins "Groups" ["hosts", "groups"] [.tup (kin.map grD), .tup (kin.map grT)], d] = _
    unfold m_Groups_member_6374 apR2
    simp only [e_Groups_member_6374, hh, lift_pR, okpR, pure_bind, tru_bl, askR, DL.notM, Bool.not_false, if_true]
    rfl
  have t3 : dispM [("Groups", m_Groups_origins_a60a)] (.ins "Groups" ["hosts", "groups"] [.tup (kin.map grD), .tup (kin.map grT)]) [d] = .ex ⟨"BadHost", "host", d⟩ := by
    show m_Groups_origins_a60a [.ins "Groups" ["hosts", "groups"] [.tup (kin.map grD), .tup (kin.map grT)], d] = _
    unfold m_Groups_origins_a60a apR2
    simp only [e_Groups_origins_a60a, hh, lift_pR, okpR, pure_bind, tru_bl, askR, DL.notM, Bool.not_false, if_true]
    rfl
  have i1 : insOk ["Groups"] "translated" (.ins "Groups" ["hosts", "groups"] [.tup (kin.map grD), .tup (kin.map grT)]) = some () := rfl
  have i2 : insOk ["Groups"] "member" (.ins "Groups" ["hosts", "groups"] [.tup (kin.map grD), .tup (kin.map grT)]) = some () := rfl
  have i3 : insOk ["Groups"] "origins" (.ins "Groups" ["hosts", "groups"] [.tup (kin.map grD), .tup (kin.map grT)]) = some () := rfl
  have sm := same71 (by omega) hn
  have a1 : apd [] d = some [d] := apd_ok (by simp)
  have a2 : apd [d] d = some [d, d] := apd_ok (by simp)
  have a3 : apd [d, d] d = some [d, d, d] := apd_ok (by simp)
  have l3 : lenD [.lst [d, d, d]] = some (.int 3) := rfl
  have e3 : eqD (.int 3) (.int 3) = some (.bl true) := rfl
  have x0 : ixD (.lst [d, d, d]) (.int 0) = some d := rfl
  have x1 : ixD (.lst [d, d, d]) (.int 1) = some d := rfl
  have x2 : ixD (.lst [d, d, d]) (.int 2) = some d := rfl
  have mm : (((⟨"BadHost", "host", d⟩ : Exn).c, (⟨"BadHost", "host", d⟩ : Exn).f) ∈ ([("BadGroup", "group"), ("BadHost", "host"), ("TooMany", "limit"), ("Twice", "name")] : List (Str × Str))) := List.mem_cons_of_mem _ List.mem_cons_self
  have nx : ∀ {α : Type} (a : α), (Mo.noex (pure a : R α) : R α) = pure a := fun _ => rfl
  unfold m__law_wrong_hosts_4fc9 apR2
  simp only [e__law_wrong_hosts_4fc9, s0, i1, i2, i3, t1, t2, t3, lift_pR, exbind, askR, pure_bind]
  rw [tryR_ex (e := ⟨"BadHost", "host", d⟩) mm]
  simp only [pickC, if_true, a1, askR, pure_bind, nx, sqp]
  rw [tryR_ex (e := ⟨"BadHost", "host", d⟩) mm]
  simp only [pickC, if_true, a2, askR, pure_bind, nx, sqp]
  rw [tryR_ex (e := ⟨"BadHost", "host", d⟩) mm]
  simp only [pickC, if_true, a3, askR, pure_bind, nx, sqp, l3, e3, x0, x1, x2, sm, andV, tru_bl, okpR]
  rfl
end FN
namespace FN
open DL PySem PySem.W
theorem made71 {xs : List D} (h1 : 1 ≤ xs.length) (h : xs.length ≤ 5) : m__law_made_e8a3 [.lst xs] = (do let o ← m_Groups_init_1887 [.tup xs]; pure (.ins "Groups" ["hosts", "groups"] o) : R D) := by
  have st : starD 0 m_Groups_init_1887 xs = m_Groups_init_1887 [.tup xs] := star0 (by omega)
  have e := fun (i j : Int) => (show (eqD (.int i) (.int j)).bind bOf = some (decide (i = j)) from rfl)
  have ll : lenD [.lst xs] = some (.int (xs.length : Int)) := rfl
  unfold m__law_made_e8a3 apR1
  simp only [e__law_made_e8a3, ll, e, askR, pure_bind, lift_pR]
  match xs, h1, h, st with
  | [x0], _, _, st =>
    have i0 : ixD (.lst ([x0] : List D)) (.int 0) = some x0 := rfl
    have d1 : decide ((([x0] : List D).length : Int) = 1) = true := rfl
    simp only [d1, if_true, Bool.false_eq_true, if_false, sqp, i0, askR, pure_bind, st]
    cases m_Groups_init_1887 [.tup [x0]] <;> rfl
  | [x0, x1], _, _, st =>
    have i0 : ixD (.lst ([x0, x1] : List D)) (.int 0) = some x0 := rfl
    have i1 : ixD (.lst ([x0, x1] : List D)) (.int 1) = some x1 := rfl
    have d1 : decide ((([x0, x1] : List D).length : Int) = 1) = false := rfl
    have d2 : decide ((([x0, x1] : List D).length : Int) = 2) = true := rfl
    simp only [d1, d2, if_true, Bool.false_eq_true, if_false, sqp, i0, i1, askR, pure_bind, st]
    cases m_Groups_init_1887 [.tup [x0, x1]] <;> rfl
  | [x0, x1, x2], _, _, st =>
    have i0 : ixD (.lst ([x0, x1, x2] : List D)) (.int 0) = some x0 := rfl
    have i1 : ixD (.lst ([x0, x1, x2] : List D)) (.int 1) = some x1 := rfl
    have i2 : ixD (.lst ([x0, x1, x2] : List D)) (.int 2) = some x2 := rfl
    have d1 : decide ((([x0, x1, x2] : List D).length : Int) = 1) = false := rfl
    have d2 : decide ((([x0, x1, x2] : List D).length : Int) = 2) = false := rfl
    have d3 : decide ((([x0, x1, x2] : List D).length : Int) = 3) = true := rfl
    simp only [d1, d2, d3, if_true, Bool.false_eq_true, if_false, sqp, i0, i1, i2, askR, pure_bind, st]
    cases m_Groups_init_1887 [.tup [x0, x1, x2]] <;> rfl
  | [x0, x1, x2, x3], _, _, st =>
    have i0 : ixD (.lst ([x0, x1, x2, x3] : List D)) (.int 0) = some x0 := rfl
    have i1 : ixD (.lst ([x0, x1, x2, x3] : List D)) (.int 1) = some x1 := rfl
    have i2 : ixD (.lst ([x0, x1, x2, x3] : List D)) (.int 2) = some x2 := rfl
    have i3 : ixD (.lst ([x0, x1, x2, x3] : List D)) (.int 3) = some x3 := rfl
    have d1 : decide ((([x0, x1, x2, x3] : List D).length : Int) = 1) = false := rfl
    have d2 : decide ((([x0, x1, x2, x3] : List D).length : Int) = 2) = false := rfl
    have d3 : decide ((([x0, x1, x2, x3] : List D).length : Int) = 3) = false := rfl
    have d4 : decide ((([x0, x1, x2, x3] : List D).length : Int) = 4) = true := rfl
    simp only [d1, d2, d3, d4, if_true, Bool.false_eq_true, if_false, sqp, i0, i1, i2, i3, askR, pure_bind, st]
    cases m_Groups_init_1887 [.tup [x0, x1, x2, x3]] <;> rfl
  | [x0, x1, x2, x3, x4], _, _, st =>
    have i0 : ixD (.lst ([x0, x1, x2, x3, x4] : List D)) (.int 0) = some x0 := rfl
    have i1 : ixD (.lst ([x0, x1, x2, x3, x4] : List D)) (.int 1) = some x1 := rfl
    have i2 : ixD (.lst ([x0, x1, x2, x3, x4] : List D)) (.int 2) = some x2 := rfl
    have i3 : ixD (.lst ([x0, x1, x2, x3, x4] : List D)) (.int 3) = some x3 := rfl
    have i4 : ixD (.lst ([x0, x1, x2, x3, x4] : List D)) (.int 4) = some x4 := rfl
    have d1 : decide ((([x0, x1, x2, x3, x4] : List D).length : Int) = 1) = false := rfl
    have d2 : decide ((([x0, x1, x2, x3, x4] : List D).length : Int) = 2) = false := rfl
    have d3 : decide ((([x0, x1, x2, x3, x4] : List D).length : Int) = 3) = false := rfl
    have d4 : decide ((([x0, x1, x2, x3, x4] : List D).length : Int) = 4) = false := rfl
    simp only [d1, d2, d3, d4, if_true, Bool.false_eq_true, if_false, sqp, i0, i1, i2, i3, i4, askR, pure_bind, st]
    cases m_Groups_init_1887 [.tup [x0, x1, x2, x3, x4]] <;> rfl
  | [], h, _, _ => simp at h
  | _ :: _ :: _ :: _ :: _ :: _ :: _, _, h, _ => simp at h
/-- the groups of the law's draws: all right -/
def GoodG (g : Gp) : Prop := ∃ (t : Bool) (ms : List Hst), g = .seq t (ms.map Sum.inl) ∧ (∀ m ∈ ms, MemOk m) ∧ 2 ≤ ms.length ∧ ms.length ≤ 4
theorem good_ok {g : Gp} (h : GoodG g) : GpOk g := by
  obtain ⟨t, ms, rfl, a, b, c⟩ := h
  refine ⟨by rw [List.length_map]; exact b, by rw [List.length_map]; exact c, fun x m => ?_⟩
  obtain ⟨y, hy, rfl⟩ := List.mem_map.mp m
  exact a y hy
theorem enc_inl (ms : List Hst) : (ms.map (Sum.inl : Hst → It7)).map encI = ms.map txD := by rw [List.map_map]; rfl
/-- n labels of a pool, joined -/
theorem text_ok {zs : List (List Nat)} (hL : Lab8 zs) {n : Nat} (n1 : 1 ≤ n) (n3 : n ≤ 3) {K : Nat} (hK : 3 ≤ K) : Bk K (do let y47 ← (lcF (fun d => some d) (fun (c41 : D) => pure true) (fun (c41 : D) => (m__law_of_8ba0 [.lst (zs.map .str)])) (rangeL 0 n)); DL.ask (joinD (.str [46]) (.lst y47))) fun d => ∃ m : Hst, d = txD m ∧ MemOk m := by
  refine bk_then (K1 := 3) (bk_lc (P := fun _ r => ∃ z : List Nat, r = .str z ∧ isLab 20 z = true) 1 _ (fun d _ => ⟨d, rfl, of_labW hL⟩) (n := 3) (by rw [range_len]; omega) (by omega)) (fun rs hrs => ?_) (by omega)
  obtain ⟨m, rfl, hl, hm⟩ : ∃ m : Hst, rs = m.map .str ∧ m.length = n ∧ ∀ z ∈ m, isLab 20 z = true := by
    have : ∀ {ds rs : List D}, All2 (fun _ r => ∃ z : List Nat, r = .str z ∧ isLab 20 z = true) ds rs → ∃ m : Hst, rs = m.map .str ∧ m.length = ds.length ∧ ∀ z ∈ m, isLab 20 z = true := fun {ds rs} h => by
      induction h with
      | nil => exact ⟨[], rfl, rfl, fun _ m => by cases m⟩
      | cons h t ih =>
        obtain ⟨z, rfl, hz⟩ := h
        obtain ⟨m, rfl, l, hm⟩ := ih
        exact ⟨z :: m, rfl, by simp [l], fun x k => by
          rcases List.mem_cons.mp k with rfl | k
          · exact hz
          · exact hm x k⟩
    obtain ⟨m, e, l, h⟩ := this hrs
    rw [range_len] at l
    exact ⟨m, e, l, h⟩
  have hr := row_of (A := m) (by omega) hm
  have j := (join_row2 (S := [46]) hr (by simp)).1
  have j' : joinD (.str [46]) (.lst (m.map .str)) = some (.str (joinN [46] m)) := j
  rw [j']
  exact bk_pure ⟨m, rfl, hm, by omega, by omega⟩
/-- the two lists of the draws: groups, texts -/
def SomeI (k : Nat) (q : List D × List D) : Prop := ∃ (gs : List Gp) (us : List Hst), q = (gs.map encG, us.map txD) ∧ (∀ g ∈ gs, GoodG g) ∧ gs.length ≤ k ∧ (∀ u ∈ us, MemOk u) ∧ us.length ≤ 4 * k
def SomeJ (k j : Nat) (q : List D × List D) : Prop := ∃ (us ms : List Hst), q = (us.map txD, ms.map txD) ∧ (∀ u ∈ us, MemOk u) ∧ us.length ≤ 4 * k + j ∧ (∀ u ∈ ms, MemOk u) ∧ ms.length ≤ j
theorem notin_tx {m : Hst} {T : List Hst} (hm : MemOk m) (hT : ∀ t ∈ T, MemOk t) : (notInD (txD m) (.lst (T.map txD))).bind bOf = some (!decide (m ∈ T)) := by
  have lt : ∀ t : Hst, MemOk t → Tx 1000 (joinN [46] t) := fun t h => ⟨labs_join h.1 (by have := h.2.2; omega), mem_tx h⟩
  have e : T.map txD = (T.map (joinN [46])).map D.str := by rw [List.map_map]; rfl
  rw [e]
  show (notInD (.str (joinN [46] m)) _).bind bOf = _
  rw [notin_L (lt m hm) (fun z hz => by
    obtain ⟨t, ht, rfl⟩ := List.mem_map.mp hz
    exact lt t (hT t ht))]
  congr 2
  refine decide_eq_decide.mpr ⟨fun h => ?_, fun h => List.mem_map_of_mem h⟩
  obtain ⟨t, ht, e⟩ := List.mem_map.mp h
  rw [← join_inj (hT t ht) hm e]
  exact ht
theorem some_ok {zs : List (List Nat)} (hL : Lab8 zs) : Bk 200 (m__law_some_12afn [.lst (zs.map .str)]) fun d => ∃ gs : List Gp, d = .lst (gs.map encG) ∧ (∀ g ∈ gs, GoodG g) ∧ 1 ≤ gs.length ∧ gs.length ≤ 5 := by
  have s0 : szL [] = some [] := sz_ok (by simp)
  refine bk_runM ?_
  simp only [e__law_some_12afn, s0, askM, pure_bind]
  refine bk_then (take_okW (n := 3) (by omega) (by omega)) ?_
  rintro d ⟨w, rfl, w0, w1⟩
  refine bk_then (take_okW (n := 5) (by omega) (by omega)) ?_
  rintro d ⟨n, rfl, n0, n1⟩
  simp only [add_ii, askM, pure_bind]
  rw [rng1_ok (j := 1 + n) (by omega) (by omega)]
  simp only [askM, pure_bind]
  refine bk_seqP (K1 := 100) (SomeI 5) (bk_for (n := 5) 20 SomeI _ _ ⟨[], [], rfl, (fun _ m => by cases m), by simp, (fun _ m => by cases m), by simp⟩ (fun k d q hd hq => ⟨d, rfl, ?_⟩) (fun q hq => by
    obtain ⟨gs, us, e, a, b, c, d⟩ := hq
    rw [range_len] at b d
    exact ⟨gs, us, e, a, by omega, c, by omega⟩) (by rw [range_len]; omega)) ?_
  · obtain ⟨gs, us, rfl, hg, gl, hu, ul⟩ := hq
    have hk := (range_get hd).1
    refine bk_then (take_okW (n := 3) (by omega) (by omega)) ?_
    rintro d ⟨c, rfl, c0, c1⟩
    simp only [add_ii, askM, pure_bind]
    rw [rng1_ok (j := 2 + c) (by omega) (by omega)]
    simp only [askM, pure_bind]
    refine bk_seqP (K1 := 16) (SomeJ k 4) (bk_for (n := 4) 4 (SomeJ k) _ _ ⟨us, [], rfl, hu, by omega, (fun _ m => by cases m), by simp⟩ (fun j d q hd hq => ⟨d, rfl, ?_⟩) (fun q hq => by
      obtain ⟨us, ms, e, a, b, c, d⟩ := hq
      rw [range_len] at b d
      exact ⟨us, ms, e, a, by omega, c, by omega⟩) (by rw [range_len]; omega)) ?_
    · obtain ⟨us, ms, rfl, hu, ul, hm, ml⟩ := hq
      simp only [str_of, askM, pure_bind]
      refine bk_then (take_okW (n := 3) (by omega) (by omega)) ?_
      rintro d ⟨a, rfl, a0, a1⟩
      simp only [add_ii, askM, pure_bind]
      rw [rng1_ok (j := 1 + a) (by omega) (by omega)]
      simp only [askM, pure_bind]
      have tx := text_ok hL (n := (1 + a).toNat) (by omega) (by omega) (K := 3) (by omega)
      rw [← bind_assoc]
      refine bk_then (K1 := 3) tx ?_
      rintro d ⟨m, rfl, hmm⟩
      have e2 : (eqD (.int w) (.int 2)).bind bOf = some (decide (w = 2)) := rfl
      simp only [notin_tx hmm hu, e2, askM, noexM, DL.orM, pure_bind]
      refine bk_then (K1 := 0) (P := fun _ => True) (bk_ite (fun _ => bk_pure trivial) fun _ => bk_pure trivial) fun b _ => ?_
      refine bk_seqP (K1 := 0) (SomeJ k (j + 1)) (bk_ite (fun _ => ?_) fun _ => bk_pure ⟨us, ms, rfl, hu, by omega, hm, by omega⟩) (fun q hq => bk_pure hq)
      have hj := (range_get hd).1
      simp only [apd_ok (show (us.map txD).length < 1000000 by rw [List.length_map]; omega), apd_ok (show (ms.map txD).length < 1000000 by rw [List.length_map]; omega), askM, pure_bind]
      exact bk_pure ⟨us ++ [m], ms ++ [m], by rw [List.map_append, List.map_append]; rfl, fun x h => by
          rcases List.mem_append.mp h with h | h
          · exact hu x h
          · rw [List.mem_singleton.mp h]; exact hmm, by rw [List.length_append, List.length_singleton]; omega, fun x h => by
          rcases List.mem_append.mp h with h | h
          · exact hm x h
          · rw [List.mem_singleton.mp h]; exact hmm, by rw [List.length_append, List.length_singleton]; omega⟩
    rintro q ⟨us, ms, rfl, hu, ul, hm, ml⟩
    have ll : lenD [.lst (ms.map txD)] = some (.int (ms.length : Int)) := by
      show some (D.int ((ms.map txD).length : Int)) = _
      rw [List.length_map]
    have g1 : (gtD (.int (ms.length : Int)) (.int 1)).bind bOf = some (decide (1 < ms.length)) := by
      rw [gt_l]
      show some (decide _) = _
      congr 1
      exact decide_eq_decide.mpr (by omega)
    simp only [ll, g1, askM, pure_bind]
    refine bk_seqP (K1 := 1) (fun q => ∃ gs : List Gp, q = gs.map encG ∧ (∀ g ∈ gs, GoodG g) ∧ gs.length ≤ k + 1) (bk_ite (fun c => ?_) fun _ => bk_pure ⟨gs, rfl, hg, by omega⟩) ?_
    · have c : 1 < ms.length := by simpa using c
      have tp : tupleD [.lst (ms.map txD)] = some (.tup (ms.map txD)) := rfl
      have gd : ∀ t : Bool, GoodG (.seq t (ms.map Sum.inl)) := fun t => ⟨t, ms, rfl, hm, by omega, ml⟩
      have e1 : encG (.seq true (ms.map Sum.inl)) = .tup (ms.map txD) := by show D.tup _ = _; rw [enc_inl]
      have e2 : encG (.seq false (ms.map Sum.inl)) = .lst (ms.map txD) := by show D.lst _ = _; rw [enc_inl]
      have st : ∀ t : Bool, (∃ gs' : List Gp, gs.map encG ++ [encG (.seq t (ms.map Sum.inl))] = gs'.map encG ∧ (∀ g ∈ gs', GoodG g) ∧ gs'.length ≤ k + 1) := fun t => ⟨gs ++ [.seq t (ms.map Sum.inl)], by rw [List.map_append]; rfl, fun x h => by
          rcases List.mem_append.mp h with h | h
          · exact hg x h
          · rw [List.mem_singleton.mp h]; exact gd t, by rw [List.length_append, List.length_singleton]; omega⟩
      refine bk_then (K1 := 1) (P := fun d => ∃ t : Bool, d = encG (.seq t (ms.map Sum.inl))) ?_ ?_
      · refine bk_iteM (K1 := 1) ?_ ?_ ?_
        · refine bk_then (take_okW (n := 2) (by omega) (by omega)) ?_
          rintro d ⟨a, rfl, _, _⟩
          simp only [eqi, askM]
          exact bk_pure trivial
        · rw [tp]
          exact bk_pure ⟨true, e1.symm⟩
        · exact bk_pure ⟨false, e2.symm⟩
      rintro d ⟨t, rfl⟩
      simp only [apd_ok (show (gs.map encG).length < 1000000 by rw [List.length_map]; omega), askM, pure_bind]
      exact bk_pure (st t)
    rintro q ⟨gs', rfl, hg', gl'⟩
    exact bk_pure ⟨gs', us, rfl, hg', gl', hu, by omega⟩
  rintro q ⟨gs, us, rfl, hg, gl, _, _⟩
  obtain ⟨l8, l2, hlab⟩ := hL
  cases zs with
  | nil => exact absurd rfl l8
  | cons z0 zr =>
    have hz0 := hlab z0 (.head _)
    have cz : ∀ c ∈ z0, c < 1114112 := fun c m => ch_lt ((isLab_iff.mp hz0).2.2 c m)
    have lz := (isLab_iff.mp hz0).2.1
    have ix0 : ixD (.lst ((z0 :: zr).map .str)) (.int 0) = some (.str z0) := by rw [ix_lst (by omega) (by simp)]; rfl
    have ad : addD (.str z0) (.str [46, 97]) = some (.str (z0 ++ [46, 97])) := add_ss (by simp; omega)
    have s2 : ∀ a b : D, szL [a, b] = some [a, b] := fun a b => sz_ok (by simp)
    have s1 : ∀ a : D, szL [a] = some [a] := fun a => sz_ok (by simp)
    have ng : (neD (.lst (gs.map encG)) (.lst [])).bind bOf = some (!(gs.map encG).isEmpty) := by
      rw [ne_nic (n := 5) (m := 4) (by
        rw [nic_lst]
        refine nicL_iff.mpr fun d m => ?_
        obtain ⟨g, hm, rfl⟩ := List.mem_map.mp m
        exact nic_group (good_ok (hg g hm))) rfl (by omega) (by omega)]
      cases gs.map encG <;> rfl
    simp only [s0, ng, ix0, ad, s1, s2, askM, noexM, pure_bind]
    cases gs with
    | cons g gs => exact bk_pure ⟨g :: gs, rfl, hg, by simp, gl⟩
    | nil =>
      refine bk_pure ⟨[.seq false ([[z0], [z0, [97]]].map Sum.inl)], ?_, fun g m => ?_, by simp, by simp⟩
      · show D.lst [.lst [.str z0, .str (z0 ++ [46, 97])]] = .lst [encG (.seq false ([[z0], [z0, [97]]].map Sum.inl))]
        rfl
      · rw [List.mem_singleton.mp m]
        refine ⟨false, _, rfl, fun m h => ?_, by simp, by simp⟩
        simp only [List.mem_cons, List.not_mem_nil, or_false] at h
        rcases h with rfl | rfl
        · exact ⟨fun z h => by rw [List.mem_singleton.mp h]; exact hz0, by simp, by simp⟩
        · exact ⟨fun z h => by
            simp only [List.mem_cons, List.not_mem_nil, or_false] at h
            rcases h with rfl | rfl
            · exact hz0
            · decide, by simp, by simp⟩
end FN
namespace FN
open DL PySem PySem.W
theorem seq_cases {g : Gp} (h : GpOk g) : isi2D "list" "tuple" (encG g) = some (.bl false) ∨ ∃ ds : List D, isi2D "list" "tuple" (encG g) = some (.bl true) ∧ lenD [encG g] = some (.int (ds.length : Int)) ∧ listD [encG g] = some ds ∧ ds.length ≤ 10 ∧ (∀ d ∈ ds, nic 3 d = true) ∧
    ∀ (i : Nat) (o : D), i < ds.length → BadH o → ∃ g' : Gp, GpOk g' ∧ encG g' = .lst (ds.set i o) := by
  have nset : ∀ (ds : List D) (i : Nat) (o : D), (∀ d ∈ ds, nic 3 d = true) → BadH o → ∀ d ∈ ds.set i o, nic 3 d = true := fun ds i o h ho d m => by
    rcases List.mem_or_eq_of_mem_set m with m | rfl
    · exact h d m
    · exact ho.1
  cases g with
  | bad d =>
    obtain ⟨hn, i2 | ⟨ds, e, hl, hb⟩⟩ := h
    · exact .inl i2
    · have hds : ∀ x ∈ ds, nic 3 x = true := by
        rcases e with rfl | rfl
        · rw [nic_lst] at hn; exact nicL_iff.mp hn
        · rw [nic_tup] at hn; exact nicL_iff.mp hn
      refine .inr ⟨ds, by rcases e with rfl | rfl <;> rfl, by rcases e with rfl | rfl <;> rfl, by rcases e with rfl | rfl <;> rfl, hb, hds, fun i o hi ho => ⟨.bad (.lst (ds.set i o)), ⟨?_, .inr ⟨_, .inl rfl, ?_, ?_⟩⟩, rfl⟩⟩
      · rw [nic_lst]; exact nicL_iff.mpr (nset ds i o hds ho)
      · rw [List.length_set]; exact hl
      · rw [List.length_set]; exact hb
  | seq t L =>
    obtain ⟨l2, l4, hi⟩ := h
    have hds : ∀ x ∈ L.map encI, nic 3 x = true := fun x m => by
      obtain ⟨y, hy, rfl⟩ := List.mem_map.mp m
      exact nic_it (hi y hy)
    refine .inr ⟨L.map encI, by cases t <;> rfl, by cases t <;> rfl, by cases t <;> rfl, by rw [List.length_map]; omega, hds, fun i o h ho => ⟨.seq false (L.set i (.inr o)), ⟨by rw [List.length_set]; exact l2, by rw [List.length_set]; exact l4, fun x m => ?_⟩, ?_⟩⟩
    · rcases List.mem_or_eq_of_mem_set m with m | rfl
      · exact hi x m
      · exact ho
    · show D.lst ((L.set i (.inr o)).map encI) = _
      rw [List.map_set]
      rfl
def payE : Er → D
  | .group d => d
  | .host d => d
  | .twice m => txD m
theorem res_nic {T : List Hst} {g : Gp} {e : Er} (hg : GpOk g) (h : resG T g = .inl e) : nic 4 (payE e) = true := by
  cases g with
  | bad d => cases h; exact hg.1
  | seq t L =>
    rw [resG_seq] at h
    cases hf : fstI L with
    | some d =>
      rw [hf] at h
      cases h
      have fb := fst_bads L
      rw [hf] at fb
      have : d ∈ badsI L := List.mem_of_mem_head? fb.symm
      exact nic_mono 3 4 _ (by omega) (bads_mem hg.2.2 d this).1
    | none =>
      rw [hf] at h
      simp only [] at h
      cases hd : dupH T (hostsI L) with
      | none => rw [hd] at h; cases h
      | some m =>
        rw [hd] at h
        cases h
        obtain ⟨a, _, _⟩ := hosts_ok hg.2.2 hf
        have : ∀ (hs T : List Hst), dupH T hs = some m → m ∈ hs := by
          intro hs
          induction hs with
          | nil => intro T h; cases h
          | cons x hs ih =>
            intro T h
            unfold dupH at h
            split at h
            · cases h; exact .head _
            · exact .tail _ (ih _ h)
        exact nic_txD (a m (this _ _ hd))
theorem due_nic : ∀ {gs : List Gp} {T : List Hst} {e : Er}, (∀ g ∈ gs, GpOk g) → dueG T gs = some e → nic 4 (payE e) = true
  | [], _, _, _, h => by cases h
  | g :: gs, T, e, hg, h => by
    have h : (match resG T g with | .inl e => some e | .inr hs => dueG (T ++ hs) gs) = some e := h
    cases hr : resG T g with
    | inl e' => rw [hr] at h; cases h; exact res_nic (hg g (.head _)) hr
    | inr hs => rw [hr] at h; exact due_nic (fun x k => hg x (.tail _ k)) h
def wrongH (z z1 : List Nat) : List D := [.tup [], .lst [.str z], .str z, .non, .bl true, .int 0, .tup (List.replicate 21 [D.str z]).flatten, .tup [.str z, .str []], .tup [.tup [.str [97]]], .tup [.str z1, .int 3]]
theorem wrongH_ok {z z1 : List Nat} (hz : isLab 20 z = true) (hz1 : isLab 20 z1 = true) : ∀ d ∈ wrongH z z1, nic 3 d = true ∧ m_is_host_45ba [d] = .ok (.bl false) := by
  have cz : ∀ c ∈ z, c < 1114112 := fun c m => ch_lt ((isLab_iff.mp hz).2.2 c m)
  have cz1 : ∀ c ∈ z1, c < 1114112 := fun c m => ch_lt ((isLab_iff.mp hz1).2.2 c m)
  have fl : (List.replicate 21 [D.str z]).flatten = List.replicate 21 (.str z) := rfl
  intro d m
  simp only [wrongH, List.mem_cons, List.not_mem_nil, or_false] at m
  rcases m with rfl | rfl | rfl | rfl | rfl | rfl | rfl | rfl | rfl | rfl
  · exact ⟨rfl, (is_host_ok (T := "tuple") rfl (by simp [kids])).trans rfl⟩
  · exact ⟨by rw [nic_lst]; exact nic_one cz, (is_host_ok (T := "list") rfl (by simp [kids, tyD])).trans rfl⟩
  · exact ⟨nic_str cz, (is_host_ok (T := "str") rfl (by simp [kids])).trans rfl⟩
  · exact ⟨rfl, (is_host_ok (T := "NoneType") rfl (by simp [kids])).trans rfl⟩
  · exact ⟨rfl, (is_host_ok (T := "bool") rfl (by simp [kids])).trans rfl⟩
  · exact ⟨rfl, (is_host_ok (T := "int") rfl (by simp [kids])).trans rfl⟩
  · rw [fl]
    refine ⟨?_, (is_host_ok (T := "tuple") rfl (by simp [kids, tyD])).trans ?_⟩
    · rw [nic_tup]
      exact nicL_iff.mpr fun d m => by rw [List.eq_of_mem_replicate m]; exact nic_str cz
    · congr 2
  · refine ⟨?_, (is_host_ok (T := "tuple") rfl (by simp [kids, tyD])).trans ?_⟩
    · rw [nic_tup]
      refine nicL_iff.mpr fun d m => ?_
      simp only [List.mem_cons, List.not_mem_nil, or_false] at m
      rcases m with rfl | rfl
      · exact nic_str cz
      · rfl
    · show R.ok (D.bl ((decide (2 ≤ 20) && (isLab 20 z && (isLab 20 [] && true))) && true)) = _
      rw [hz]; rfl
  · refine ⟨rfl, (is_host_ok (T := "tuple") rfl (by simp [kids, tyD])).trans rfl⟩
  · refine ⟨?_, (is_host_ok (T := "tuple") rfl (by simp [kids, tyD])).trans ?_⟩
    · rw [nic_tup]
      refine nicL_iff.mpr fun d m => ?_
      simp only [List.mem_cons, List.not_mem_nil, or_false] at m
      rcases m with rfl | rfl
      · exact nic_str cz1
      · rfl
    · show R.ok (D.bl ((decide (2 ≤ 20) && (isLab 20 z1 && (false && true))) && true)) = _
      rw [hz1]; rfl
end FN
namespace FN
open DL PySem PySem.W
theorem law_ok71 {ns : List Int} (hn : ns.length ≤ 63) : OkR (m_law_ef94 [.scr ns]) fun d => d = .bl true := by
  unfold m_law_ef94 apR1
  refine okr_runR ?_
  have sc : scrOf (.scr ns) = some ns := rfl
  simp only [e_law_ef94, sc, askR, pure_bind]
  obtain ⟨d, e, l, y, rfl, hl, y0, y1⟩ := bag_okW ns hn
  rw [e]
  simp only [noex_R, R.bind_eq, R.bd]
  refine okr_bagW (K := 10000) hl y0 y1 ?_
  refine bk_then pool_okX2 ?_
  rintro d ⟨zs, rfl, hL, zl⟩
  refine bk_then (some_ok hL) ?_
  rintro d ⟨gs0, rfl, hg0, n1, n5⟩
  obtain ⟨z0, z1, zr, rfl⟩ : ∃ z0 z1 zr, zs = z0 :: z1 :: zr := by
    match zs, zl with
    | a :: b :: r, _ => exact ⟨a, b, r, rfl⟩
  have hz0 := hL.2.2 z0 (.head _)
  have hz1 := hL.2.2 z1 (.tail _ (.head _))
  have ix0 : ixD (.lst ((z0 :: z1 :: zr).map .str)) (.int 0) = some (.str z0) := by rw [ix_lst (by omega) (by simp; omega)]; rfl
  have ix1 : ixD (.lst ((z0 :: z1 :: zr).map .str)) (.int 1) = some (.str z1) := by rw [ix_lst (by omega) (by simp; omega)]; rfl
  have lo : ∀ ds : List D, lstOf (.lst ds) = some ds := fun _ => rfl
  simp only [lo, askM, pure_bind]
  refine bk_then (take_okW (n := 3) (by omega) (by omega)) ?_
  rintro d ⟨k3, rfl, k30, k31⟩
  rw [rng1_ok (by omega) (by omega)]
  simp only [askM, pure_bind]
  have fl : ∀ i : Int, flatD (.int i) = some (.int i) := fun _ => rfl
  have fb : ∀ b : Bool, flatD (.bl b) = some (.bl b) := fun _ => rfl
  refine bk_seqP (K1 := 20) (fun q => ∃ gs : List Gp, q = gs.map encG ∧ gs.length = gs0.length ∧ ∀ g ∈ gs, GpOk g) (bk_for (n := 2) 10 (fun _ q => ∃ gs : List Gp, q = gs.map encG ∧ gs.length = gs0.length ∧ ∀ g ∈ gs, GpOk g) _ _ ⟨gs0, rfl, rfl, fun g m => good_ok (hg0 g m)⟩ (fun k d a hd ha => ⟨d, rfl, ?_⟩) (fun a ha => ha) (by rw [range_len]; omega)) ?_
  · obtain ⟨gs, rfl, gl, hg⟩ := ha
    have ll : lenD [.lst (gs.map encG)] = some (.int (gs.length : Int)) := by
      show some (D.int ((gs.map encG).length : Int)) = _
      rw [List.length_map]
    simp only [ll, fl, askM, noexM, pure_bind]
    refine bk_then (take_okW (n := (gs.length : Int)) (by omega) (by omega)) ?_
    rintro d ⟨j, rfl, j0, j1⟩
    have hj : j.toNat < gs.length := by omega
    have ixg : ixD (.lst (gs.map encG)) (.int j) = some (encG gs[j.toNat]) := by
      rw [ix_lst j0 (by rw [List.length_map]; exact j1)]
      simp
    have hgj := hg _ (List.getElem_mem hj)
    have st : ∀ o : D, setI (gs.map encG) (.int j) o = some ((gs.map encG).set j.toNat o) := fun o => set_ok j0 (by rw [List.length_map]; exact j1)
    have fin : ∀ g' : Gp, GpOk g' → ∃ gs' : List Gp, (gs.map encG).set j.toNat (encG g') = gs'.map encG ∧ gs'.length = gs0.length ∧ ∀ g ∈ gs', GpOk g := fun g' h => ⟨gs.set j.toNat g', by rw [List.map_set], by rw [List.length_set]; exact gl, fun x m => by
      rcases List.mem_or_eq_of_mem_set m with m | rfl
      · exact hg x m
      · exact h⟩
    simp only [ixg, askM, pure_bind]
    refine bk_then (K1 := 1) (P := fun b => b = false → ∃ ds : List D, 0 < ds.length ∧ isi2D "list" "tuple" (encG gs[j.toNat]) = some (.bl true) ∧ lenD [encG gs[j.toNat]] = some (.int (ds.length : Int)) ∧ listD [encG gs[j.toNat]] = some ds ∧ ds.length ≤ 10 ∧ (∀ d ∈ ds, nic 3 d = true) ∧ ∀ (i : Nat) (o : D), i < ds.length → BadH o → ∃ g' : Gp, GpOk g' ∧ encG g' = .lst (ds.set i o)) ?_ ?_
    · unfold DL.orM
      simp only [bind_assoc]
      refine bk_then (take_okW (n := 3) (by omega) (by omega)) ?_
      rintro d ⟨a, rfl, _, _⟩
      simp only [eqi, askM, pure_bind]
      refine bk_ite (fun _ => bk_pure fun h => by cases h) fun _ => ?_
      rcases seq_cases hgj with h | ⟨ds, h1, h2, h3, h4, h5, h6⟩
      · simp only [h, askM, noexM, fb, pure_bind, tru_bl, DL.notM, Bool.not_false, if_true]
        exact bk_pure fun h => by cases h
      · have e0 : (eqD (.int (ds.length : Int)) (.int 0)).bind bOf = some (decide (ds.length = 0)) := by
          show some (decide _) = _
          congr 1
          exact decide_eq_decide.mpr (by omega)
        simp only [h1, h2, e0, askM, noexM, fb, pure_bind, tru_bl, DL.notM, Bool.not_true, Bool.false_eq_true, if_false]
        refine bk_pure fun h => ?_
        have : ¬ ds.length = 0 := of_decide_eq_false h
        exact ⟨ds, by omega, trivial, rfl, h3, h4, h5, h6⟩
    intro b hb
    refine bk_seqP (K1 := 5) (fun q => ∃ gs : List Gp, q = gs.map encG ∧ gs.length = gs0.length ∧ ∀ g ∈ gs, GpOk g) (bk_ite (fun _ => ?_) fun c => ?_) (fun q hq => bk_pure hq)
    · simp only [ix0, askM, pure_bind]
      refine bk_then (odd_group_ok hz0) ?_
      intro o ho
      simp only [st, askM, pure_bind]
      obtain ⟨gs', e, r⟩ := fin (.bad o) ho
      exact bk_pure ⟨gs', e, r⟩
    · obtain ⟨ds, d0, h1, h2, h3, h4, h5, h6⟩ := hb (by simpa using c)
      have ld : lenD [.lst ds] = some (.int (ds.length : Int)) := rfl
      simp only [h3, sz_ok (show ds.length ≤ 1000000 by omega), ix1, askM, pure_bind]
      refine bk_then (odd_host_ok hz1) ?_
      intro o ho
      simp only [ld, fl, askM, noexM, pure_bind]
      refine bk_then (take_okW (n := (ds.length : Int)) (by omega) (by omega)) ?_
      rintro d ⟨i, rfl, i0, i1⟩
      obtain ⟨g', hg', eg'⟩ := h6 i.toNat o (by omega) ho
      simp only [set_ok (ds := ds) (d := o) i0 i1, st, askM, pure_bind]
      obtain ⟨gs', e, r⟩ := fin g' hg'
      rw [← eg']
      exact bk_pure ⟨gs', e, r⟩
  rintro q ⟨gs, rfl, gl, hg⟩
  have s0 : szL [] = some [] := sz_ok (by simp)
  have s1 : ∀ a : D, szL [a] = some [a] := fun a => sz_ok (by simp)
  have s2 : ∀ a b : D, szL [a, b] = some [a, b] := fun a b => sz_ok (by simp)
  have du := due71 hg (by omega)
  have ma := made71 (xs := gs.map encG) (by rw [List.length_map]; omega) (by rw [List.length_map]; omega)
  have ii := init71 hg (by omega)
  have nv : (notV (pure (.bl false)) : M D) = pure (.bl true) := rfl
  have isNt : ∀ a : List D, (isNotD (.tup a) .non).bind bOf = some true := fun _ => rfl
  have ht : ∀ a : List D, isiD "tuple" (.tup a) = some (.bl true) := fun _ => rfl
  have i0 : ∀ a b : D, ixD (.tup [a, b]) (.int 0) = some a := fun _ _ => rfl
  have i1 : ∀ a b : D, ixD (.tup [a, b]) (.int 1) = some b := fun _ _ => rfl
  have c2 : eqD (.lst [.bl true, .bl true]) (.lst [.bl true, .bl true]) = some (.bl true) := rfl
  have ek : ∀ z : List Nat, (∀ c ∈ z, c < 1000) → eqD (.str z) (.str z) = some (.bl true) := fun z hz => by
    have n0 : nic 2 (.str z) = true := nic_str fun c m => by have := hz c m; omega
    rw [eq_nic n0 n0 (by omega) (by omega), deq_refl 2 _ n0]
  have k1 := ek kGroup (by decide)
  have k2 := ek kHost (by decide)
  have k3 := ek kTwice7 (by decide)
  have k4 := ek kMany7 (by decide)
  simp only [du, lift_M, s0, ma, askM, pure_bind]
  cases hd : dueG [] gs with
  | some e =>
    rw [hd] at ii
    simp only [] at ii
    have hnp := due_nic hg hd
    have sm := same71 (by omega) hnp
    cases e with
    | group d =>
      simp only [ii, exE, exbind, duE]
      rw [tryM_ex (e := ⟨"BadGroup", "group", d⟩) List.mem_cons_self]
      simp only [pickC, if_true]
      have sm : m__law_same_9288 [d, d] = .ok (.bl true) := sm
      simp only [s2, nv, askM, lift_M, noexM, pure_bind, sqM1, isNt, if_true, andV, ht, tru_bl, i0, i1]
      rw [show ([103, 114, 111, 117, 112] : List Nat) = kGroup from rfl]
      simp only [k1, askM, pure_bind, tru_bl, if_true, sm, lift_M, c2]
      exact bk_pure rfl
    | host d =>
      simp only [ii, exE, exbind, duE]
      rw [tryM_ex (e := ⟨"BadHost", "host", d⟩) (List.mem_cons_of_mem _ List.mem_cons_self)]
      simp only [pickC]
      rw [if_neg (by decide +kernel)]
      have sm : m__law_same_9288 [d, d] = .ok (.bl true) := sm
      simp only [if_true, s2, nv, askM, lift_M, noexM, pure_bind, sqM1, isNt, if_true, andV, ht, tru_bl, i0, i1]
      rw [show ([104, 111, 115, 116] : List Nat) = kHost from rfl]
      simp only [k2, askM, pure_bind, tru_bl, if_true, sm, lift_M, c2]
      exact bk_pure rfl
    | twice m =>
      simp only [ii, exE, exbind, duE]
      rw [tryM_ex (e := ⟨"Twice", "name", txD m⟩) (List.mem_cons_of_mem _ (List.mem_cons_of_mem _ (List.mem_cons_of_mem _ List.mem_cons_self)))]
      simp only [pickC]
      rw [if_neg (by decide +kernel), if_neg (by decide +kernel)]
      have sm : m__law_same_9288 [txD m, txD m] = .ok (.bl true) := sm
      simp only [if_true, s2, nv, askM, lift_M, noexM, pure_bind, sqM1, isNt, if_true, andV, ht, tru_bl, i0, i1]
      rw [show ([116, 119, 105, 99, 101] : List Nat) = kTwice7 from rfl]
      simp only [k3, askM, pure_bind, tru_bl, if_true, sm, lift_M, c2]
      exact bk_pure rfl
  | none =>
    rw [hd] at ii
    simp only [] at ii
    by_cases c4 : 4 < gs.length
    · rw [if_pos c4] at ii
      have sm := same71 (d := .int 4) (n := 3) (by omega) rfl
      simp only [ii, exbind, if_pos c4]
      rw [tryM_ex (e := ⟨"TooMany", "limit", .int 4⟩) (List.mem_cons_of_mem _ (List.mem_cons_of_mem _ List.mem_cons_self))]
      simp only [pickC]
      rw [if_neg (by decide +kernel), if_neg (by decide +kernel), if_neg (by decide +kernel)]
      simp only [if_true, s2, nv, askM, lift_M, noexM, pure_bind, sqM1, isNt, if_true, andV, ht, tru_bl, i0, i1]
      rw [show ([109, 97, 110, 121] : List Nat) = kMany7 from rfl]
      simp only [k4, askM, pure_bind, tru_bl, if_true, sm, lift_M, c2]
      exact bk_pure rfl
    · rw [if_neg c4] at ii
      have isN0 : (isNotD .non .non).bind bOf = some false := rfl
      have isT : isiT [("Groups", true)] noneOfB (.ins "Groups" ["hosts", "groups"] [.tup ((gs.map hostsG).map grD), .tup ((gs.map hostsG).map grT)]) = some (.bl true) := rfl
      have fd : fldD ["Groups"] "groups" (.ins "Groups" ["hosts", "groups"] [.tup ((gs.map hostsG).map grD), .tup ((gs.map hostsG).map grT)]) = some (.tup ((gs.map hostsG).map grT)) := rfl
      have il : itD (.lst (gs.map encG)) = some (gs.map encG) := rfl
      have tt : ∀ ds : List D, tupleD [.lst ds] = some (.tup ds) := fun _ => rfl
      have lc : (lcF (fun d => some d) (fun (c185 : D) => (pure true : M Bool)) (fun (c185 : D) => (DL.ask (tupleD [c185]))) (gs.map encG) : M (List D)) = pure ((gs.map hostsG).map grT) := by
        have := lc_mapG (xe := fun (c185 : D) => (DL.ask (tupleD [c185]) : M D)) encG (fun g => grT (hostsG g)) gs (fun g m => by rw [(due_none hg hd g m).2]; rfl)
        rw [this, List.map_map]; rfl
      have nt : nic 3 (.tup ((gs.map hostsG).map grT)) = true := by
        rw [nic_tup]
        refine nicL_iff.mpr fun d m => ?_
        obtain ⟨h, hm, rfl⟩ := List.mem_map.mp m
        obtain ⟨g, gm, rfl⟩ := List.mem_map.mp hm
        show nic 2 (.tup ((hostsG g).map txD)) = true
        rw [nic_tup]
        refine nicL_iff.mpr fun d m => ?_
        obtain ⟨h, hm, rfl⟩ := List.mem_map.mp m
        exact nic_txD ((due_none hg hd g gm).1 h hm)
      have ne : (neD (.tup ((gs.map hostsG).map grT)) (.tup ((gs.map hostsG).map grT))).bind bOf = some false := by
        rw [ne_nic nt nt (by omega) (by omega), deq_refl 3 _ nt]; rfl
      have lm : ∀ {α : Type} (a : α), (Mo.lift (pure a : R α) : M α) = pure a := fun _ => rfl
      have mt : mulTD (.tup [.str z0]) (.int 21) = some (.tup (List.replicate 21 [D.str z0]).flatten) := by
        show (if [D.str z0] ≠ [] ∧ (2 : Int) ≤ 21 ∧ (21 : Int) ≤ 1000 ∧ [D.str z0].length ≤ 1000 then some (D.tup (List.replicate (21 : Int).toNat [D.str z0]).flatten) else none) = _
        rw [if_pos ⟨by simp, by omega, by omega, by simp⟩]
        rfl
      have s10 : ∀ a b c d e f g h i j : D, szL [a, b, c, d, e, f, g, h, i, j] = some [a, b, c, d, e, f, g, h, i, j] := fun a b c d e f g h i j => sz_ok (by simp)
      simp only [ii, okpR, pure_bind, if_neg c4, lm, tryM_ok, sqM1, isN0, askM, Bool.false_eq_true, if_false, isT, tru_bl, DL.notM, DL.orM, Bool.not_true, fd, il, lc, tt, ne, ix0, ix1, s0, s1, s2, mt, s10]
      refine bk_then (of_okW (ds := wrongH z0 z1) (by simp [wrongH]) (by simp [wrongH])) ?_
      intro d hdm
      obtain ⟨w1, w2⟩ := wrongH_ok hz0 hz1 d hdm
      have ww := wrong71 (kin := gs.map hostsG) w1 w2
      simp only [ww, lift_M, pure_bind]
      exact bk_pure rfl
theorem law_ef94_true (ns : List Int) (hn : ns.length ≤ 63) : m_law_ef94 [.scr ns] = .ok (.bl true) := by
  obtain ⟨d, e, rfl⟩ := law_ok71 hn
  exact e
end FN
/-! ### offeredentry_k71_groups_refused: the program in the data layer (printed) -/
namespace K71
open PySem L2 DL FN
def top (i : Nat) : Stmt := PySem.Challenge.pw_offeredentry_k71_groups_refused.main.body.getD i (.Pass ⟨0, 0, 0, 0⟩)
def topC (i j : Nat) : Stmt := match top i with
  | .ClassDef _ _ _ body _ _ _ _ _ _ _ => body.getD j (.Pass ⟨0, 0, 0, 0⟩)
  | _ => .Pass ⟨0, 0, 0, 0⟩
abbrev s_is_label : Stmt := top 10
abbrev N_is_label : List Str := ["thing", "sign"]
theorem sc_is_label : FnScope N_is_label ["thing"] (defScope s_is_label) := ⟨rfl, rfl, rfl, by decide +kernel, rfl, by decide +kernel, by decide +kernel⟩
abbrev s_row_key : Stmt := top 15
abbrev s_ends_with : Stmt := top 18
abbrev N_ends_with : List Str := ["host", "labels"]
theorem sc_ends_with : FnScope N_ends_with ["host", "labels"] (defScope s_ends_with) := ⟨rfl, rfl, rfl, by decide +kernel, rfl, by decide +kernel, by decide +kernel⟩
abbrev s__law_bag : Stmt := top 29
abbrev N__law_bag : List Str := ["_law_script", "_law_seed", "_law_cell"]
theorem sc__law_bag : FnScope N__law_bag ["_law_script"] (defScope s__law_bag) := ⟨rfl, rfl, rfl, by decide +kernel, rfl, by decide +kernel, by decide +kernel⟩
abbrev s__law_take : Stmt := top 30
abbrev N__law_take : List Str := ["_law_bag_here", "_law_many", "_law_mixed", "_law_digit"]
theorem sc__law_take : FnScope N__law_take ["_law_bag_here", "_law_many"] (defScope s__law_take) := ⟨rfl, rfl, rfl, by decide +kernel, rfl, by decide +kernel, by decide +kernel⟩
abbrev s__law_is_good : Stmt := top 37
abbrev N__law_is_good : List Str := ["_law_thing", "_law_label_here", "_law_sign"]
theorem sc__law_is_good : FnScope N__law_is_good ["_law_thing"] (defScope s__law_is_good) := ⟨rfl, rfl, rfl, by decide +kernel, rfl, by decide +kernel, by decide +kernel⟩
abbrev s__law_same : Stmt := top 39
abbrev N__law_same : List Str := ["_law_one", "_law_other"]
theorem sc__law_same : FnScope N__law_same ["_law_one", "_law_other"] (defScope s__law_same) := ⟨rfl, rfl, rfl, by decide +kernel, rfl, by decide +kernel, by decide +kernel⟩
abbrev s_is_path : Stmt := top 11
abbrev N_is_path : List Str := ["thing", "label"]
theorem sc_is_path : FnScope N_is_path ["thing"] (defScope s_is_path) := ⟨rfl, rfl, rfl, by decide +kernel, rfl, by decide +kernel, by decide +kernel⟩
abbrev s_host_key : Stmt := top 16
abbrev s_member_and_head : Stmt := top 24
abbrev N_member_and_head : List Str := ["groups", "host", "best", "group", "member"]
theorem sc_member_and_head : FnScope N_member_and_head ["groups", "host"] (defScope s_member_and_head) := ⟨rfl, rfl, rfl, by decide +kernel, rfl, by decide +kernel, by decide +kernel⟩
abbrev s__law_of : Stmt := top 31
abbrev N__law_of : List Str := ["_law_bag_here", "_law_some_here"]
theorem sc__law_of : FnScope N__law_of ["_law_bag_here", "_law_some_here"] (defScope s__law_of) := ⟨rfl, rfl, rfl, by decide +kernel, rfl, by decide +kernel, by decide +kernel⟩
abbrev s__law_label : Stmt := top 32
abbrev N__law_label : List Str := ["_law_bag_here", "_law_most", "_law_signs", "_law_k"]
theorem sc__law_label : FnScope N__law_label ["_law_bag_here", "_law_most"] (defScope s__law_label) := ⟨rfl, rfl, rfl, by decide +kernel, rfl, by decide +kernel, by decide +kernel⟩
abbrev s__law_due : Stmt := top 38
abbrev N__law_due : List Str := ["_law_some_here", "_law_taken", "_law_group", "_law_bad", "_law_text", "_law_thing"]
theorem sc__law_due : FnScope N__law_due ["_law_some_here"] (defScope s__law_due) := ⟨rfl, rfl, rfl, by decide +kernel, rfl, by decide +kernel, by decide +kernel⟩
abbrev s_is_host : Stmt := top 12
abbrev N_is_host : List Str := ["thing"]
theorem sc_is_host : FnScope N_is_host ["thing"] (defScope s_is_host) := ⟨rfl, rfl, rfl, by decide +kernel, rfl, by decide +kernel, by decide +kernel⟩
abbrev s_moved : Stmt := top 25
abbrev N_moved : List Str := ["groups", "host", "found", "member", "head"]
theorem sc_moved : FnScope N_moved ["groups", "host"] (defScope s_moved) := ⟨rfl, rfl, rfl, by decide +kernel, rfl, by decide +kernel, by decide +kernel⟩
abbrev s__law_pool : Stmt := top 33
abbrev N__law_pool : List Str := ["_law_bag_here", "_law_longest", "_law_most", "_law_k"]
theorem sc__law_pool : FnScope N__law_pool ["_law_bag_here", "_law_longest"] (defScope s__law_pool) := ⟨rfl, rfl, rfl, by decide +kernel, rfl, by decide +kernel, by decide +kernel⟩
abbrev s__law_odd_group : Stmt := top 35
abbrev N__law_odd_group : List Str := ["_law_bag_here", "_law_text", "_law_some_here"]
theorem sc__law_odd_group : FnScope N__law_odd_group ["_law_bag_here", "_law_text"] (defScope s__law_odd_group) := ⟨rfl, rfl, rfl, by decide +kernel, rfl, by decide +kernel, by decide +kernel⟩
abbrev s__law_odd_host : Stmt := top 36
abbrev N__law_odd_host : List Str := ["_law_bag_here", "_law_text", "_law_some_here"]
theorem sc__law_odd_host : FnScope N__law_odd_host ["_law_bag_here", "_law_text"] (defScope s__law_odd_host) := ⟨rfl, rfl, rfl, by decide +kernel, rfl, by decide +kernel, by decide +kernel⟩
abbrev s__law_some : Stmt := top 41
abbrev N__law_some : List Str := ["_law_bag_here", "_law_pool_here", "_law_k", "_law_some_here", "_law_used", "_law_odd", "_law_group", "_law_j", "_law_text", "_law_i"]
theorem sc__law_some : FnScope N__law_some ["_law_bag_here", "_law_pool_here"] (defScope s__law_some) := ⟨rfl, rfl, rfl, by decide +kernel, rfl, by decide +kernel, by decide +kernel⟩
abbrev s_host_of : Stmt := top 13
abbrev N_host_of : List Str := ["text"]
theorem sc_host_of : FnScope N_host_of ["text"] (defScope s_host_of) := ⟨rfl, rfl, rfl, by decide +kernel, rfl, by decide +kernel, by decide +kernel⟩
abbrev s_host_text : Stmt := top 14
abbrev N_host_text : List Str := ["host"]
theorem sc_host_text : FnScope N_host_text ["host"] (defScope s_host_text) := ⟨rfl, rfl, rfl, by decide +kernel, rfl, by decide +kernel, by decide +kernel⟩
abbrev s_Groups_translated : Stmt := topC 27 3
abbrev N_Groups_translated : List Str := ["self", "host"]
theorem sc_Groups_translated : FnScope N_Groups_translated ["self", "host"] (defScope s_Groups_translated) := ⟨rfl, rfl, rfl, by decide +kernel, rfl, by decide +kernel, by decide +kernel⟩
abbrev s_Groups_origins : Stmt := topC 27 6
abbrev N_Groups_origins : List Str := ["self", "host", "found", "group", "one", "member"]
theorem sc_Groups_origins : FnScope N_Groups_origins ["self", "host"] (defScope s_Groups_origins) := ⟨rfl, rfl, rfl, by decide +kernel, rfl, by decide +kernel, by decide +kernel⟩
abbrev s_checked_group : Stmt := top 26
abbrev N_checked_group : List Str := ["group", "taken", "hosts", "text", "host", "at"]
theorem sc_checked_group : FnScope N_checked_group ["group", "taken"] (defScope s_checked_group) := ⟨rfl, rfl, rfl, by decide +kernel, rfl, by decide +kernel, by decide +kernel⟩
abbrev s_Groups_member : Stmt := topC 27 4
abbrev N_Groups_member : List Str := ["self", "host", "found"]
theorem sc_Groups_member : FnScope N_Groups_member ["self", "host"] (defScope s_Groups_member) := ⟨rfl, rfl, rfl, by decide +kernel, rfl, by decide +kernel, by decide +kernel⟩
abbrev s__law_wrong_hosts : Stmt := top 40
abbrev N__law_wrong_hosts : List Str := ["_law_made_here", "_law_thing", "_law_found", "e"]
theorem sc__law_wrong_hosts : FnScope N__law_wrong_hosts ["_law_made_here", "_law_thing"] (defScope s__law_wrong_hosts) := ⟨rfl, rfl, rfl, by decide +kernel, rfl, by decide +kernel, by decide +kernel⟩
abbrev s_Groups_init : Stmt := topC 27 0
abbrev N_Groups_init : List Str := ["self", "groups", "group", "found", "taken", "hosts", "host"]
theorem sc_Groups_init : FnScope N_Groups_init ["self", "groups"] (defScope s_Groups_init) := ⟨rfl, rfl, rfl, by decide +kernel, rfl, by decide +kernel, by decide +kernel⟩
abbrev s__law_made : Stmt := top 34
abbrev N__law_made : List Str := ["_law_some_here"]
theorem sc__law_made : FnScope N__law_made ["_law_some_here"] (defScope s__law_made) := ⟨rfl, rfl, rfl, by decide +kernel, rfl, by decide +kernel, by decide +kernel⟩
abbrev s_law : Stmt := top 42
abbrev N_law : List Str := ["_law_script", "_law_bag_here", "_law_pool_here", "_law_some_here", "_law_k", "e", "_law_wrong", "_law_at", "_law_due_here", "_law_told", "_law_classes", "_law_group"]
theorem sc_law : FnScope N_law ["_law_script"] (defScope s_law) := ⟨rfl, rfl, rfl, by decide +kernel, rfl, by decide +kernel, by decide +kernel⟩
structure Ad where
  a_is_label : Addr
  f_is_label : FuncData
  a_row_key : Addr
  f_row_key : FuncData
  a_ends_with : Addr
  f_ends_with : FuncData
  a__law_bag : Addr
  f__law_bag : FuncData
  a__law_take : Addr
  f__law_take : FuncData
  a__law_is_good : Addr
  f__law_is_good : FuncData
  a__law_same : Addr
  f__law_same : FuncData
  a_is_path : Addr
  f_is_path : FuncData
  a_host_key : Addr
  f_host_key : FuncData
  a_member_and_head : Addr
  f_member_and_head : FuncData
  a__law_of : Addr
  f__law_of : FuncData
  a__law_label : Addr
  f__law_label : FuncData
  a__law_due : Addr
  f__law_due : FuncData
  a_is_host : Addr
  f_is_host : FuncData
  a_moved : Addr
  f_moved : FuncData
  a__law_pool : Addr
  f__law_pool : FuncData
  a__law_odd_group : Addr
  f__law_odd_group : FuncData
  a__law_odd_host : Addr
  f__law_odd_host : FuncData
  a__law_some : Addr
  f__law_some : FuncData
  a_host_of : Addr
  f_host_of : FuncData
  a_host_text : Addr
  f_host_text : FuncData
  a_Groups_translated : Addr
  f_Groups_translated : FuncData
  a_Groups_origins : Addr
  f_Groups_origins : FuncData
  a_checked_group : Addr
  f_checked_group : FuncData
  a_Groups_member : Addr
  f_Groups_member : FuncData
  a__law_wrong_hosts : Addr
  f__law_wrong_hosts : FuncData
  a_Groups_init : Addr
  f_Groups_init : FuncData
  a__law_made : Addr
  f__law_made : FuncData
  a_law : Addr
  f_law : FuncData
  C_Groups : Addr
  x_BadGroup : Addr
  i_BadGroup : Addr
  x_BadHost : Addr
  i_BadHost : Addr
  x_TooMany : Addr
  i_TooMany : Addr
  x_Twice : Addr
  i_Twice : Addr
structure Txt (K : PySem.W.Frag) (mg : Str → Option Value) (A : Ad) : Prop where
  m_is_label : mg "is_label" = some (.ref A.a_is_label)
  F_is_label : Fun K "is_label" "is_label" s_is_label A.a_is_label A.f_is_label
  b_is_label : Binds K A.f_is_label ["thing"] []
  m_row_key : mg "row_key" = some (.ref A.a_row_key)
  F_row_key : Fun K "row_key" "row_key" s_row_key A.a_row_key A.f_row_key
  b_row_key : Binds K A.f_row_key ["row"] []
  m_ends_with : mg "ends_with" = some (.ref A.a_ends_with)
  F_ends_with : Fun K "ends_with" "ends_with" s_ends_with A.a_ends_with A.f_ends_with
  b_ends_with : Binds K A.f_ends_with ["host", "labels"] []
  m__law_bag : mg "_law_bag" = some (.ref A.a__law_bag)
  F__law_bag : Fun K "_law_bag" "_law_bag" s__law_bag A.a__law_bag A.f__law_bag
  b__law_bag : Binds K A.f__law_bag ["_law_script"] []
  m__law_take : mg "_law_take" = some (.ref A.a__law_take)
  F__law_take : Fun K "_law_take" "_law_take" s__law_take A.a__law_take A.f__law_take
  b__law_take : Binds K A.f__law_take ["_law_bag_here", "_law_many"] []
  m__law_is_good : mg "_law_is_good" = some (.ref A.a__law_is_good)
  F__law_is_good : Fun K "_law_is_good" "_law_is_good" s__law_is_good A.a__law_is_good A.f__law_is_good
  b__law_is_good : Binds K A.f__law_is_good ["_law_thing"] []
  m__law_same : mg "_law_same" = some (.ref A.a__law_same)
  F__law_same : Fun K "_law_same" "_law_same" s__law_same A.a__law_same A.f__law_same
  b__law_same : Binds K A.f__law_same ["_law_one", "_law_other"] []
  m_is_path : mg "is_path" = some (.ref A.a_is_path)
  F_is_path : Fun K "is_path" "is_path" s_is_path A.a_is_path A.f_is_path
  b_is_path : Binds K A.f_is_path ["thing"] []
  m_host_key : mg "host_key" = some (.ref A.a_host_key)
  F_host_key : Fun K "host_key" "host_key" s_host_key A.a_host_key A.f_host_key
  b_host_key : Binds K A.f_host_key ["host"] []
  m_member_and_head : mg "member_and_head" = some (.ref A.a_member_and_head)
  F_member_and_head : Fun K "member_and_head" "member_and_head" s_member_and_head A.a_member_and_head A.f_member_and_head
  b_member_and_head : Binds K A.f_member_and_head ["groups", "host"] []
  m__law_of : mg "_law_of" = some (.ref A.a__law_of)
  F__law_of : Fun K "_law_of" "_law_of" s__law_of A.a__law_of A.f__law_of
  b__law_of : Binds K A.f__law_of ["_law_bag_here", "_law_some_here"] []
  m__law_label : mg "_law_label" = some (.ref A.a__law_label)
  F__law_label : Fun K "_law_label" "_law_label" s__law_label A.a__law_label A.f__law_label
  b__law_label : Binds K A.f__law_label ["_law_bag_here", "_law_most"] []
  m__law_due : mg "_law_due" = some (.ref A.a__law_due)
  F__law_due : Fun K "_law_due" "_law_due" s__law_due A.a__law_due A.f__law_due
  b__law_due : Binds K A.f__law_due ["_law_some_here"] []
  m_is_host : mg "is_host" = some (.ref A.a_is_host)
  F_is_host : Fun K "is_host" "is_host" s_is_host A.a_is_host A.f_is_host
  b_is_host : Binds K A.f_is_host ["thing"] []
  m_moved : mg "moved" = some (.ref A.a_moved)
  F_moved : Fun K "moved" "moved" s_moved A.a_moved A.f_moved
  b_moved : Binds K A.f_moved ["groups", "host"] []
  m__law_pool : mg "_law_pool" = some (.ref A.a__law_pool)
  F__law_pool : Fun K "_law_pool" "_law_pool" s__law_pool A.a__law_pool A.f__law_pool
  b__law_pool : Binds K A.f__law_pool ["_law_bag_here", "_law_longest"] []
  m__law_odd_group : mg "_law_odd_group" = some (.ref A.a__law_odd_group)
  F__law_odd_group : Fun K "_law_odd_group" "_law_odd_group" s__law_odd_group A.a__law_odd_group A.f__law_odd_group
  b__law_odd_group : Binds K A.f__law_odd_group ["_law_bag_here", "_law_text"] []
  m__law_odd_host : mg "_law_odd_host" = some (.ref A.a__law_odd_host)
  F__law_odd_host : Fun K "_law_odd_host" "_law_odd_host" s__law_odd_host A.a__law_odd_host A.f__law_odd_host
  b__law_odd_host : Binds K A.f__law_odd_host ["_law_bag_here", "_law_text"] []
  m__law_some : mg "_law_some" = some (.ref A.a__law_some)
  F__law_some : Fun K "_law_some" "_law_some" s__law_some A.a__law_some A.f__law_some
  b__law_some : Binds K A.f__law_some ["_law_bag_here", "_law_pool_here"] []
  m_host_of : mg "host_of" = some (.ref A.a_host_of)
  F_host_of : Fun K "host_of" "host_of" s_host_of A.a_host_of A.f_host_of
  b_host_of : Binds K A.f_host_of ["text"] []
  m_host_text : mg "host_text" = some (.ref A.a_host_text)
  F_host_text : Fun K "host_text" "host_text" s_host_text A.a_host_text A.f_host_text
  b_host_text : Binds K A.f_host_text ["host"] []
  F_Groups_translated : Fun K "translated" "Groups.translated" s_Groups_translated A.a_Groups_translated A.f_Groups_translated
  b_Groups_translated : Binds K A.f_Groups_translated ["self", "host"] []
  F_Groups_origins : Fun K "origins" "Groups.origins" s_Groups_origins A.a_Groups_origins A.f_Groups_origins
  b_Groups_origins : Binds K A.f_Groups_origins ["self", "host"] []
  m_checked_group : mg "checked_group" = some (.ref A.a_checked_group)
  F_checked_group : Fun K "checked_group" "checked_group" s_checked_group A.a_checked_group A.f_checked_group
  b_checked_group : Binds K A.f_checked_group ["group", "taken"] []
  F_Groups_member : Fun K "member" "Groups.member" s_Groups_member A.a_Groups_member A.f_Groups_member
  b_Groups_member : Binds K A.f_Groups_member ["self", "host"] []
  m__law_wrong_hosts : mg "_law_wrong_hosts" = some (.ref A.a__law_wrong_hosts)
  F__law_wrong_hosts : Fun K "_law_wrong_hosts" "_law_wrong_hosts" s__law_wrong_hosts A.a__law_wrong_hosts A.f__law_wrong_hosts
  b__law_wrong_hosts : Binds K A.f__law_wrong_hosts ["_law_made_here", "_law_thing"] []
  F_Groups_init : Fun K "__init__" "Groups.__init__" s_Groups_init A.a_Groups_init A.f_Groups_init
  bs_Groups_init : ∀ us rest : List Value, us.length = 1 → bindArgs A.f_Groups_init ⟨us ++ rest, []⟩ = (newTuple rest >>= fun t => pure ((["self"] : List Str).zip us ++ [(("groups" : Str), t)]))
  m__law_made : mg "_law_made" = some (.ref A.a__law_made)
  F__law_made : Fun K "_law_made" "_law_made" s__law_made A.a__law_made A.f__law_made
  b__law_made : Binds K A.f__law_made ["_law_some_here"] []
  m_law : mg "law" = some (.ref A.a_law)
  F_law : Fun K "law" "law" s_law A.a_law A.f_law
  b_law : Binds K A.f_law ["_law_script"] []
  C_Groups : ClsN K mg "Groups" A.C_Groups
  na_Groups : ∀ f ∈ (["hosts", "groups"] : List Str), NoAttr K A.C_Groups f
  M_Groups : Mk K A.C_Groups A.a_Groups_init
  mt_Groups_member : Meth K A.C_Groups "member" A.a_Groups_member
  mt_Groups_origins : Meth K A.C_Groups "origins" A.a_Groups_origins
  mt_Groups_translated : Meth K A.C_Groups "translated" A.a_Groups_translated
  is_Groups : IsT K mg (.ref A.C_Groups) [("Groups", true)] noneOfB
  x_BadGroup : PySem.OwnX.OwnTxt K mg "BadGroup" "group" "BadGroup.__init__" A.x_BadGroup A.i_BadGroup
  x_BadHost : PySem.OwnX.OwnTxt K mg "BadHost" "host" "BadHost.__init__" A.x_BadHost A.i_BadHost
  x_TooMany : PySem.OwnX.OwnTxt K mg "TooMany" "limit" "TooMany.__init__" A.x_TooMany A.i_TooMany
  x_Twice : PySem.OwnX.OwnTxt K mg "Twice" "name" "Twice.__init__" A.x_Twice A.i_Twice
  e_BadGroup : ExcC K A.x_BadGroup
  e_BadHost : ExcC K A.x_BadHost
  e_TooMany : ExcC K A.x_TooMany
  e_Twice : ExcC K A.x_Twice
  ki_BadGroup_ValueError : PySem.W.kitOne K (.ref A.x_BadGroup) (.type "ValueError") = some true
  ki_BadHost_ValueError : PySem.W.kitOne K (.ref A.x_BadHost) (.type "ValueError") = some true
  ki_TooMany_OverflowError : PySem.W.kitOne K (.ref A.x_TooMany) (.type "OverflowError") = some true
  ki_Twice_ValueError : PySem.W.kitOne K (.ref A.x_Twice) (.type "ValueError") = some true
  ko_BadGroup_BadHost : PySem.W.kitOne K (.ref A.x_BadGroup) (.ref A.x_BadHost) = some false
  ko_BadGroup_TooMany : PySem.W.kitOne K (.ref A.x_BadGroup) (.ref A.x_TooMany) = some false
  ko_BadGroup_Twice : PySem.W.kitOne K (.ref A.x_BadGroup) (.ref A.x_Twice) = some false
  ko_BadHost_BadGroup : PySem.W.kitOne K (.ref A.x_BadHost) (.ref A.x_BadGroup) = some false
  ko_BadHost_TooMany : PySem.W.kitOne K (.ref A.x_BadHost) (.ref A.x_TooMany) = some false
  ko_BadHost_Twice : PySem.W.kitOne K (.ref A.x_BadHost) (.ref A.x_Twice) = some false
  ko_TooMany_BadGroup : PySem.W.kitOne K (.ref A.x_TooMany) (.ref A.x_BadGroup) = some false
  ko_TooMany_BadHost : PySem.W.kitOne K (.ref A.x_TooMany) (.ref A.x_BadHost) = some false
  ko_TooMany_Twice : PySem.W.kitOne K (.ref A.x_TooMany) (.ref A.x_Twice) = some false
  ko_Twice_BadGroup : PySem.W.kitOne K (.ref A.x_Twice) (.ref A.x_BadGroup) = some false
  ko_Twice_BadHost : PySem.W.kitOne K (.ref A.x_Twice) (.ref A.x_BadHost) = some false
  ko_Twice_TooMany : PySem.W.kitOne K (.ref A.x_Twice) (.ref A.x_TooMany) = some false
  k_BadGroup : Known K mg [("BadGroup", "group"), ("BadHost", "host"), ("TooMany", "limit"), ("Twice", "name")] "BadGroup" A.x_BadGroup
  k_BadHost : Known K mg [("BadGroup", "group"), ("BadHost", "host"), ("TooMany", "limit"), ("Twice", "name")] "BadHost" A.x_BadHost
  k_TooMany : Known K mg [("BadGroup", "group"), ("BadHost", "host"), ("TooMany", "limit"), ("Twice", "name")] "TooMany" A.x_TooMany
  k_Twice : Known K mg [("BadGroup", "group"), ("BadHost", "host"), ("TooMany", "limit"), ("Twice", "name")] "Twice" A.x_Twice
  z_BadRule : mg "BadRule" = none
  z_OverflowError : mg "OverflowError" = none
  z_ValueError : mg "ValueError" = none
  z_abs : mg "abs" = none
  z_bool : mg "bool" = none
  z_enumerate : mg "enumerate" = none
  z_int : mg "int" = none
  z_isinstance : mg "isinstance" = none
  z_len : mg "len" = none
  z_list : mg "list" = none
  z_range : mg "range" = none
  z_str : mg "str" = none
  z_tuple : mg "tuple" = none
  c_CHARACTERS : GlobIs K mg "CHARACTERS" c_CHARACTERS
  c_LEAST_OF_GROUP : GlobIs K mg "LEAST_OF_GROUP" c_LEAST_OF_GROUP
  c_LONGEST_LABEL : GlobIs K mg "LONGEST_LABEL" c_LONGEST_LABEL
  c_MOST_GROUPS : GlobIs K mg "MOST_GROUPS" c_MOST_GROUPS
  c_MOST_LABELS : GlobIs K mg "MOST_LABELS" c_MOST_LABELS
  c_MOST_LABELS_OF_MEMBER : GlobIs K mg "MOST_LABELS_OF_MEMBER" c_MOST_LABELS_OF_MEMBER
  c_MOST_OF_GROUP : GlobIs K mg "MOST_OF_GROUP" c_MOST_OF_GROUP
section
variable {P : Program} {w : World} {K : PySem.W.Frag} {mg : Str → Option Value} {base : Heap} {A : Ad}
theorem fo_groups (T : Txt K mg A) : FldOk K mg "groups" ["Groups"] := fun c hc => by
  simp only [List.mem_cons, List.not_mem_nil, or_false] at hc
  rcases hc with rfl
  · exact ⟨_, T.C_Groups.mg, T.C_Groups.cl, T.na_Groups _ (by decide +kernel)⟩
theorem fo_hosts (T : Txt K mg A) : FldOk K mg "hosts" ["Groups"] := fun c hc => by
  simp only [List.mem_cons, List.not_mem_nil, or_false] at hc
  rcases hc with rfl
  · exact ⟨_, T.C_Groups.mg, T.C_Groups.cl, T.na_Groups _ (by decide +kernel)⟩
theorem g_is_label (T : Txt K mg A) : FnG P w K mg base 1 A.a_is_label A.f_is_label ["thing"] (spR K mg false 1 m_is_label_344b) := by
  refine fnR (nr := false) (k := 0) T.F_is_label sc_is_label rfl (by decide) (fun cdv Ar outer s H Hf E ds C hl => ?_)
  match ds, hl with
  | [a0], _ => exact ⟨b_is_label_344b a0, (dss_if (exA := fun (q7 : Unit) => [.im a0, .un]) (dw_or (dt_not (dt_tru (de_isi "str" (de_var 0) (by rfl) T.z_isinstance (by rfl) T.z_str rfl))) (dw_or1 (dt_not (dt_chain (od_le C.rm.units) (od_le C.rm.units) de_int (de_callB oc_len (by rfl) T.z_len rfl (da_cons (de_var 0) da_nil)) (de_globI (by rfl) T.c_LONGEST_LABEL))))).pt (dss_ret de_bl) (dss_nil (a := ()) (And.intro (Or.inl rfl) (And.intro (Or.inr rfl) (trivial)))) fun q7 => (dss_ret (de_not (de_frz (df_lc [("sign", 1)] C (di_any (de_var 0)) (blkOk_by (N := N_is_label) (sc := defScope s_is_label) (by decide +kernel)) (fun s H A cl fp => (pgd_name (C.blk _ _ _ _ _) 1)) (fun s H A cl fp C10 c11 => (pts_test (dt_cmp (od_notIn (hu65 C10.rm)) (de_var 1) (de_globI (by rfl) T.c_CHARACTERS) (by rfl)))) (fun s H A cl fp C10 c11 => (de_var 1)) (by decide)))))), rfl⟩
theorem g_ends_with (T : Txt K mg A) : FnG P w K mg base 1 A.a_ends_with A.f_ends_with ["host", "labels"] (spR K mg false 2 m_ends_with_d715) := by
  refine fnR (nr := false) (k := 0) T.F_ends_with sc_ends_with rfl (by decide) (fun cdv Ar outer s H Hf E ds C hl => ?_)
  match ds, hl with
  | [a0, a1], _ => exact ⟨b_ends_with_d715 a0 a1, (dss_ret (de_and (de_cmp (od_ge C.rm.units) (de_callB oc_len (by rfl) T.z_len rfl (da_cons (de_var 0) da_nil)) (de_callB oc_len (by rfl) T.z_len rfl (da_cons (de_var 1) da_nil)) (by rfl)) (de_one (de_cmp (od_eq C.rm.units) (de_sl (de_var 0) (do_some (de_op od_sub (de_callB oc_len (by rfl) T.z_len rfl (da_cons (de_var 0) da_nil)) (de_callB oc_len (by rfl) T.z_len rfl (da_cons (de_var 1) da_nil)))) do_none) (de_var 1) (by rfl))))), rfl⟩
theorem g__law_bag (T : Txt K mg A) : FnG P w K mg base 1 A.a__law_bag A.f__law_bag ["_law_script"] (spR K mg false 1 m__law_bag_d7b5) := by
  refine fnR (nr := false) (k := 0) T.F__law_bag sc__law_bag rfl (by decide) (fun cdv Ar outer s H Hf E ds C hl => ?_)
  match ds, hl with
  | [a0], _ => exact ⟨b__law_bag_d7b5 a0, (dss_asg C 1 de_int fun v1 => (dss_for (exl := fun (q3 : D) => [.im a0, .im q3, .un]) v1 C (di_any (de_var 0)) (pgd_name C 2) (And.intro (Or.inl rfl) (And.intro (Or.inl rfl) (And.intro (Or.inr rfl) (trivial)))) (fun q3 c4 => (dss_if (exA := fun (q10 : D) => [.im a0, .im q10, .im c4]) (dt_cmp (od_lt C.rm.units) (de_callB oc_abs (by rfl) T.z_abs rfl (da_cons (de_var 2) da_nil)) (de_op od_powC de_int de_int) (by rfl)) (dss_asg C 1 (de_op od_mod (de_callTy oc_int (by rfl) T.z_int rfl (da_cons (de_op od_add (de_op od_add (de_op od_mul (de_var 1) de_int) (de_op od_mul (de_var 2) de_int)) de_int) da_nil)) de_int) fun v11 => (dss_nil (a := v11) (And.intro (Or.inl rfl) (And.intro (Or.inl rfl) (And.intro (Or.inl rfl) (trivial)))))) (dss_nil (a := q3) (And.intro (Or.inl rfl) (And.intro (Or.inl rfl) (And.intro (Or.inl rfl) (trivial))))) fun q10 => (dss_nil (a := q10) (And.intro (Or.inl rfl) (And.intro (Or.inl rfl) (And.intro (Or.inr rfl) (trivial))))))) fun q26 => (dss_ret (de_frz (df_list (da_cons (de_frz (df_lc [("_law_cell", 2)] C (di_any (de_var 0)) (blkOk_by (N := N__law_bag) (sc := defScope s__law_bag) (by decide +kernel)) (fun s H A cl fp => (pgd_name (C.blk _ _ _ _ _) 2)) (fun s H A cl fp C28 c29 => (pts_test (dt_cmp (od_ge C28.rm.units) (de_callB oc_abs (by rfl) T.z_abs rfl (da_cons (de_var 2) da_nil)) (de_op od_powC de_int de_int) (by rfl)))) (fun s H A cl fp C28 c29 => (de_callB oc_abs (by rfl) T.z_abs rfl (da_cons (de_var 2) da_nil))) (by decide))) (da_cons (de_var 1) (da_cons de_int da_nil)))))))), rfl⟩
theorem g__law_take (T : Txt K mg A) : FnG P w K mg base 1 A.a__law_take A.f__law_take ["_law_bag_here", "_law_many"] (spM K mg false (1 + 1) m__law_take_bb49) := by
  refine fnM (nr := false) (k := 0) T.F__law_take sc__law_take rfl (by decide) (fun cdv Ar outer s H Hf bag E ds C hl => ?_)
  match ds, hl with
  | [a1], _ => exact ⟨b__law_take_bb49 a1, (dss_bagWhile C (dw_and (dt_bagNe C 0) (dw_and1 (dt_cmp (od_eq C.rm.units) (de_bagHd 0) de_int (by rfl)))).pt (dss_bagPop 0 (dss_nil (a := ()) (And.intro (Or.inl rfl) (And.intro (Or.inl rfl) (And.intro (Or.inr rfl) (And.intro (Or.inr rfl) (trivial))))))) (dss_if (exA := fun (q3 : Unit) => [.bg, .im a1, .un, .un]) (dt_bagNe C 0) (dss_asg C 3 (de_op od_mod (de_callTy oc_int (by rfl) T.z_int rfl (da_cons (de_bagHd 0) da_nil)) (de_var 1)) fun v4 => (dss_bagSetHd 0 (de_op od_fdiv (de_bagHd 0) (de_var 1)) (dss_ret (de_var 3)))) (dss_nil (a := ()) (And.intro (Or.inl rfl) (And.intro (Or.inl rfl) (And.intro (Or.inr rfl) (And.intro (Or.inr rfl) (trivial)))))) fun q3 => (dss_bagSetZ 0 (de_op od_add (de_bagZ 0) de_int) (dss_asg C 2 (de_op od_mod (de_callTy oc_int (by rfl) T.z_int rfl (da_cons (de_op od_powC (de_op od_add (de_bagY3 0) (de_op od_mul de_int (de_bagZ 0))) de_int) da_nil)) de_int) fun v19 => (dss_asg C 2 (de_op od_mod (de_callTy oc_int (by rfl) T.z_int rfl (da_cons (de_op od_powC (de_op od_add (de_var 2) (de_op od_mul de_int (de_bagZ 0))) de_int) da_nil)) de_int) fun v31 => (dss_ret (de_op od_mod (de_callTy oc_int (by rfl) T.z_int rfl (da_cons (de_op od_fdiv (de_var 2) de_int) da_nil)) (de_var 1)))))))), rfl⟩
theorem g__law_is_good (T : Txt K mg A) : FnG P w K mg base 1 A.a__law_is_good A.f__law_is_good ["_law_thing"] (spR K mg false 1 m__law_is_good_6020) := by
  refine fnR (nr := false) (k := 0) T.F__law_is_good sc__law_is_good rfl (by decide) (fun cdv Ar outer s H Hf E ds C hl => ?_)
  match ds, hl with
  | [a0], _ => exact ⟨b__law_is_good_6020 a0, (pss_k (l__law_is_good_6020_1 _) (dss_if (exA := fun (q10 : Unit) => [.im a0, .un, .un]) (dw_or (dt_not (dt_tru (de_isi "str" (de_var 0) (by rfl) T.z_isinstance (by rfl) T.z_str rfl))) (dw_or1 (dt_cmp (od_gt C.rm.units) (de_callB oc_len (by rfl) T.z_len rfl (da_cons (de_frz (df_split (de_var 0) (de_str [46]))) da_nil)) de_int (by rfl)))).pt (dss_ret de_bl) (dss_nil (a := ()) (And.intro (Or.inl rfl) (And.intro (Or.inr rfl) (And.intro (Or.inr rfl) (trivial))))) fun q10 => (dss_for (exl := fun (q15 : Unit) => [.im a0, .un, .un]) () C (di_any (de_frz (df_split (de_var 0) (de_str [46])))) (pgd_name C 1) (And.intro (Or.inl rfl) (And.intro (Or.inr rfl) (And.intro (Or.inr rfl) (trivial)))) (fun q15 c16 => (pss_k (l__law_is_good_6020_0 _) (dss_if (exA := fun (q30 : Unit) => [.im a0, .im c16, .un]) (dw_or (dt_not (dt_chain (od_le C.rm.units) (od_le C.rm.units) de_int (de_callB oc_len (by rfl) T.z_len rfl (da_cons (de_var 1) da_nil)) de_int)) (dw_or1 (dt_cmp (od_ne C.rm.units) (de_frz (df_lc [("_law_sign", 2)] C (di_any (de_var 1)) (blkOk_by (N := N__law_is_good) (sc := defScope s__law_is_good) (by decide +kernel)) (fun s H A cl fp => (pgd_name (C.blk _ _ _ _ _) 2)) (fun s H A cl fp C22 c23 => (pts_test (dt_cmp (od_notIn (hu65 C22.rm)) (de_var 2) (de_str [97, 98, 99, 100, 101, 102, 103, 104, 105, 106, 107, 108, 109, 110, 111, 112, 113, 114, 115, 116, 117, 118, 119, 120, 121, 122, 48, 49, 50, 51, 52, 53, 54, 55, 56, 57]) (by rfl)))) (fun s H A cl fp C22 c23 => (de_var 2)) (by decide))) (de_frz (df_list da_nil)) (by rfl)))).pt (dss_ret de_bl) (dss_nil (a := ()) (And.intro (Or.inl rfl) (And.intro (Or.inl rfl) (And.intro (Or.inr rfl) (trivial))))) fun q30 => (dss_nil (a := ()) (And.intro (Or.inl rfl) (And.intro (Or.inr rfl) (And.intro (Or.inr rfl) (trivial)))))))) fun q33 => (dss_ret de_bl)))), rfl⟩
theorem g__law_same (T : Txt K mg A) : FnG P w K mg base 1 A.a__law_same A.f__law_same ["_law_one", "_law_other"] (spR K mg false 2 m__law_same_9288) := by
  refine fnR (nr := false) (k := 0) T.F__law_same sc__law_same rfl (by decide) (fun cdv Ar outer s H Hf E ds C hl => ?_)
  match ds, hl with
  | [a0, a1], _ => exact ⟨b__law_same_9288 a0 a1, (dss_ret (de_and (de_cmp (od_eq C.rm.units) (de_var 0) (de_var 1) (by rfl)) (de_one (de_cmp (od_eq C.rm.units) (de_isi "bool" (de_var 0) (by rfl) T.z_isinstance (by rfl) T.z_bool rfl) (de_isi "bool" (de_var 1) (by rfl) T.z_isinstance (by rfl) T.z_bool rfl) (by rfl))))), rfl⟩
theorem g_is_path (T : Txt K mg A) : FnG P w K mg base 2 A.a_is_path A.f_is_path ["thing"] (spR K mg false 1 m_is_path_08e1) := by
  refine fnR (nr := false) (k := 1) T.F_is_path sc_is_path rfl (by decide) (fun cdv Ar outer s H Hf E ds C hl => ?_)
  match ds, hl with
  | [a0], _ => exact ⟨b_is_path_08e1 a0, (dss_if (exA := fun (q8 : Unit) => [.im a0, .un]) (dw_or (dt_not (dt_tru (de_isi "tuple" (de_var 0) (by rfl) T.z_isinstance (by rfl) T.z_tuple rfl))) (dw_or1 (dt_cmp (od_gt C.rm.units) (de_callB oc_len (by rfl) T.z_len rfl (da_cons (de_var 0) da_nil)) (de_globI (by rfl) T.c_MOST_LABELS) (by rfl)))).pt (dss_ret de_bl) (dss_nil (a := ()) (And.intro (Or.inl rfl) (And.intro (Or.inr rfl) (trivial)))) fun q8 => (dss_ret (de_not (de_frz (df_lc [("label", 1)] C (di_any (de_var 0)) (blkOk_by (N := N_is_path) (sc := defScope s_is_path) (by decide +kernel)) (fun s H A cl fp => (pgd_name (C.blk _ _ _ _ _) 1)) (fun s H A cl fp C11 c12 => (pts_test (dt_not (dt_tru (de_fn C11 (g_is_label T) T.m_is_label T.F_is_label.kp T.b_is_label (da_cons (de_var 1) da_nil) n_is_label_344b))))) (fun s H A cl fp C11 c12 => (de_var 1)) (by decide)))))), rfl⟩
theorem g_member_and_head (T : Txt K mg A) : FnG P w K mg base 2 A.a_member_and_head A.f_member_and_head ["groups", "host"] (spR K mg false 2 m_member_and_head_c6a4) := by
  refine fnR (nr := false) (k := 1) T.F_member_and_head sc_member_and_head rfl (by decide) (fun cdv Ar outer s H Hf E ds C hl => ?_)
  match ds, hl with
  | [a0, a1], _ => exact ⟨b_member_and_head_c6a4 a0 a1, (dss_asg C 2 de_non fun v1 => (dss_for (exl := fun (q3 : D) => [.im a0, .im a1, .im q3, .un, .un]) v1 C (di_any (de_var 0)) (pgd_name C 3) (And.intro (Or.inl rfl) (And.intro (Or.inl rfl) (And.intro (Or.inl rfl) (And.intro (Or.inr rfl) (And.intro (Or.inr rfl) (trivial)))))) (fun q3 c4 => (dss_for (exl := fun (q6 : D) => [.im a0, .im a1, .im q6, .im c4, .un]) q3 C (di_any (de_var 3)) (pgd_name C 4) (And.intro (Or.inl rfl) (And.intro (Or.inl rfl) (And.intro (Or.inl rfl) (And.intro (Or.inl rfl) (And.intro (Or.inr rfl) (trivial)))))) (fun q6 c7 => (dss_if (exA := fun (q26 : D) => [.im a0, .im a1, .im q26, .im c4, .im c7]) (dw_and (dt_tru (de_fn C (g_ends_with T) T.m_ends_with T.F_ends_with.kp T.b_ends_with (da_cons (de_var 1) (da_cons (de_var 4) da_nil)) n_ends_with_d715)) (dw_and1 (dw_or (dt_cmp od_is (de_var 2) de_non (by rfl)) (dw_or1 (dt_cmp (od_gt C.rm.units) (de_callB oc_len (by rfl) T.z_len rfl (da_cons (de_var 4) da_nil)) (de_callB oc_len (by rfl) T.z_len rfl (da_cons (de_ix (de_var 2) de_int) da_nil)) (by rfl)))).pt)).pt (dss_asg C 2 (de_tup (da_cons (de_var 4) (da_cons (de_ix (de_var 3) de_int) da_nil))) fun v27 => (dss_nil (a := v27) (And.intro (Or.inl rfl) (And.intro (Or.inl rfl) (And.intro (Or.inl rfl) (And.intro (Or.inl rfl) (And.intro (Or.inl rfl) (trivial)))))))) (dss_nil (a := q6) (And.intro (Or.inl rfl) (And.intro (Or.inl rfl) (And.intro (Or.inl rfl) (And.intro (Or.inl rfl) (And.intro (Or.inl rfl) (trivial))))))) fun q26 => (dss_nil (a := q26) (And.intro (Or.inl rfl) (And.intro (Or.inl rfl) (And.intro (Or.inl rfl) (And.intro (Or.inl rfl) (And.intro (Or.inr rfl) (trivial))))))))) fun q37 => (dss_nil (a := q37) (And.intro (Or.inl rfl) (And.intro (Or.inl rfl) (And.intro (Or.inl rfl) (And.intro (Or.inr rfl) (And.intro (Or.inr rfl) (trivial))))))))) fun q39 => (dss_ret (de_var 2)))), rfl⟩
theorem g__law_of (T : Txt K mg A) : FnG P w K mg base 2 A.a__law_of A.f__law_of ["_law_bag_here", "_law_some_here"] (spM K mg false (1 + 1) m__law_of_8ba0) := by
  refine fnM (nr := false) (k := 1) T.F__law_of sc__law_of rfl (by decide) (fun cdv Ar outer s H Hf bag E ds C hl => ?_)
  match ds, hl with
  | [a1], _ => exact ⟨b__law_of_8ba0 a1, (dss_ret (de_ix (de_var 1) (de_fnM C 0 (g__law_take T) T.m__law_take T.F__law_take.kp T.b__law_take (da_cons (de_callB oc_len (by rfl) T.z_len rfl (da_cons (de_var 1) da_nil)) da_nil) n__law_take_bb49))), rfl⟩
theorem g__law_label (T : Txt K mg A) : FnG P w K mg base 2 A.a__law_label A.f__law_label ["_law_bag_here", "_law_most"] (spM K mg false (1 + 1) m__law_label_b886) := by
  refine fnM (nr := false) (k := 1) T.F__law_label sc__law_label rfl (by decide) (fun cdv Ar outer s H Hf bag E ds C hl => ?_)
  match ds, hl with
  | [a1], _ => exact ⟨b__law_label_b886 a1, (dss_asg C 2 (de_str [48, 49, 50, 51, 52, 53, 54, 55, 56, 57, 97, 98, 99, 100, 101, 102, 103, 104, 105, 106, 107, 108, 109, 110, 111, 112, 113, 114, 115, 116, 117, 118, 119, 120, 121, 122]) fun v1 => (dss_ret (de_join (de_str []) (de_frz (df_lc [("_law_k", 3)] C (di_range1 (by rfl) T.z_range (da_cons (de_op od_add de_int (de_fnM C 0 (g__law_take T) T.m__law_take T.F__law_take.kp T.b__law_take (da_cons (de_var 1) da_nil) n__law_take_bb49)) da_nil)) (blkOk_by (N := N__law_label) (sc := defScope s__law_label) (by decide +kernel)) (fun s H A cl fp => (pgd_name (C.blk _ _ _ _ _) 3)) (fun s H A cl fp C10 c11 => pts_true) (fun s H A cl fp C10 c11 => (de_ix (de_var 2) (de_fnM C10 0 (g__law_take T) T.m__law_take T.F__law_take.kp T.b__law_take (da_cons de_int da_nil) n__law_take_bb49))) (by decide)))))), rfl⟩
theorem g__law_due (T : Txt K mg A) : FnG P w K mg base 2 A.a__law_due A.f__law_due ["_law_some_here"] (spR K mg false 1 m__law_due_99cc) := by
  refine fnR (nr := false) (k := 1) T.F__law_due sc__law_due rfl (by decide) (fun cdv Ar outer s H Hf E ds C hl => ?_)
  match ds, hl with
  | [a0], _ => exact ⟨b__law_due_99cc a0, (dss_asgOw C 1 (df_list da_nil) fun v1 => (dss_for (exl := fun (q4 : List D) => [.im a0, .ow q4, .un, .un, .un, .un]) v1 C (di_any (de_var 0)) (pgd_name C 2) (And.intro (Or.inl rfl) (And.intro (Or.inl rfl) (And.intro (Or.inr rfl) (And.intro (Or.inr rfl) (And.intro (Or.inr rfl) (And.intro (Or.inr rfl) (trivial))))))) (fun q4 c5 => (pss_k (l__law_due_99cc_2 _ _) (dss_if (exA := fun (q12 : Unit) => [.im a0, .ow q4, .im c5, .un, .un, .un]) (dw_or (dt_not (dt_tru (de_isi2 "list" "tuple" (de_var 2) (by rfl) T.z_isinstance (by rfl) T.z_list rfl (by rfl) T.z_tuple rfl))) (dw_or1 (dt_not (dt_chain (od_le C.rm.units) (od_le C.rm.units) de_int (de_callB oc_len (by rfl) T.z_len rfl (da_cons (de_var 2) da_nil)) de_int)))).pt (dss_ret (de_tup (da_cons (de_str [103, 114, 111, 117, 112]) (da_cons (de_var 2) da_nil)))) (dss_nil (a := ()) (And.intro (Or.inl rfl) (And.intro (Or.inl rfl) (And.intro (Or.inl rfl) (And.intro (Or.inr rfl) (And.intro (Or.inr rfl) (And.intro (Or.inr rfl) (trivial)))))))) fun q12 => (dss_setF (ps_setLcF [("_law_thing", 5)] C 3 (di_any (de_var 2)) (blkOk_by (N := N__law_due) (sc := defScope s__law_due) (by decide +kernel)) (fun s H A cl fp => (pgd_name (C.blk _ _ _ _ _) 5)) (fun s H A cl fp C22 c23 => (pts_test (dt_not (dt_tru (de_fn C22 (g__law_is_good T) T.m__law_is_good T.F__law_is_good.kp T.b__law_is_good (da_cons (de_var 5) da_nil) n__law_is_good_6020))))) (fun s H A cl fp C22 c23 => (de_var 5)) (by decide)) fun v20 => (pss_k (l__law_due_99cc_1 _ _ _) (dss_if (exA := fun (q32 : Unit) => [.im a0, .ow q4, .im c5, .im v20, .un, .un]) (dt_cmp (od_ne C.rm.units) (de_var 3) (de_frz (df_list da_nil)) (by rfl)) (dss_ret (de_tup (da_cons (de_str [104, 111, 115, 116]) (da_cons (de_ix (de_var 3) de_int) da_nil)))) (dss_nil (a := ()) (And.intro (Or.inl rfl) (And.intro (Or.inl rfl) (And.intro (Or.inl rfl) (And.intro (Or.inl rfl) (And.intro (Or.inr rfl) (And.intro (Or.inr rfl) (trivial)))))))) fun q32 => (dss_for (exl := fun (q43 : List D) => [.im a0, .ow q43, .im c5, .im v20, .un, .un]) q4 C (di_any (de_var 2)) (pgd_name C 4) (And.intro (Or.inl rfl) (And.intro (Or.inl rfl) (And.intro (Or.inl rfl) (And.intro (Or.inl rfl) (And.intro (Or.inr rfl) (And.intro (Or.inr rfl) (trivial))))))) (fun q43 c44 => (pss_k (l__law_due_99cc_0 _ _) (dss_if (exA := fun (q48 : Unit) => [.im a0, .ow q43, .im c5, .im v20, .im c44, .un]) (dt_thaw 1 (dt_cmp (od_in (hu65 C.rm)) (de_var 4) (de_var 1) (by rfl))) (dss_ret (de_tup (da_cons (de_str [116, 119, 105, 99, 101]) (da_cons (de_var 4) da_nil)))) (dss_nil (a := ()) (And.intro (Or.inl rfl) (And.intro (Or.inl rfl) (And.intro (Or.inl rfl) (And.intro (Or.inl rfl) (And.intro (Or.inl rfl) (And.intro (Or.inr rfl) (trivial)))))))) fun q48 => (dss_append 1 (de_var 4) fun v57 => (dss_nil (a := v57) (And.intro (Or.inl rfl) (And.intro (Or.inl rfl) (And.intro (Or.inl rfl) (And.intro (Or.inl rfl) (And.intro (Or.inr rfl) (And.intro (Or.inr rfl) (trivial)))))))))))) fun q59 => (dss_nil (a := q59) (And.intro (Or.inl rfl) (And.intro (Or.inl rfl) (And.intro (Or.inr rfl) (And.intro (Or.inr rfl) (And.intro (Or.inr rfl) (And.intro (Or.inr rfl) (trivial))))))))))))))) fun q63 => (pss_k (l__law_due_99cc_3 _) (dss_ret (de_ifExp (dt_cmp (od_gt C.rm.units) (de_callB oc_len (by rfl) T.z_len rfl (da_cons (de_var 0) da_nil)) de_int (by rfl)) (de_tup (da_cons (de_str [109, 97, 110, 121]) (da_cons de_int da_nil))) de_non))))), rfl⟩
theorem g_is_host (T : Txt K mg A) : FnG P w K mg base 3 A.a_is_host A.f_is_host ["thing"] (spR K mg false 1 m_is_host_45ba) := by
  refine fnR (nr := false) (k := 2) T.F_is_host sc_is_host rfl (by decide) (fun cdv Ar outer s H Hf E ds C hl => ?_)
  match ds, hl with
  | [a0], _ => exact ⟨b_is_host_45ba a0, (dss_ret (de_and (de_fn C (g_is_path T) T.m_is_path T.F_is_path.kp T.b_is_path (da_cons (de_var 0) da_nil) n_is_path_08e1) (de_one (de_cmp (od_gt C.rm.units) (de_callB oc_len (by rfl) T.z_len rfl (da_cons (de_var 0) da_nil)) de_int (by rfl))))), rfl⟩
theorem g_moved (T : Txt K mg A) : FnG P w K mg base 3 A.a_moved A.f_moved ["groups", "host"] (spR K mg false 2 m_moved_8ac7) := by
  refine fnR (nr := false) (k := 2) T.F_moved sc_moved rfl (by decide) (fun cdv Ar outer s H Hf E ds C hl => ?_)
  match ds, hl with
  | [a0, a1], _ => exact ⟨b_moved_8ac7 a0 a1, (dss_asg C 2 (de_fn C (g_member_and_head T) T.m_member_and_head T.F_member_and_head.kp T.b_member_and_head (da_cons (de_var 0) (da_cons (de_var 1) da_nil)) n_member_and_head_c6a4) fun v1 => (dss_if (exA := fun (q9 : Unit) => [.im a0, .im a1, .im v1, .un, .un]) (dt_cmp od_is (de_var 2) de_non (by rfl)) (dss_ret (de_var 1)) (dss_nil (a := ()) (And.intro (Or.inl rfl) (And.intro (Or.inl rfl) (And.intro (Or.inl rfl) (And.intro (Or.inr rfl) (And.intro (Or.inr rfl) (trivial))))))) fun q9 => (dss_unp (pgd_tup2 C 3 4) (de_var 2) fun c12 => (dss_ret (de_op od_add (de_sl (de_var 1) do_none (do_some (de_op od_sub (de_callB oc_len (by rfl) T.z_len rfl (da_cons (de_var 1) da_nil)) (de_callB oc_len (by rfl) T.z_len rfl (da_cons (de_var 3) da_nil))))) (de_var 4)))))), rfl⟩
theorem g__law_pool (T : Txt K mg A) : FnG P w K mg base 3 A.a__law_pool A.f__law_pool ["_law_bag_here", "_law_longest"] (spM K mg false (1 + 1) m__law_pool_b280) := by
  refine fnM (nr := false) (k := 2) T.F__law_pool sc__law_pool rfl (by decide) (fun cdv Ar outer s H Hf bag E ds C hl => ?_)
  match ds, hl with
  | [a1], _ => exact ⟨b__law_pool_b280 a1, (dss_asg C 2 (de_ifExp (dt_cmp (od_eq C.rm.units) (de_fnM C 0 (g__law_take T) T.m__law_take T.F__law_take.kp T.b__law_take (da_cons de_int da_nil) n__law_take_bb49) de_int (by rfl)) (de_var 1) de_int) fun v1 => (dss_ret (de_frz (df_lc [("_law_k", 3)] C (di_range1 (by rfl) T.z_range (da_cons (de_op od_add de_int (de_fnM C 0 (g__law_take T) T.m__law_take T.F__law_take.kp T.b__law_take (da_cons de_int da_nil) n__law_take_bb49)) da_nil)) (blkOk_by (N := N__law_pool) (sc := defScope s__law_pool) (by decide +kernel)) (fun s H A cl fp => (pgd_name (C.blk _ _ _ _ _) 3)) (fun s H A cl fp C15 c16 => pts_true) (fun s H A cl fp C15 c16 => (de_fnM C15 0 (g__law_label T) T.m__law_label T.F__law_label.kp T.b__law_label (da_cons (de_var 2) da_nil) n__law_label_b886)) (by decide))))), rfl⟩
theorem g__law_odd_group (T : Txt K mg A) : FnG P w K mg base 3 A.a__law_odd_group A.f__law_odd_group ["_law_bag_here", "_law_text"] (spM K mg false (1 + 1) m__law_odd_group_c9dc) := by
  refine fnM (nr := false) (k := 2) T.F__law_odd_group sc__law_odd_group rfl (by decide) (fun cdv Ar outer s H Hf bag E ds C hl => ?_)
  match ds, hl with
  | [a1], _ => exact ⟨b__law_odd_group_c9dc a1, (pss_k (l__law_odd_group_c9dc_0 _) (dss_asg C 2 (de_frz (df_list (da_cons (de_frz (df_list da_nil)) (da_cons (de_frz (df_list (da_cons (de_var 1) da_nil))) (da_cons (de_tup (da_cons (de_var 1) da_nil)) (da_cons (de_frz (df_list (da_cons (de_var 1) (da_cons (de_op od_add (de_var 1) (de_str [97])) (da_cons (de_op od_add (de_var 1) (de_str [98])) (da_cons (de_op od_add (de_var 1) (de_str [99])) (da_cons (de_op od_add (de_var 1) (de_str [100])) da_nil))))))) (da_cons (de_var 1) (da_cons de_non (da_cons de_int (da_cons de_bl (da_cons (de_tup da_nil) (da_cons (de_frz (df_list (da_cons (de_frz (df_list da_nil)) da_nil))) da_nil)))))))))))) fun v1 => (dss_ret (de_fnM C 0 (g__law_of T) T.m__law_of T.F__law_of.kp T.b__law_of (da_cons (de_var 2) da_nil) n__law_of_8ba0)))), rfl⟩
theorem g__law_odd_host (T : Txt K mg A) : FnG P w K mg base 3 A.a__law_odd_host A.f__law_odd_host ["_law_bag_here", "_law_text"] (spM K mg false (1 + 1) m__law_odd_host_3247) := by
  refine fnM (nr := false) (k := 2) T.F__law_odd_host sc__law_odd_host rfl (by decide) (fun cdv Ar outer s H Hf bag E ds C hl => ?_)
  match ds, hl with
  | [a1], _ => exact ⟨b__law_odd_host_3247 a1, (pss_k (l__law_odd_host_3247_1 _) (dss_asg C 2 (de_frz (df_list (da_cons (de_str []) (da_cons (de_op od_add (de_var 1) (de_str [46])) (da_cons (de_op od_add (de_str [46]) (de_var 1)) (da_cons (de_str [97, 46, 46, 98]) (da_cons (de_op od_add (de_str [97, 46, 98, 46, 99, 46]) (de_var 1)) (da_cons (de_op od_add (de_str [42, 46]) (de_var 1)) (da_cons (de_op od_add (de_var 1) (de_str [45, 97])) (da_cons (de_op od_add (de_str [65]) (de_var 1)) (da_cons de_non (da_cons de_int (da_cons de_bl da_nil))))))))))))) fun v1 => (pss_k (l__law_odd_host_3247_0 _ _) (dss_ret (de_fnM C 0 (g__law_of T) T.m__law_of T.F__law_of.kp T.b__law_of (da_cons (de_op od_add (de_var 2) (de_frz (df_list (da_cons (de_tup (da_cons (de_var 1) da_nil)) (da_cons (de_frz (df_list (da_cons (de_var 1) da_nil))) (da_cons (de_op od_add (de_var 1) (de_str [10])) (da_cons (de_op od_add (de_str [32]) (de_var 1)) (da_cons (de_op od_mul (de_str [97]) de_int) (da_cons (de_op od_add (de_op od_add (de_str [33]) (de_var 1)) (de_str [46, 97])) da_nil))))))))) da_nil) n__law_of_8ba0))))), rfl⟩
theorem g__law_some (T : Txt K mg A) : FnG P w K mg base 3 A.a__law_some A.f__law_some ["_law_bag_here", "_law_pool_here"] (spM K mg true (1 + 1) m__law_some_12afn) := by
  refine fnM (nr := true) (k := 2) T.F__law_some sc__law_some rfl (by decide) (fun cdv Ar outer s H Hf bag E ds C hl => ?_)
  match ds, hl with
  | [a1], _ => exact ⟨b__law_some_12afn a1, (dss_par3FFE C 3 4 5 (df_list da_nil) (df_list da_nil) (de_fnM C 0 (g__law_take T) T.m__law_take T.F__law_take.kp T.b__law_take (da_cons de_int da_nil) n__law_take_bb49) fun v1 v2 v3 => (pss_k (l__law_some_12afn_5 _ _ _ _) (dss_for (exl := fun (q17 : List D × List D) => [.bg, .im a1, .un, .ow q17.1, .ow q17.2, .im v3, .un, .un, .un, .un]) (v1, v2) C (di_range1 (by rfl) T.z_range (da_cons (de_op od_add de_int (de_fnM C 0 (g__law_take T) T.m__law_take T.F__law_take.kp T.b__law_take (da_cons de_int da_nil) n__law_take_bb49)) da_nil)) (pgd_name C 2) (And.intro (Or.inl rfl) (And.intro (Or.inl rfl) (And.intro (Or.inr rfl) (And.intro (Or.inl rfl) (And.intro (Or.inl rfl) (And.intro (Or.inl rfl) (And.intro (Or.inr rfl) (And.intro (Or.inr rfl) (And.intro (Or.inr rfl) (And.intro (Or.inr rfl) (trivial))))))))))) (fun q17 c18 => (dss_asgOw C 6 (df_list da_nil) fun v19 => (pss_k (l__law_some_12afn_3 _ _ _ _) (dss_for (exl := fun (q29 : List D × List D) => [.bg, .im a1, .im c18, .ow q17.1, .ow q29.1, .im v3, .ow q29.2, .un, .un, .un]) (q17.2, v19) C (di_range1 (by rfl) T.z_range (da_cons (de_op od_add de_int (de_fnM C 0 (g__law_take T) T.m__law_take T.F__law_take.kp T.b__law_take (da_cons de_int da_nil) n__law_take_bb49)) da_nil)) (pgd_name C 7) (And.intro (Or.inl rfl) (And.intro (Or.inl rfl) (And.intro (Or.inl rfl) (And.intro (Or.inl rfl) (And.intro (Or.inl rfl) (And.intro (Or.inl rfl) (And.intro (Or.inl rfl) (And.intro (Or.inr rfl) (And.intro (Or.inr rfl) (And.intro (Or.inr rfl) (trivial))))))))))) (fun q29 c30 => (pss_k (l__law_some_12afn_1 _ _ _) (dss_asg C 8 (de_join (de_str [46]) (de_frz (df_lc [("_law_i", 9)] C (di_range1 (by rfl) T.z_range (da_cons (de_op od_add de_int (de_fnM C 0 (g__law_take T) T.m__law_take T.F__law_take.kp T.b__law_take (da_cons de_int da_nil) n__law_take_bb49)) da_nil)) (blkOk_by (N := N__law_some) (sc := defScope s__law_some) (by decide +kernel)) (fun s H A cl fp => (pgd_name (C.blk _ _ _ _ _) 9)) (fun s H A cl fp C40 c41 => pts_true) (fun s H A cl fp C40 c41 => (de_fnM C40 0 (g__law_of T) T.m__law_of T.F__law_of.kp T.b__law_of (da_cons (de_var 1) da_nil) n__law_of_8ba0)) (by decide)))) fun v31 => (pss_k (l__law_some_12afn_0 _ _ _) (dss_if (exA := fun (q53 : List D × List D) => [.bg, .im a1, .im c18, .ow q17.1, .ow q53.1, .im v3, .ow q53.2, .im c30, .im v31, .un]) (dw_or (dt_thaw 4 (dt_cmp (od_notIn (hu65 C.rm)) (de_var 8) (de_var 4) (by rfl))) (dw_or1 (dt_cmp (od_eq C.rm.units) (de_var 5) de_int (by rfl)))).pt (dss_append 4 (de_var 8) fun v55 => (dss_append 6 (de_var 8) fun v57 => (dss_nil (a := (v55, v57)) (And.intro (Or.inl rfl) (And.intro (Or.inl rfl) (And.intro (Or.inl rfl) (And.intro (Or.inl rfl) (And.intro (Or.inl rfl) (And.intro (Or.inl rfl) (And.intro (Or.inl rfl) (And.intro (Or.inl rfl) (And.intro (Or.inl rfl) (And.intro (Or.inr rfl) (trivial)))))))))))))) (dss_nil (a := (q29.1, q29.2)) (And.intro (Or.inl rfl) (And.intro (Or.inl rfl) (And.intro (Or.inl rfl) (And.intro (Or.inl rfl) (And.intro (Or.inl rfl) (And.intro (Or.inl rfl) (And.intro (Or.inl rfl) (And.intro (Or.inl rfl) (And.intro (Or.inl rfl) (And.intro (Or.inr rfl) (trivial)))))))))))) fun q53 => (dss_nil (a := (q53.1, q53.2)) (And.intro (Or.inl rfl) (And.intro (Or.inl rfl) (And.intro (Or.inl rfl) (And.intro (Or.inl rfl) (And.intro (Or.inl rfl) (And.intro (Or.inl rfl) (And.intro (Or.inl rfl) (And.intro (Or.inr rfl) (And.intro (Or.inr rfl) (And.intro (Or.inr rfl) (trivial))))))))))))))))) fun q59 => (dss_frz 6 rfl (dss_if (exA := fun (q65 : List D) => [.bg, .im a1, .im c18, .ow q65, .ow q59.1, .im v3, .im (.lst q59.2), .un, .un, .un]) (dt_cmp (od_gt C.rm.units) (de_callB oc_len (by rfl) T.z_len rfl (da_cons (de_var 6) da_nil)) de_int (by rfl)) (pss_k (l__law_some_12afn_2 _ _) (dss_append 3 (de_ifExp (dt_cmp (od_eq C.rm.units) (de_fnM C 0 (g__law_take T) T.m__law_take T.F__law_take.kp T.b__law_take (da_cons de_int da_nil) n__law_take_bb49) de_int (by rfl)) (de_callTy oc_tuple (by rfl) T.z_tuple rfl (da_cons (de_var 6) da_nil)) (de_var 6)) fun v67 => (dss_nil (a := v67) (And.intro (Or.inl rfl) (And.intro (Or.inl rfl) (And.intro (Or.inl rfl) (And.intro (Or.inl rfl) (And.intro (Or.inl rfl) (And.intro (Or.inl rfl) (And.intro (Or.inl rfl) (And.intro (Or.inr rfl) (And.intro (Or.inr rfl) (And.intro (Or.inr rfl) (trivial)))))))))))))) (dss_nil (a := q17.1) (And.intro (Or.inl rfl) (And.intro (Or.inl rfl) (And.intro (Or.inl rfl) (And.intro (Or.inl rfl) (And.intro (Or.inl rfl) (And.intro (Or.inl rfl) (And.intro (Or.inl rfl) (And.intro (Or.inr rfl) (And.intro (Or.inr rfl) (And.intro (Or.inr rfl) (trivial)))))))))))) fun q65 => (dss_nil (a := (q65, q59.1)) (And.intro (Or.inl rfl) (And.intro (Or.inl rfl) (And.intro (Or.inr rfl) (And.intro (Or.inl rfl) (And.intro (Or.inl rfl) (And.intro (Or.inl rfl) (And.intro (Or.inr rfl) (And.intro (Or.inr rfl) (And.intro (Or.inr rfl) (And.intro (Or.inr rfl) (trivial)))))))))))))))))) fun q78 => (pss_k (l__law_some_12afn_4 _ _) (dss_retIf 3 (dt_thaw 3 (dt_cmp (od_ne C.rm.units) (de_var 3) (de_frz (df_list da_nil)) (by rfl))) (df_list (da_cons (de_frz (df_list (da_cons (de_ix (de_var 1) de_int) (da_cons (de_op od_add (de_ix (de_var 1) de_int) (de_str [46, 97])) da_nil)))) da_nil))))))), rfl⟩
theorem g_host_of (T : Txt K mg A) : FnG P w K mg base 4 A.a_host_of A.f_host_of ["text"] (spR K mg false 1 m_host_of_5eec) := by
  refine fnR (nr := false) (k := 3) T.F_host_of sc_host_of rfl (by decide) (fun cdv Ar outer s H Hf E ds C hl => ?_)
  match ds, hl with
  | [a0], _ => exact ⟨b_host_of_5eec a0, (dss_if (exA := fun (q12 : Unit) => [.im a0]) (dw_or (dt_not (dt_tru (de_isi "str" (de_var 0) (by rfl) T.z_isinstance (by rfl) T.z_str rfl))) (dw_or1 (dt_not (dt_tru (de_fn C (g_is_host T) T.m_is_host T.F_is_host.kp T.b_is_host (da_cons (de_callTy oc_tuple (by rfl) T.z_tuple rfl (da_cons (de_frz (df_split (de_var 0) (de_str [46]))) da_nil)) da_nil) n_is_host_45ba))))).pt (dss_raise C T.x_BadHost (de_var 0)) (dss_nil (a := ()) (And.intro (Or.inl rfl) (trivial))) fun q12 => (dss_ret (de_callTy oc_tuple (by rfl) T.z_tuple rfl (da_cons (de_frz (df_split (de_var 0) (de_str [46]))) da_nil)))), rfl⟩
theorem g_host_text (T : Txt K mg A) : FnG P w K mg base 4 A.a_host_text A.f_host_text ["host"] (spR K mg false 1 m_host_text_f5b6) := by
  refine fnR (nr := false) (k := 3) T.F_host_text sc_host_text rfl (by decide) (fun cdv Ar outer s H Hf E ds C hl => ?_)
  match ds, hl with
  | [a0], _ => exact ⟨b_host_text_f5b6 a0, (dss_if (exA := fun (q5 : Unit) => [.im a0]) (dt_not (dt_tru (de_fn C (g_is_host T) T.m_is_host T.F_is_host.kp T.b_is_host (da_cons (de_var 0) da_nil) n_is_host_45ba))) (dss_raise C T.x_BadHost (de_var 0)) (dss_nil (a := ()) (And.intro (Or.inl rfl) (trivial))) fun q5 => (dss_ret (de_join (de_str [46]) (de_var 0)))), rfl⟩
theorem g_Groups_translated (T : Txt K mg A) : FnG P w K mg base 4 A.a_Groups_translated A.f_Groups_translated ["self", "host"] (spR K mg false 2 m_Groups_translated_fd84) := by
  refine fnR (nr := false) (k := 3) T.F_Groups_translated sc_Groups_translated rfl (by decide) (fun cdv Ar outer s H Hf E ds C hl => ?_)
  match ds, hl with
  | [a0, a1], _ => exact ⟨b_Groups_translated_fd84 a0 a1, (pss_k (l_Groups_translated_fd84_0 _ _) (dss_if (exA := fun (q5 : Unit) => [.im a0, .im a1]) (dt_not (dt_tru (de_fn C (g_is_host T) T.m_is_host T.F_is_host.kp T.b_is_host (da_cons (de_var 1) da_nil) n_is_host_45ba))) (dss_raise C T.x_BadHost (de_var 1)) (dss_nil (a := ()) (And.intro (Or.inl rfl) (And.intro (Or.inl rfl) (trivial)))) fun q5 => (dss_ret (de_fn C (g_moved T) T.m_moved T.F_moved.kp T.b_moved (da_cons (de_fld ["Groups"] (de_var 0) (fo_hosts T)) (da_cons (de_var 1) da_nil)) n_moved_8ac7)))), rfl⟩
theorem mt_translated (T : Txt K mg A) : ∀ q ∈ ([("Groups", m_Groups_translated_fd84)] : List (Str × (List D → R D))), MethG P w K mg base 4 "translated" [] q.1 q.2 := fun q hq => by
  simp only [List.mem_cons, List.not_mem_nil, or_false] at hq
  rcases hq with rfl
  · exact ⟨_, _, 2, T.C_Groups.mg, T.C_Groups.cl, T.mt_Groups_translated, ((g_Groups_translated T).pos T.b_Groups_translated).mono (by decide), n_Groups_translated_fd84⟩
theorem g_Groups_origins (T : Txt K mg A) : FnG P w K mg base 4 A.a_Groups_origins A.f_Groups_origins ["self", "host"] (spR K mg false 2 m_Groups_origins_a60a) := by
  refine fnR (nr := false) (k := 3) T.F_Groups_origins sc_Groups_origins rfl (by decide) (fun cdv Ar outer s H Hf E ds C hl => ?_)
  match ds, hl with
  | [a0, a1], _ => exact ⟨b_Groups_origins_a60a a0 a1, (dss_if (exA := fun (q5 : Unit) => [.im a0, .im a1, .un, .un, .un, .un]) (dt_not (dt_tru (de_fn C (g_is_host T) T.m_is_host T.F_is_host.kp T.b_is_host (da_cons (de_var 1) da_nil) n_is_host_45ba))) (dss_raise C T.x_BadHost (de_var 1)) (dss_nil (a := ()) (And.intro (Or.inl rfl) (And.intro (Or.inl rfl) (And.intro (Or.inr rfl) (And.intro (Or.inr rfl) (And.intro (Or.inr rfl) (And.intro (Or.inr rfl) (trivial)))))))) fun q5 => (pss_k (l_Groups_origins_a60a_2 _ _) (dss_asgOw C 2 (df_list (da_cons (de_var 1) da_nil)) fun v7 => (dss_for (exl := fun (q13 : List D) => [.im a0, .im a1, .ow q13, .un, .un, .un]) v7 C (di_any (de_fld ["Groups"] (de_var 0) (fo_hosts T))) (pgd_name C 3) (And.intro (Or.inl rfl) (And.intro (Or.inl rfl) (And.intro (Or.inl rfl) (And.intro (Or.inr rfl) (And.intro (Or.inr rfl) (And.intro (Or.inr rfl) (trivial))))))) (fun q13 c14 => (pss_k (l_Groups_origins_a60a_1 _ _ _) (dss_if (exA := fun (q23 : List D) => [.im a0, .im a1, .ow q23, .im c14, .un, .un]) (dt_tru (de_fn C (g_ends_with T) T.m_ends_with T.F_ends_with.kp T.b_ends_with (da_cons (de_var 1) (da_cons (de_ix (de_var 3) de_int) da_nil)) n_ends_with_d715)) (pss_k (l_Groups_origins_a60a_0 _ _ _) (dss_augL C 2 (de_frz (df_lc [("member", 5)] C (di_any (de_var 3)) (blkOk_by (N := N_Groups_origins) (sc := defScope s_Groups_origins) (by decide +kernel)) (fun s H A cl fp => (pgd_name (C.blk _ _ _ _ _) 5)) (fun s H A cl fp C27 c28 => pts_true) (fun s H A cl fp C27 c28 => (de_op od_add (de_sl (de_var 1) do_none (do_some (de_op od_sub (de_callB oc_len (by rfl) T.z_len rfl (da_cons (de_var 1) da_nil)) (de_callB oc_len (by rfl) T.z_len rfl (da_cons (de_ix (de_var 3) de_int) da_nil))))) (de_var 5))) (by decide))) fun v25 => (dss_nil (a := v25) (And.intro (Or.inl rfl) (And.intro (Or.inl rfl) (And.intro (Or.inl rfl) (And.intro (Or.inl rfl) (And.intro (Or.inr rfl) (And.intro (Or.inr rfl) (trivial)))))))))) (dss_nil (a := q13) (And.intro (Or.inl rfl) (And.intro (Or.inl rfl) (And.intro (Or.inl rfl) (And.intro (Or.inl rfl) (And.intro (Or.inr rfl) (And.intro (Or.inr rfl) (trivial)))))))) fun q23 => (dss_nil (a := q23) (And.intro (Or.inl rfl) (And.intro (Or.inl rfl) (And.intro (Or.inl rfl) (And.intro (Or.inr rfl) (And.intro (Or.inr rfl) (And.intro (Or.inr rfl) (trivial))))))))))) fun q48 => (dss_frz 2 rfl dss_stuck))))), rfl⟩
theorem mt_origins (T : Txt K mg A) : ∀ q ∈ ([("Groups", m_Groups_origins_a60a)] : List (Str × (List D → R D))), MethG P w K mg base 4 "origins" [] q.1 q.2 := fun q hq => by
  simp only [List.mem_cons, List.not_mem_nil, or_false] at hq
  rcases hq with rfl
  · exact ⟨_, _, 2, T.C_Groups.mg, T.C_Groups.cl, T.mt_Groups_origins, ((g_Groups_origins T).pos T.b_Groups_origins).mono (by decide), n_Groups_origins_a60a⟩
theorem g_checked_group (T : Txt K mg A) : FnG P w K mg base 5 A.a_checked_group A.f_checked_group ["group", "taken"] (spR K mg false 2 m_checked_group_64d1) := by
  refine fnR (nr := false) (k := 4) T.F_checked_group sc_checked_group rfl (by decide) (fun cdv Ar outer s H Hf E ds C hl => ?_)
  match ds, hl with
  | [a0, a1], _ => exact ⟨b_checked_group_64d1 a0 a1, (dss_if (exA := fun (q7 : Unit) => [.im a0, .im a1, .un, .un, .un, .un]) (dw_or (dt_not (dt_tru (de_isi2 "list" "tuple" (de_var 0) (by rfl) T.z_isinstance (by rfl) T.z_list rfl (by rfl) T.z_tuple rfl))) (dw_or1 (dt_not (dt_chain (od_le C.rm.units) (od_le C.rm.units) (de_globI (by rfl) T.c_LEAST_OF_GROUP) (de_callB oc_len (by rfl) T.z_len rfl (da_cons (de_var 0) da_nil)) (de_globI (by rfl) T.c_MOST_OF_GROUP))))).pt (dss_raise C T.x_BadGroup (de_var 0)) (dss_nil (a := ()) (And.intro (Or.inl rfl) (And.intro (Or.inl rfl) (And.intro (Or.inr rfl) (And.intro (Or.inr rfl) (And.intro (Or.inr rfl) (And.intro (Or.inr rfl) (trivial)))))))) fun q7 => (dss_asgOw C 2 (df_list da_nil) fun v9 => (dss_for (exl := fun (q12 : List D) => [.im a0, .im a1, .ow q12, .un, .un, .un]) v9 C (di_any (de_var 0)) (pgd_name C 3) (And.intro (Or.inl rfl) (And.intro (Or.inl rfl) (And.intro (Or.inl rfl) (And.intro (Or.inr rfl) (And.intro (Or.inr rfl) (And.intro (Or.inr rfl) (trivial))))))) (fun q12 c13 => (dss_asg C 4 (de_fn C (g_host_of T) T.m_host_of T.F_host_of.kp T.b_host_of (da_cons (de_var 3) da_nil) n_host_of_5eec) fun v14 => (dss_if (exA := fun (q23 : Unit) => [.im a0, .im a1, .ow q12, .im c13, .im v14, .un]) (dt_cmp (od_gt C.rm.units) (de_callB oc_len (by rfl) T.z_len rfl (da_cons (de_var 4) da_nil)) (de_globI (by rfl) T.c_MOST_LABELS_OF_MEMBER) (by rfl)) (dss_raise C T.x_BadHost (de_var 3)) (dss_nil (a := ()) (And.intro (Or.inl rfl) (And.intro (Or.inl rfl) (And.intro (Or.inl rfl) (And.intro (Or.inl rfl) (And.intro (Or.inl rfl) (And.intro (Or.inr rfl) (trivial)))))))) fun q23 => (dss_append 2 (de_var 4) fun v26 => (dss_nil (a := v26) (And.intro (Or.inl rfl) (And.intro (Or.inl rfl) (And.intro (Or.inl rfl) (And.intro (Or.inr rfl) (And.intro (Or.inr rfl) (And.intro (Or.inr rfl) (trivial)))))))))))) fun q28 => (dss_frz 2 rfl (dss_for (exl := fun (q32 : Unit) => [.im a0, .im a1, .im (.lst q28), .un, .un, .un]) () C (di_enumL (by rfl) T.z_enumerate (da_cons (de_var 2) da_nil)) (pgd_tup2 C 5 4) (And.intro (Or.inl rfl) (And.intro (Or.inl rfl) (And.intro (Or.inl rfl) (And.intro (Or.inr rfl) (And.intro (Or.inr rfl) (And.intro (Or.inr rfl) (trivial))))))) (fun q32 c33 => (dss_if (exA := fun (q43 : Unit) => [.im a0, .im a1, .im (.lst q28), .un, .im c33.2, .im c33.1]) (dw_or (dt_cmp (od_in (hu65 C.rm)) (de_var 4) (de_var 1) (by rfl)) (dw_or1 (dt_cmp (od_in (hu65 C.rm)) (de_var 4) (de_sl (de_var 2) do_none (do_some (de_var 5))) (by rfl)))).pt (dss_raise C T.x_Twice (de_fn C (g_host_text T) T.m_host_text T.F_host_text.kp T.b_host_text (da_cons (de_var 4) da_nil) n_host_text_f5b6)) (dss_nil (a := ()) (And.intro (Or.inl rfl) (And.intro (Or.inl rfl) (And.intro (Or.inl rfl) (And.intro (Or.inr rfl) (And.intro (Or.inl rfl) (And.intro (Or.inl rfl) (trivial)))))))) fun q43 => (dss_nil (a := ()) (And.intro (Or.inl rfl) (And.intro (Or.inl rfl) (And.intro (Or.inl rfl) (And.intro (Or.inr rfl) (And.intro (Or.inr rfl) (And.intro (Or.inr rfl) (trivial)))))))))) fun q49 => (dss_ret (de_callTy oc_tuple (by rfl) T.z_tuple rfl (da_cons (de_var 2) da_nil)))))))), rfl⟩
theorem g_Groups_member (T : Txt K mg A) : FnG P w K mg base 5 A.a_Groups_member A.f_Groups_member ["self", "host"] (spR K mg false 2 m_Groups_member_6374) := by
  refine fnR (nr := false) (k := 4) T.F_Groups_member sc_Groups_member rfl (by decide) (fun cdv Ar outer s H Hf E ds C hl => ?_)
  match ds, hl with
  | [a0, a1], _ => exact ⟨b_Groups_member_6374 a0 a1, (dss_if (exA := fun (q5 : Unit) => [.im a0, .im a1, .un]) (dt_not (dt_tru (de_fn C (g_is_host T) T.m_is_host T.F_is_host.kp T.b_is_host (da_cons (de_var 1) da_nil) n_is_host_45ba))) (dss_raise C T.x_BadHost (de_var 1)) (dss_nil (a := ()) (And.intro (Or.inl rfl) (And.intro (Or.inl rfl) (And.intro (Or.inr rfl) (trivial))))) fun q5 => (pss_k (l_Groups_member_6374_0 _ _) (dss_asg C 2 (de_fn C (g_member_and_head T) T.m_member_and_head T.F_member_and_head.kp T.b_member_and_head (da_cons (de_fld ["Groups"] (de_var 0) (fo_hosts T)) (da_cons (de_var 1) da_nil)) n_member_and_head_c6a4) fun v7 => (dss_ret (de_ifExp (dt_cmp od_is (de_var 2) de_non (by rfl)) de_non (de_fn C (g_host_text T) T.m_host_text T.F_host_text.kp T.b_host_text (da_cons (de_ix (de_var 2) de_int) da_nil) n_host_text_f5b6)))))), rfl⟩
theorem mt_member (T : Txt K mg A) : ∀ q ∈ ([("Groups", m_Groups_member_6374)] : List (Str × (List D → R D))), MethG P w K mg base 5 "member" [] q.1 q.2 := fun q hq => by
  simp only [List.mem_cons, List.not_mem_nil, or_false] at hq
  rcases hq with rfl
  · exact ⟨_, _, 2, T.C_Groups.mg, T.C_Groups.cl, T.mt_Groups_member, ((g_Groups_member T).pos T.b_Groups_member).mono (by decide), n_Groups_member_6374⟩
theorem g__law_wrong_hosts (T : Txt K mg A) : FnG P w K mg base 6 A.a__law_wrong_hosts A.f__law_wrong_hosts ["_law_made_here", "_law_thing"] (spR K mg false 2 m__law_wrong_hosts_4fc9) := by
  refine fnR (nr := false) (k := 5) T.F__law_wrong_hosts sc__law_wrong_hosts rfl (by decide) (fun cdv Ar outer s H Hf E ds C hl => ?_)
  match ds, hl with
  | [a0, a1], _ => exact ⟨b__law_wrong_hosts_4fc9 a0 a1, (dss_asgOw C 2 (df_list da_nil) fun v1 => (pss_k (l__law_wrong_hosts_4fc9_3 _ _ _) (dss_tryC (exA := fun (q3 : List D) => [.im a0, .im a1, .ow q3, .un]) (G' := [.im a0, .im a1, .ow v1, .un]) (L := [("BadGroup", "group"), ("BadHost", "host"), ("TooMany", "limit"), ("Twice", "name")]) C rfl rfl (fun W pn xe B C4 => (dss_exprE (de_meth (L := [("Groups", m_Groups_translated_fd84)]) C4 (de_var 0) (mt_translated T) (da_cons (de_var 1) da_nil)) (dss_nil (a := v1) (And.intro (Or.inl rfl) (And.intro (Or.inl rfl) (And.intro (Or.inl rfl) (And.intro (Or.inr rfl) (trivial)))))))) (.named (f0 := "host") 3 T.k_BadHost (by decide) T.x_BadHost.gC (fun _ => rfl) (fun _ => by first | rfl | contradiction) rfl rfl rfl (by decide) (fun _ _ _ e9 _ hz hf hk => (dss_append 2 (de_exf T.x_BadHost hz hf 3) fun v11 => (dss_nil (a := v11) (And.intro (Or.inl rfl) (And.intro (Or.inl rfl) (And.intro (Or.inl rfl) (And.intro (Or.inr rfl) (trivial)))))))) .nil) fun q3 => (pss_k (l__law_wrong_hosts_4fc9_2 _ _ _) (dss_tryC (exA := fun (q12 : List D) => [.im a0, .im a1, .ow q12, .un]) (G' := [.im a0, .im a1, .ow q3, .un]) (L := [("BadGroup", "group"), ("BadHost", "host"), ("TooMany", "limit"), ("Twice", "name")]) C rfl rfl (fun W pn xe B C13 => (dss_exprE (de_meth (L := [("Groups", m_Groups_member_6374)]) C13 (de_var 0) (mt_member T) (da_cons (de_var 1) da_nil)) (dss_nil (a := q3) (And.intro (Or.inl rfl) (And.intro (Or.inl rfl) (And.intro (Or.inl rfl) (And.intro (Or.inr rfl) (trivial)))))))) (.named (f0 := "host") 3 T.k_BadHost (by decide) T.x_BadHost.gC (fun _ => rfl) (fun _ => by first | rfl | contradiction) rfl rfl rfl (by decide) (fun _ _ _ e18 _ hz hf hk => (dss_append 2 (de_exf T.x_BadHost hz hf 3) fun v20 => (dss_nil (a := v20) (And.intro (Or.inl rfl) (And.intro (Or.inl rfl) (And.intro (Or.inl rfl) (And.intro (Or.inr rfl) (trivial)))))))) .nil) fun q12 => (pss_k (l__law_wrong_hosts_4fc9_1 _ _ _) (dss_tryC (exA := fun (q21 : List D) => [.im a0, .im a1, .ow q21, .un]) (G' := [.im a0, .im a1, .ow q12, .un]) (L := [("BadGroup", "group"), ("BadHost", "host"), ("TooMany", "limit"), ("Twice", "name")]) C rfl rfl (fun W pn xe B C22 => (dss_exprE (de_meth (L := [("Groups", m_Groups_origins_a60a)]) C22 (de_var 0) (mt_origins T) (da_cons (de_var 1) da_nil)) (dss_nil (a := q12) (And.intro (Or.inl rfl) (And.intro (Or.inl rfl) (And.intro (Or.inl rfl) (And.intro (Or.inr rfl) (trivial)))))))) (.named (f0 := "host") 3 T.k_BadHost (by decide) T.x_BadHost.gC (fun _ => rfl) (fun _ => by first | rfl | contradiction) rfl rfl rfl (by decide) (fun _ _ _ e27 _ hz hf hk => (dss_append 2 (de_exf T.x_BadHost hz hf 3) fun v29 => (dss_nil (a := v29) (And.intro (Or.inl rfl) (And.intro (Or.inl rfl) (And.intro (Or.inl rfl) (And.intro (Or.inr rfl) (trivial)))))))) .nil) fun q21 => (dss_frz 2 rfl (pss_k (l__law_wrong_hosts_4fc9_0 _ _) (dss_ret (de_and (de_cmp (od_eq C.rm.units) (de_callB oc_len (by rfl) T.z_len rfl (da_cons (de_var 2) da_nil)) de_int (by rfl)) (de_and (de_fn C (g__law_same T) T.m__law_same T.F__law_same.kp T.b__law_same (da_cons (de_ix (de_var 2) de_int) (da_cons (de_var 1) da_nil)) n__law_same_9288) (de_and (de_fn C (g__law_same T) T.m__law_same T.F__law_same.kp T.b__law_same (da_cons (de_ix (de_var 2) de_int) (da_cons (de_var 1) da_nil)) n__law_same_9288) (de_one (de_fn C (g__law_same T) T.m__law_same T.F__law_same.kp T.b__law_same (da_cons (de_ix (de_var 2) de_int) (da_cons (de_var 1) da_nil)) n__law_same_9288))))))))))))))), rfl⟩
theorem g_Groups_init (T : Txt K mg A) : FnP P w K mg base 6 A.a_Groups_init [] (spI K mg ["hosts", "groups"] (fun _ => True) (starD 0 m_Groups_init_1887)) := by
  refine fnI_star (ps := ["self"]) (pv := "groups") (k := 5) (n := 0) T.F_Groups_init sc_Groups_init rfl (by decide) T.bs_Groups_init (fun cdv Ar outer s H Hf E o ds C hl => ?_)
  match ds, hl with
  | [a1], _ => exact ⟨b_Groups_init_1887 a1, (dss_parFF C 3 4 (df_list da_nil) (df_list da_nil) fun v1 v2 => (dss_for (exl := fun (q6 : List D × List D) => [.ob [] [], .im a1, .un, .ow q6.1, .ow q6.2, .un, .un]) (v1, v2) C (di_any (de_var 1)) (pgd_name C 2) (And.intro (Or.inl rfl) (And.intro (Or.inl rfl) (And.intro (Or.inr rfl) (And.intro (Or.inl rfl) (And.intro (Or.inl rfl) (And.intro (Or.inr rfl) (And.intro (Or.inr rfl) (trivial)))))))) (fun q6 c7 => (pss_k (l_Groups_init_1887_0 _ _) (dss_asgThaw C 5 4 (de_fn C (g_checked_group T) T.m_checked_group T.F_checked_group.kp T.b_checked_group (da_cons (de_var 2) (da_cons (de_var 4) da_nil)) n_checked_group_64d1) fun v8 => (dss_append 3 (de_var 5) fun v16 => (dss_augL C 4 (de_frz (df_callTy (oc_list C.calm) (by rfl) T.z_list rfl (da_cons (de_var 5) da_nil))) fun v18 => (dss_nil (a := (v16, v18)) (And.intro (Or.inl rfl) (And.intro (Or.inl rfl) (And.intro (Or.inr rfl) (And.intro (Or.inl rfl) (And.intro (Or.inl rfl) (And.intro (Or.inr rfl) (And.intro (Or.inr rfl) (trivial)))))))))))))) fun q23 => (dss_frz 3 rfl (pss_k (l_Groups_init_1887_2 _) (dss_if (exA := fun (q29 : Unit) => [.ob [] [], .im a1, .un, .im (.lst q23.1), .ow q23.2, .un, .un]) (dt_cmp (od_gt C.rm.units) (de_callB oc_len (by rfl) T.z_len rfl (da_cons (de_var 3) da_nil)) (de_globI (by rfl) T.c_MOST_GROUPS) (by rfl)) (dss_raise C T.x_TooMany (de_globI (by rfl) T.c_MOST_GROUPS)) (dss_nil (a := ()) (And.intro (Or.inl rfl) (And.intro (Or.inl rfl) (And.intro (Or.inr rfl) (And.intro (Or.inl rfl) (And.intro (Or.inl rfl) (And.intro (Or.inr rfl) (And.intro (Or.inr rfl) (trivial))))))))) fun q29 => (dss_fld (ns := []) (ds := []) (f := "hosts") 0 (de_callTy oc_tuple (by rfl) T.z_tuple rfl (da_cons (de_var 3) da_nil)) (fun v31 => (pss_k (l_Groups_init_1887_1 _ _) (dss_fld (ns := ["hosts"]) (ds := [v31]) (f := "groups") 0 (de_callTy oc_tuple (by rfl) T.z_tuple rfl (da_cons (de_frz (df_lc [("group", 2)] C (di_any (de_var 3)) (blkOk_by (N := N_Groups_init) (sc := defScope s_Groups_init) (by decide +kernel)) (fun s H A cl fp => (pgd_name (C.blk _ _ _ _ _) 2)) (fun s H A cl fp C37 c38 => pts_true) (fun s H A cl fp C37 c38 => (de_callTy oc_tuple (by rfl) T.z_tuple rfl (da_cons (de_frz (df_lc [("host", 6)] C37 (di_any (de_var 2)) (blkOk_by (by first | rfl | with_unfolding_all rfl | kernel_rfl)) (fun s H A cl fp => (pgd_name (C37.blk _ _ _ _ _) 6)) (fun s H A cl fp C40 c41 => pts_true) (fun s H A cl fp C40 c41 => (de_fn C40 (g_host_text T) T.m_host_text T.F_host_text.kp T.b_host_text (da_cons (de_var 6) da_nil) n_host_text_f5b6)) (by decide))) da_nil))) (by decide))) da_nil)) (fun v35 => (dss_nil (a := [v31, v35]) (And.intro (Or.inl rfl) (And.intro (Or.inr rfl) (And.intro (Or.inr rfl) (And.intro (Or.inr rfl) (And.intro (Or.inr rfl) (And.intro (Or.inr rfl) (And.intro (Or.inr rfl) (trivial)))))))))) (hm := (by decide +kernel : ("groups" : Str) ∈ (["hosts", "groups"] : List Str)))))) (hm := (by decide +kernel : ("hosts" : Str) ∈ (["hosts", "groups"] : List Str))))))))), rfl⟩
theorem g__law_made (T : Txt K mg A) : FnG P w K mg base 8 A.a__law_made A.f__law_made ["_law_some_here"] (spR K mg false 1 m__law_made_e8a3) := by
  refine fnR (nr := false) (k := 7) T.F__law_made sc__law_made rfl (by decide) (fun cdv Ar outer s H Hf E ds C hl => ?_)
  match ds, hl with
  | [a0], _ => exact ⟨b__law_made_e8a3 a0, (pss_k (l__law_made_e8a3_5 _) (dss_if (exA := fun (q6 : Unit) => [.im a0]) (dt_cmp (od_eq C.rm.units) (de_callB oc_len (by rfl) T.z_len rfl (da_cons (de_var 0) da_nil)) de_int (by rfl)) (dss_ret (de_make C T.C_Groups T.na_Groups T.M_Groups (g_Groups_init T) (da_cons (de_ix (de_var 0) de_int) da_nil) (fun _ _ => trivial))) (dss_nil (a := ()) (And.intro (Or.inl rfl) (trivial))) fun q6 => (dss_if (exA := fun (q19 : Unit) => [.im a0]) (dt_cmp (od_eq C.rm.units) (de_callB oc_len (by rfl) T.z_len rfl (da_cons (de_var 0) da_nil)) de_int (by rfl)) (pss_k (l__law_made_e8a3_0 _) (dss_ret (de_make C T.C_Groups T.na_Groups T.M_Groups (g_Groups_init T) (da_cons (de_ix (de_var 0) de_int) (da_cons (de_ix (de_var 0) de_int) da_nil)) (fun _ _ => trivial)))) (dss_nil (a := ()) (And.intro (Or.inl rfl) (trivial))) fun q19 => (pss_k (l__law_made_e8a3_4 _) (dss_if (exA := fun (q36 : Unit) => [.im a0]) (dt_cmp (od_eq C.rm.units) (de_callB oc_len (by rfl) T.z_len rfl (da_cons (de_var 0) da_nil)) de_int (by rfl)) (pss_k (l__law_made_e8a3_1 _) (dss_ret (de_make C T.C_Groups T.na_Groups T.M_Groups (g_Groups_init T) (da_cons (de_ix (de_var 0) de_int) (da_cons (de_ix (de_var 0) de_int) (da_cons (de_ix (de_var 0) de_int) da_nil))) (fun _ _ => trivial)))) (dss_nil (a := ()) (And.intro (Or.inl rfl) (trivial))) fun q36 => (dss_if (exA := fun (q57 : Unit) => [.im a0]) (dt_cmp (od_eq C.rm.units) (de_callB oc_len (by rfl) T.z_len rfl (da_cons (de_var 0) da_nil)) de_int (by rfl)) (pss_k (l__law_made_e8a3_2 _) (dss_ret (de_make C T.C_Groups T.na_Groups T.M_Groups (g_Groups_init T) (da_cons (de_ix (de_var 0) de_int) (da_cons (de_ix (de_var 0) de_int) (da_cons (de_ix (de_var 0) de_int) (da_cons (de_ix (de_var 0) de_int) da_nil)))) (fun _ _ => trivial)))) (dss_nil (a := ()) (And.intro (Or.inl rfl) (trivial))) fun q57 => (pss_k (l__law_made_e8a3_3 _) (dss_ret (de_make C T.C_Groups T.na_Groups T.M_Groups (g_Groups_init T) (da_cons (de_ix (de_var 0) de_int) (da_cons (de_ix (de_var 0) de_int) (da_cons (de_ix (de_var 0) de_int) (da_cons (de_ix (de_var 0) de_int) (da_cons (de_ix (de_var 0) de_int) da_nil))))) (fun _ _ => trivial)))))))))), rfl⟩
theorem g_law (T : Txt K mg A) : FnG P w K mg base 9 A.a_law A.f_law ["_law_script"] (spR K mg false 1 m_law_ef94) := by
  refine fnR (nr := false) (k := 8) T.F_law sc_law rfl (by decide) (fun cdv Ar outer s H Hf E ds C hl => ?_)
  match ds, hl with
  | [a0], _ => exact ⟨b_law_ef94 a0, (pss_k (l_law_ef94_11 _) (dss_bagW C 1 0 (g__law_bag T) T.m__law_bag T.F__law_bag.kp T.b__law_bag (fun L3 C4 => (dss_asg C4 2 (de_fnM C4 1 (g__law_pool T) T.m__law_pool T.F__law_pool.kp T.b__law_pool (da_cons de_int da_nil) n__law_pool_b280) fun v5 => (dss_asgOw C4 3 (df_fnM C4 1 (g__law_some T) T.m__law_some T.F__law_some.kp T.b__law_some (da_cons (de_var 2) da_nil) n__law_some_12afn) fun v9 => (pss_k (l_law_ef94_10 _ _) (dss_for (exl := fun (q20 : List D) => [.im a0, .bg, .im v5, .ow q20, .un, .un, .un, .un, .un, .un, .un, .un]) v9 C4 (di_range1 (by rfl) T.z_range (da_cons (de_fnM C4 1 (g__law_take T) T.m__law_take T.F__law_take.kp T.b__law_take (da_cons de_int da_nil) n__law_take_bb49) da_nil)) (pgd_name C4 4) (And.intro (Or.inl rfl) (And.intro (Or.inl rfl) (And.intro (Or.inl rfl) (And.intro (Or.inl rfl) (And.intro (Or.inr rfl) (And.intro (Or.inr rfl) (And.intro (Or.inr rfl) (And.intro (Or.inr rfl) (And.intro (Or.inr rfl) (And.intro (Or.inr rfl) (And.intro (Or.inr rfl) (And.intro (Or.inr rfl) (trivial))))))))))))) (fun q20 c21 => (dss_asg C4 7 (de_fnM C4 1 (g__law_take T) T.m__law_take T.F__law_take.kp T.b__law_take (da_cons (de_thaw 3 (de_callB oc_len (by rfl) T.z_len rfl (da_cons (de_var 3) da_nil))) da_nil) n__law_take_bb49) fun v22 => (pss_k (l_law_ef94_1 _ _ _) (dss_if (exA := fun (q48 : List D) => [.im a0, .bg, .im v5, .ow q48, .im c21, .un, .un, .im v22, .un, .un, .un, .un]) (dw_or (dt_cmp (od_eq C4.rm.units) (de_fnM C4 1 (g__law_take T) T.m__law_take T.F__law_take.kp T.b__law_take (da_cons de_int da_nil) n__law_take_bb49) de_int (by rfl)) (dw_or (dt_not (dt_tru (de_thaw 3 (de_isi2 "list" "tuple" (de_ix (de_var 3) (de_var 7)) (by rfl) T.z_isinstance (by rfl) T.z_list rfl (by rfl) T.z_tuple rfl)))) (dw_or1 (dt_thaw 3 (dt_cmp (od_eq C4.rm.units) (de_callB oc_len (by rfl) T.z_len rfl (da_cons (de_ix (de_var 3) (de_var 7)) da_nil)) de_int (by rfl)))))).pt (dss_setItem 3 (de_fnM C4 1 (g__law_odd_group T) T.m__law_odd_group T.F__law_odd_group.kp T.b__law_odd_group (da_cons (de_ix (de_var 2) de_int) da_nil) n__law_odd_group_c9dc) (de_var 7) fun v56 => (dss_nil (a := v56) (And.intro (Or.inl rfl) (And.intro (Or.inl rfl) (And.intro (Or.inl rfl) (And.intro (Or.inl rfl) (And.intro (Or.inl rfl) (And.intro (Or.inr rfl) (And.intro (Or.inr rfl) (And.intro (Or.inl rfl) (And.intro (Or.inr rfl) (And.intro (Or.inr rfl) (And.intro (Or.inr rfl) (And.intro (Or.inr rfl) (trivial))))))))))))))) (dss_asgOw C4 11 (df_callTy (oc_list C4.calm) (by rfl) T.z_list rfl (da_cons (de_owIx 3 (de_var 7)) da_nil)) fun v57 => (pss_k (l_law_ef94_0 _ _ _ _) (dss_setItem 11 (de_fnM C4 1 (g__law_odd_host T) T.m__law_odd_host T.F__law_odd_host.kp T.b__law_odd_host (da_cons (de_ix (de_var 2) de_int) da_nil) n__law_odd_host_3247) (de_fnM C4 1 (g__law_take T) T.m__law_take T.F__law_take.kp T.b__law_take (da_cons (de_thaw 11 (de_callB oc_len (by rfl) T.z_len rfl (da_cons (de_var 11) da_nil))) da_nil) n__law_take_bb49) fun v77 => (dss_frz 11 rfl (dss_setItem 3 (de_var 11) (de_var 7) fun v80 => (dss_nil (a := v80) (And.intro (Or.inl rfl) (And.intro (Or.inl rfl) (And.intro (Or.inl rfl) (And.intro (Or.inl rfl) (And.intro (Or.inl rfl) (And.intro (Or.inr rfl) (And.intro (Or.inr rfl) (And.intro (Or.inl rfl) (And.intro (Or.inr rfl) (And.intro (Or.inr rfl) (And.intro (Or.inr rfl) (And.intro (Or.inr rfl) (trivial))))))))))))))))))) fun q48 => (dss_nil (a := q48) (And.intro (Or.inl rfl) (And.intro (Or.inl rfl) (And.intro (Or.inl rfl) (And.intro (Or.inl rfl) (And.intro (Or.inr rfl) (And.intro (Or.inr rfl) (And.intro (Or.inr rfl) (And.intro (Or.inr rfl) (And.intro (Or.inr rfl) (And.intro (Or.inr rfl) (And.intro (Or.inr rfl) (And.intro (Or.inr rfl) (trivial)))))))))))))))))) fun q82 => (dss_frz 3 rfl (dss_par3 C4 8 9 10 (de_fn C4 (g__law_due T) T.m__law_due T.F__law_due.kp T.b__law_due (da_cons (de_var 3) da_nil) n__law_due_99cc) de_non (de_frz (df_list da_nil)) fun v88 v89 v90 => (pss_k (l_law_ef94_9 _ _ _ _) (dss_tryC (exA := fun (q91 : D × D) => [.im a0, .bg, .im v5, .im (.lst q82), .un, .un, .un, .un, .im v88, .im q91.1, .im q91.2, .un]) (G' := [.im a0, .bg, .im v5, .im (.lst q82), .un, .un, .un, .un, .im v88, .un, .im v90, .un]) (L := [("BadGroup", "group"), ("BadHost", "host"), ("TooMany", "limit"), ("Twice", "name")]) C4 rfl rfl (fun W pn xe B C92 => (dss_asg C92 9 (de_fn C92 (g__law_made T) T.m__law_made T.F__law_made.kp T.b__law_made (da_cons (de_var 3) da_nil) n__law_made_e8a3) fun v93 => (dss_nil (a := (v93, v90)) (And.intro (Or.inl rfl) (And.intro (Or.inl rfl) (And.intro (Or.inl rfl) (And.intro (Or.inl rfl) (And.intro (Or.inr rfl) (And.intro (Or.inr rfl) (And.intro (Or.inr rfl) (And.intro (Or.inr rfl) (And.intro (Or.inl rfl) (And.intro (Or.inl rfl) (And.intro (Or.inl rfl) (And.intro (Or.inr rfl) (trivial)))))))))))))))) (.named (f0 := "group") 5 T.k_BadGroup (by decide) T.x_BadGroup.gC (fun _ => rfl) (fun _ => by first | rfl | contradiction) rfl rfl rfl (by decide) (fun _ _ _ e97 _ hz hf hk => (pss_k (l_law_ef94_2 _) (dss_parEEH (hot_suite (hk (cool_none T.z_BadRule)) hf) (by exact C4.nd) 9 10 (de_tup (da_cons (de_str [103, 114, 111, 117, 112]) (da_cons (de_exf T.x_BadGroup hz hf 5) da_nil))) (de_frz (df_list (da_cons (de_isiX T.e_BadGroup hz hf 5 T.ki_BadGroup_ValueError (by rfl) T.z_isinstance (by rfl) T.z_ValueError rfl) (da_cons (de_not (de_isiX3 T.e_BadGroup hz hf 5 T.ko_BadGroup_BadHost T.ko_BadGroup_Twice T.ko_BadGroup_TooMany T.x_BadHost.gC T.x_Twice.gC T.x_TooMany.gC (by rfl) T.z_isinstance (by rfl) (by rfl) (by rfl))) da_nil)))) fun v98 v99 => (dss_nil (a := (v98, v99)) (And.intro (Or.inl rfl) (And.intro (Or.inl rfl) (And.intro (Or.inl rfl) (And.intro (Or.inl rfl) (And.intro (Or.inr rfl) (And.intro (Or.inr rfl) (And.intro (Or.inr rfl) (And.intro (Or.inr rfl) (And.intro (Or.inl rfl) (And.intro (Or.inl rfl) (And.intro (Or.inl rfl) (And.intro (Or.inr rfl) (trivial))))))))))))))))) (.named (f0 := "host") 5 T.k_BadHost (by decide) T.x_BadHost.gC (fun _ => rfl) (fun _ => by first | rfl | contradiction) rfl rfl rfl (by decide) (fun _ _ _ e111 _ hz hf hk => (pss_k (l_law_ef94_3 _) (dss_parEEH (hot_suite (hk (cool_none T.z_BadRule)) hf) (by exact C4.nd) 9 10 (de_tup (da_cons (de_str [104, 111, 115, 116]) (da_cons (de_exf T.x_BadHost hz hf 5) da_nil))) (de_frz (df_list (da_cons (de_isiX T.e_BadHost hz hf 5 T.ki_BadHost_ValueError (by rfl) T.z_isinstance (by rfl) T.z_ValueError rfl) (da_cons (de_not (de_isiX3 T.e_BadHost hz hf 5 T.ko_BadHost_BadGroup T.ko_BadHost_Twice T.ko_BadHost_TooMany T.x_BadGroup.gC T.x_Twice.gC T.x_TooMany.gC (by rfl) T.z_isinstance (by rfl) (by rfl) (by rfl))) da_nil)))) fun v112 v113 => (dss_nil (a := (v112, v113)) (And.intro (Or.inl rfl) (And.intro (Or.inl rfl) (And.intro (Or.inl rfl) (And.intro (Or.inl rfl) (And.intro (Or.inr rfl) (And.intro (Or.inr rfl) (And.intro (Or.inr rfl) (And.intro (Or.inr rfl) (And.intro (Or.inl rfl) (And.intro (Or.inl rfl) (And.intro (Or.inl rfl) (And.intro (Or.inr rfl) (trivial))))))))))))))))) (.named (f0 := "name") 5 T.k_Twice (by decide) T.x_Twice.gC (fun _ => rfl) (fun _ => by first | rfl | contradiction) rfl rfl rfl (by decide) (fun _ _ _ e125 _ hz hf hk => (pss_k (l_law_ef94_4 _) (dss_parEEH (hot_suite (hk (cool_none T.z_BadRule)) hf) (by exact C4.nd) 9 10 (de_tup (da_cons (de_str [116, 119, 105, 99, 101]) (da_cons (de_exf T.x_Twice hz hf 5) da_nil))) (de_frz (df_list (da_cons (de_isiX T.e_Twice hz hf 5 T.ki_Twice_ValueError (by rfl) T.z_isinstance (by rfl) T.z_ValueError rfl) (da_cons (de_not (de_isiX3 T.e_Twice hz hf 5 T.ko_Twice_BadGroup T.ko_Twice_BadHost T.ko_Twice_TooMany T.x_BadGroup.gC T.x_BadHost.gC T.x_TooMany.gC (by rfl) T.z_isinstance (by rfl) (by rfl) (by rfl))) da_nil)))) fun v126 v127 => (dss_nil (a := (v126, v127)) (And.intro (Or.inl rfl) (And.intro (Or.inl rfl) (And.intro (Or.inl rfl) (And.intro (Or.inl rfl) (And.intro (Or.inr rfl) (And.intro (Or.inr rfl) (And.intro (Or.inr rfl) (And.intro (Or.inr rfl) (And.intro (Or.inl rfl) (And.intro (Or.inl rfl) (And.intro (Or.inl rfl) (And.intro (Or.inr rfl) (trivial))))))))))))))))) (.named (f0 := "limit") 5 T.k_TooMany (by decide) T.x_TooMany.gC (fun _ => rfl) (fun _ => by first | rfl | contradiction) rfl rfl rfl (by decide) (fun _ _ _ e139 _ hz hf hk => (pss_k (l_law_ef94_5 _) (dss_parEEH (hot_suite (hk (cool_none T.z_BadRule)) hf) (by exact C4.nd) 9 10 (de_tup (da_cons (de_str [109, 97, 110, 121]) (da_cons (de_exf T.x_TooMany hz hf 5) da_nil))) (de_frz (df_list (da_cons (de_isiX T.e_TooMany hz hf 5 T.ki_TooMany_OverflowError (by rfl) T.z_isinstance (by rfl) T.z_OverflowError rfl) (da_cons (de_not (de_isiX3 T.e_TooMany hz hf 5 T.ko_TooMany_BadGroup T.ko_TooMany_BadHost T.ko_TooMany_Twice T.x_BadGroup.gC T.x_BadHost.gC T.x_Twice.gC (by rfl) T.z_isinstance (by rfl) (by rfl) (by rfl))) da_nil)))) fun v140 v141 => (dss_nil (a := (v140, v141)) (And.intro (Or.inl rfl) (And.intro (Or.inl rfl) (And.intro (Or.inl rfl) (And.intro (Or.inl rfl) (And.intro (Or.inr rfl) (And.intro (Or.inr rfl) (And.intro (Or.inr rfl) (And.intro (Or.inr rfl) (And.intro (Or.inl rfl) (And.intro (Or.inl rfl) (And.intro (Or.inl rfl) (And.intro (Or.inr rfl) (trivial))))))))))))))))) .nil)))) fun q91 => (dss_if (exA := fun (q155 : Unit) => [.im a0, .bg, .im v5, .im (.lst q82), .un, .un, .un, .un, .im v88, .im q91.1, .im q91.2, .un]) (dt_cmp od_isNot (de_var 8) de_non (by rfl)) (pss_k (l_law_ef94_6 _ _) (dss_ret (de_and (de_isi "tuple" (de_var 9) (by rfl) T.z_isinstance (by rfl) T.z_tuple rfl) (de_and (de_cmp (od_eq C4.rm.units) (de_ix (de_var 9) de_int) (de_ix (de_var 8) de_int) (by rfl)) (de_and (de_fn C4 (g__law_same T) T.m__law_same T.F__law_same.kp T.b__law_same (da_cons (de_ix (de_var 9) de_int) (da_cons (de_ix (de_var 8) de_int) da_nil)) n__law_same_9288) (de_one (de_cmp (od_eq C4.rm.units) (de_var 10) (de_frz (df_list (da_cons de_bl (da_cons de_bl da_nil)))) (by rfl)))))))) (dss_nil (a := ()) (And.intro (Or.inl rfl) (And.intro (Or.inl rfl) (And.intro (Or.inl rfl) (And.intro (Or.inl rfl) (And.intro (Or.inr rfl) (And.intro (Or.inr rfl) (And.intro (Or.inr rfl) (And.intro (Or.inr rfl) (And.intro (Or.inl rfl) (And.intro (Or.inl rfl) (And.intro (Or.inl rfl) (And.intro (Or.inr rfl) (trivial)))))))))))))) fun q155 => (pss_k (l_law_ef94_8 _ _ _) (dss_if (exA := fun (q195 : Unit) => [.im a0, .bg, .im v5, .im (.lst q82), .un, .un, .un, .un, .im v88, .im q91.1, .im q91.2, .un]) (dw_or (dt_not (dt_tru (de_isT (.own _) T.is_Groups (de_var 9) (pe_own T.C_Groups.mg) (by rfl) T.z_isinstance))) (dw_or1 (dt_cmp (od_ne C4.rm.units) (de_fld ["Groups"] (de_var 9) (fo_groups T)) (de_callTy oc_tuple (by rfl) T.z_tuple rfl (da_cons (de_frz (df_lc [("_law_group", 11)] C4 (di_any (de_var 3)) (blkOk_by (N := N_law) (sc := defScope s_law) (by decide +kernel)) (fun s H A cl fp => (pgd_name (C4.blk _ _ _ _ _) 11)) (fun s H A cl fp C184 c185 => pts_true) (fun s H A cl fp C184 c185 => (de_callTy oc_tuple (by rfl) T.z_tuple rfl (da_cons (de_var 11) da_nil))) (by decide))) da_nil)) (by rfl)))).pt (dss_ret de_bl) (dss_nil (a := ()) (And.intro (Or.inl rfl) (And.intro (Or.inl rfl) (And.intro (Or.inl rfl) (And.intro (Or.inl rfl) (And.intro (Or.inr rfl) (And.intro (Or.inr rfl) (And.intro (Or.inr rfl) (And.intro (Or.inr rfl) (And.intro (Or.inl rfl) (And.intro (Or.inl rfl) (And.intro (Or.inl rfl) (And.intro (Or.inr rfl) (trivial)))))))))))))) fun q195 => (pss_k (l_law_ef94_7 _ _) (dss_asg C4 6 (de_frz (df_list (da_cons (de_tup da_nil) (da_cons (de_frz (df_list (da_cons (de_ix (de_var 2) de_int) da_nil))) (da_cons (de_ix (de_var 2) de_int) (da_cons de_non (da_cons de_bl (da_cons de_int (da_cons (de_op od_mulT (de_tup (da_cons (de_ix (de_var 2) de_int) da_nil)) de_int) (da_cons (de_tup (da_cons (de_ix (de_var 2) de_int) (da_cons (de_str []) da_nil))) (da_cons (de_tup (da_cons (de_tup (da_cons (de_str [97]) da_nil)) da_nil)) (da_cons (de_tup (da_cons (de_ix (de_var 2) de_int) (da_cons de_int da_nil))) da_nil)))))))))))) fun v197 => (dss_ret (de_fn C4 (g__law_wrong_hosts T) T.m__law_wrong_hosts T.F__law_wrong_hosts.kp T.b__law_wrong_hosts (da_cons (de_var 9) (da_cons (de_fnM C4 1 (g__law_of T) T.m__law_of T.F__law_of.kp T.b__law_of (da_cons (de_var 6) da_nil) n__law_of_8ba0) da_nil)) n__law_wrong_hosts_4fc9)))))))))))))))) (fun _ => rfl) (fun _ => by first | rfl | contradiction))), rfl⟩
end
theorem all_mk {l : PySem.W.OpenLaw} {w : World} {K : PySem.W.Frag} {h : Heap} {mg : Str → Option Value} {fa : Addr} (X : K.In h) (G : h.Ns mainGlobals mg) (hfa : mg "law" = some (.ref fa))
    {od0 an0 : Option Addr} {sl0 : Array (Option Value)} {oc0 kV0 dc0 pm0 cd0 ct0 : Value} {f0 : Addr}
    {od1 an1 : Option Addr} {sl1 : Array (Option Value)} {oc1 kV1 dc1 pm1 cd1 ct1 : Value} {f1 : Addr}
    {od2 an2 : Option Addr} {sl2 : Array (Option Value)} {oc2 kV2 dc2 pm2 cd2 ct2 : Value} {f2 : Addr}
    {od3 an3 : Option Addr} {sl3 : Array (Option Value)} {oc3 kV3 dc3 pm3 cd3 ct3 : Value} {f3 : Addr}
    {od4 an4 : Option Addr} {sl4 : Array (Option Value)} {oc4 kV4 dc4 pm4 cd4 ct4 : Value} {f4 : Addr}
    {od5 an5 : Option Addr} {sl5 : Array (Option Value)} {oc5 kV5 dc5 pm5 cd5 ct5 : Value} {f5 : Addr}
    {od6 an6 : Option Addr} {sl6 : Array (Option Value)} {oc6 kV6 dc6 pm6 cd6 ct6 : Value} {f6 : Addr}
    {od7 an7 : Option Addr} {sl7 : Array (Option Value)} {oc7 kV7 dc7 pm7 cd7 ct7 : Value} {f7 : Addr}
    {od8 an8 : Option Addr} {sl8 : Array (Option Value)} {oc8 kV8 dc8 pm8 cd8 ct8 : Value} {f8 : Addr}
    {od9 an9 : Option Addr} {sl9 : Array (Option Value)} {oc9 kV9 dc9 pm9 cd9 ct9 : Value} {f9 : Addr}
    {od10 an10 : Option Addr} {sl10 : Array (Option Value)} {oc10 kV10 dc10 pm10 cd10 ct10 : Value} {f10 : Addr}
    {od11 an11 : Option Addr} {sl11 : Array (Option Value)} {oc11 kV11 dc11 pm11 cd11 ct11 : Value} {f11 : Addr}
    {od12 an12 : Option Addr} {sl12 : Array (Option Value)} {oc12 kV12 dc12 pm12 cd12 ct12 : Value} {f12 : Addr}
    {od13 an13 : Option Addr} {sl13 : Array (Option Value)} {oc13 kV13 dc13 pm13 cd13 ct13 : Value} {f13 : Addr}
    {od14 an14 : Option Addr} {sl14 : Array (Option Value)} {oc14 kV14 dc14 pm14 cd14 ct14 : Value} {f14 : Addr}
    {od15 an15 : Option Addr} {sl15 : Array (Option Value)} {oc15 kV15 dc15 pm15 cd15 ct15 : Value} {f15 : Addr}
    {od16 an16 : Option Addr} {sl16 : Array (Option Value)} {oc16 kV16 dc16 pm16 cd16 ct16 : Value} {f16 : Addr}
    {od17 an17 : Option Addr} {sl17 : Array (Option Value)} {oc17 kV17 dc17 pm17 cd17 ct17 : Value} {f17 : Addr}
    {od18 an18 : Option Addr} {sl18 : Array (Option Value)} {oc18 kV18 dc18 pm18 cd18 ct18 : Value} {f18 : Addr}
    {od19 an19 : Option Addr} {sl19 : Array (Option Value)} {oc19 kV19 dc19 pm19 cd19 ct19 : Value} {f19 : Addr}
    {od20 an20 : Option Addr} {sl20 : Array (Option Value)} {oc20 kV20 dc20 pm20 cd20 ct20 : Value} {f20 : Addr}
    {od21 an21 : Option Addr} {sl21 : Array (Option Value)} {oc21 kV21 dc21 pm21 cd21 ct21 : Value} {f21 : Addr}
    {od22 an22 : Option Addr} {sl22 : Array (Option Value)} {oc22 kV22 dc22 pm22 cd22 ct22 : Value} {f22 : Addr}
    {od23 an23 : Option Addr} {sl23 : Array (Option Value)} {oc23 kV23 dc23 pm23 cd23 ct23 : Value} {f23 : Addr}
    {od24 an24 : Option Addr} {sl24 : Array (Option Value)} {oc24 kV24 dc24 pm24 cd24 ct24 : Value} {f24 : Addr}
    {od25 an25 : Option Addr} {sl25 : Array (Option Value)} {oc25 kV25 dc25 pm25 cd25 ct25 : Value} {f25 : Addr}
    {od26 an26 : Option Addr} {sl26 : Array (Option Value)} {oc26 kV26 dc26 pm26 cd26 ct26 : Value} {f26 : Addr}
    {od27 an27 : Option Addr} {sl27 : Array (Option Value)} {oc27 kV27 dc27 pm27 cd27 ct27 : Value} {f27 : Addr}
    {od28 an28 : Option Addr} {sl28 : Array (Option Value)} {oc28 kV28 dc28 pm28 cd28 ct28 : Value} {f28 : Addr}
    {K_Groups : Addr} (aC_Groups : PySem.W.nsIn K mainGlobals "Groups" = some (some (.ref K_Groups))) (pg_Groups : PySem.W.plainGet K K_Groups Str.empty = true) (hd_Groups : PySem.W.hasDictIn K K_Groups = true) (po_Groups : PySem.W.plainOver K K_Groups = true) (sa_Groups : PySem.W.findIn K (.ref K_Groups) "__setattr__" = some (some (.builtin "object.__setattr__")))
    (ca_Groups : PySem.W.findIn K (.ref K_Groups) "__class__" = some (some (.builtin "object.__class__"))) (cn_Groups : PySem.W.specialIn K (.builtin "object.__class__") "__get__" = some (some (.builtin "getset_descriptor.__get__"))) (ct_Groups : PySem.W.takesIn K (.builtin "object.__class__") = some true) (cm_Groups : PySem.W.mroIn K K_Groups (.type "object") = some true)
    (nf_Groups_hosts : PySem.W.findIn K (.ref K_Groups) "hosts" = some none)
    (nf_Groups_groups : PySem.W.findIn K (.ref K_Groups) "groups" = some none)
    (mk_Groups : PySem.W.makesIn K K_Groups = true) (kc_Groups : PySem.W.keepIn K (.ref K_Groups) = true) (ai_Groups : PySem.W.findIn K (.ref K_Groups) "__init__" = some (some (.ref f26))) (fi_Groups : PySem.W.isFn K (.ref f26) = true)
    (mt_Groups_member : PySem.W.findIn K (.ref K_Groups) "member" = some (some (.ref f24))) (mf_Groups_member : PySem.W.isFn K (.ref f24) = true)
    (mt_Groups_origins : PySem.W.findIn K (.ref K_Groups) "origins" = some (some (.ref f22))) (mf_Groups_origins : PySem.W.isFn K (.ref f22) = true)
    (mt_Groups_translated : PySem.W.findIn K (.ref K_Groups) "translated" = some (some (.ref f21))) (mf_Groups_translated : PySem.W.isFn K (.ref f21) = true)
    (ic_Groups : PySem.W.isClsIn K K_Groups = true) (tc_Groups : PySem.W.typeIn K (.ref K_Groups) = some (.type "type"))
    (sC_Groups_Groups : PySem.W.subIn K (.ref K_Groups) (.ref K_Groups) = some true)
    (sb_Groups_NoneType : PySem.W.subIn K (.type "NoneType") (.ref K_Groups) = some false)
    (sb_Groups_bool : PySem.W.subIn K (.type "bool") (.ref K_Groups) = some false)
    (sb_Groups_int : PySem.W.subIn K (.type "int") (.ref K_Groups) = some false)
    (sb_Groups_str : PySem.W.subIn K (.type "str") (.ref K_Groups) = some false)
    (sb_Groups_tuple : PySem.W.subIn K (.type "tuple") (.ref K_Groups) = some false)
    (sb_Groups_list : PySem.W.subIn K (.type "list") (.ref K_Groups) = some false)
    (sb_Groups_dict : PySem.W.subIn K (.type "dict") (.ref K_Groups) = some false)
    (a0 : PySem.W.nsIn K mainGlobals "is_label" = some (some (.ref f0)))
    (l0 : K.lookup f0 = some ⟨oc0, od0, .func (PySem.W.fnOf "is_label" "is_label" (defArgs s_is_label) (defBody s_is_label) (defScope s_is_label) .none kV0 dc0 pm0 an0 cd0 ct0), sl0⟩) (c0 : PySem.W.codeIn K cd0 "is_label" = true) (k0 : PySem.W.keepIn K (.ref f0) = true)
    (a1 : PySem.W.nsIn K mainGlobals "row_key" = some (some (.ref f1)))
    (l1 : K.lookup f1 = some ⟨oc1, od1, .func (PySem.W.fnOf "row_key" "row_key" (defArgs s_row_key) (defBody s_row_key) (defScope s_row_key) .none kV1 dc1 pm1 an1 cd1 ct1), sl1⟩) (c1 : PySem.W.codeIn K cd1 "row_key" = true) (k1 : PySem.W.keepIn K (.ref f1) = true)
    (a2 : PySem.W.nsIn K mainGlobals "ends_with" = some (some (.ref f2)))
    (l2 : K.lookup f2 = some ⟨oc2, od2, .func (PySem.W.fnOf "ends_with" "ends_with" (defArgs s_ends_with) (defBody s_ends_with) (defScope s_ends_with) .none kV2 dc2 pm2 an2 cd2 ct2), sl2⟩) (c2 : PySem.W.codeIn K cd2 "ends_with" = true) (k2 : PySem.W.keepIn K (.ref f2) = true)
    (a3 : PySem.W.nsIn K mainGlobals "_law_bag" = some (some (.ref f3)))
    (l3 : K.lookup f3 = some ⟨oc3, od3, .func (PySem.W.fnOf "_law_bag" "_law_bag" (defArgs s__law_bag) (defBody s__law_bag) (defScope s__law_bag) .none kV3 dc3 pm3 an3 cd3 ct3), sl3⟩) (c3 : PySem.W.codeIn K cd3 "_law_bag" = true) (k3 : PySem.W.keepIn K (.ref f3) = true)
    (a4 : PySem.W.nsIn K mainGlobals "_law_take" = some (some (.ref f4)))
    (l4 : K.lookup f4 = some ⟨oc4, od4, .func (PySem.W.fnOf "_law_take" "_law_take" (defArgs s__law_take) (defBody s__law_take) (defScope s__law_take) .none kV4 dc4 pm4 an4 cd4 ct4), sl4⟩) (c4 : PySem.W.codeIn K cd4 "_law_take" = true) (k4 : PySem.W.keepIn K (.ref f4) = true)
    (a5 : PySem.W.nsIn K mainGlobals "_law_is_good" = some (some (.ref f5)))
    (l5 : K.lookup f5 = some ⟨oc5, od5, .func (PySem.W.fnOf "_law_is_good" "_law_is_good" (defArgs s__law_is_good) (defBody s__law_is_good) (defScope s__law_is_good) .none kV5 dc5 pm5 an5 cd5 ct5), sl5⟩) (c5 : PySem.W.codeIn K cd5 "_law_is_good" = true) (k5 : PySem.W.keepIn K (.ref f5) = true)
    (a6 : PySem.W.nsIn K mainGlobals "_law_same" = some (some (.ref f6)))
    (l6 : K.lookup f6 = some ⟨oc6, od6, .func (PySem.W.fnOf "_law_same" "_law_same" (defArgs s__law_same) (defBody s__law_same) (defScope s__law_same) .none kV6 dc6 pm6 an6 cd6 ct6), sl6⟩) (c6 : PySem.W.codeIn K cd6 "_law_same" = true) (k6 : PySem.W.keepIn K (.ref f6) = true)
    (a7 : PySem.W.nsIn K mainGlobals "is_path" = some (some (.ref f7)))
    (l7 : K.lookup f7 = some ⟨oc7, od7, .func (PySem.W.fnOf "is_path" "is_path" (defArgs s_is_path) (defBody s_is_path) (defScope s_is_path) .none kV7 dc7 pm7 an7 cd7 ct7), sl7⟩) (c7 : PySem.W.codeIn K cd7 "is_path" = true) (k7 : PySem.W.keepIn K (.ref f7) = true)
    (a8 : PySem.W.nsIn K mainGlobals "host_key" = some (some (.ref f8)))
    (l8 : K.lookup f8 = some ⟨oc8, od8, .func (PySem.W.fnOf "host_key" "host_key" (defArgs s_host_key) (defBody s_host_key) (defScope s_host_key) .none kV8 dc8 pm8 an8 cd8 ct8), sl8⟩) (c8 : PySem.W.codeIn K cd8 "host_key" = true) (k8 : PySem.W.keepIn K (.ref f8) = true)
    (a9 : PySem.W.nsIn K mainGlobals "member_and_head" = some (some (.ref f9)))
    (l9 : K.lookup f9 = some ⟨oc9, od9, .func (PySem.W.fnOf "member_and_head" "member_and_head" (defArgs s_member_and_head) (defBody s_member_and_head) (defScope s_member_and_head) .none kV9 dc9 pm9 an9 cd9 ct9), sl9⟩) (c9 : PySem.W.codeIn K cd9 "member_and_head" = true) (k9 : PySem.W.keepIn K (.ref f9) = true)
    (a10 : PySem.W.nsIn K mainGlobals "_law_of" = some (some (.ref f10)))
    (l10 : K.lookup f10 = some ⟨oc10, od10, .func (PySem.W.fnOf "_law_of" "_law_of" (defArgs s__law_of) (defBody s__law_of) (defScope s__law_of) .none kV10 dc10 pm10 an10 cd10 ct10), sl10⟩) (c10 : PySem.W.codeIn K cd10 "_law_of" = true) (k10 : PySem.W.keepIn K (.ref f10) = true)
    (a11 : PySem.W.nsIn K mainGlobals "_law_label" = some (some (.ref f11)))
    (l11 : K.lookup f11 = some ⟨oc11, od11, .func (PySem.W.fnOf "_law_label" "_law_label" (defArgs s__law_label) (defBody s__law_label) (defScope s__law_label) .none kV11 dc11 pm11 an11 cd11 ct11), sl11⟩) (c11 : PySem.W.codeIn K cd11 "_law_label" = true) (k11 : PySem.W.keepIn K (.ref f11) = true)
    (a12 : PySem.W.nsIn K mainGlobals "_law_due" = some (some (.ref f12)))
    (l12 : K.lookup f12 = some ⟨oc12, od12, .func (PySem.W.fnOf "_law_due" "_law_due" (defArgs s__law_due) (defBody s__law_due) (defScope s__law_due) .none kV12 dc12 pm12 an12 cd12 ct12), sl12⟩) (c12 : PySem.W.codeIn K cd12 "_law_due" = true) (k12 : PySem.W.keepIn K (.ref f12) = true)
    (a13 : PySem.W.nsIn K mainGlobals "is_host" = some (some (.ref f13)))
    (l13 : K.lookup f13 = some ⟨oc13, od13, .func (PySem.W.fnOf "is_host" "is_host" (defArgs s_is_host) (defBody s_is_host) (defScope s_is_host) .none kV13 dc13 pm13 an13 cd13 ct13), sl13⟩) (c13 : PySem.W.codeIn K cd13 "is_host" = true) (k13 : PySem.W.keepIn K (.ref f13) = true)
    (a14 : PySem.W.nsIn K mainGlobals "moved" = some (some (.ref f14)))
    (l14 : K.lookup f14 = some ⟨oc14, od14, .func (PySem.W.fnOf "moved" "moved" (defArgs s_moved) (defBody s_moved) (defScope s_moved) .none kV14 dc14 pm14 an14 cd14 ct14), sl14⟩) (c14 : PySem.W.codeIn K cd14 "moved" = true) (k14 : PySem.W.keepIn K (.ref f14) = true)
    (a15 : PySem.W.nsIn K mainGlobals "_law_pool" = some (some (.ref f15)))
    (l15 : K.lookup f15 = some ⟨oc15, od15, .func (PySem.W.fnOf "_law_pool" "_law_pool" (defArgs s__law_pool) (defBody s__law_pool) (defScope s__law_pool) .none kV15 dc15 pm15 an15 cd15 ct15), sl15⟩) (c15 : PySem.W.codeIn K cd15 "_law_pool" = true) (k15 : PySem.W.keepIn K (.ref f15) = true)
    (a16 : PySem.W.nsIn K mainGlobals "_law_odd_group" = some (some (.ref f16)))
    (l16 : K.lookup f16 = some ⟨oc16, od16, .func (PySem.W.fnOf "_law_odd_group" "_law_odd_group" (defArgs s__law_odd_group) (defBody s__law_odd_group) (defScope s__law_odd_group) .none kV16 dc16 pm16 an16 cd16 ct16), sl16⟩) (c16 : PySem.W.codeIn K cd16 "_law_odd_group" = true) (k16 : PySem.W.keepIn K (.ref f16) = true)
    (a17 : PySem.W.nsIn K mainGlobals "_law_odd_host" = some (some (.ref f17)))
    (l17 : K.lookup f17 = some ⟨oc17, od17, .func (PySem.W.fnOf "_law_odd_host" "_law_odd_host" (defArgs s__law_odd_host) (defBody s__law_odd_host) (defScope s__law_odd_host) .none kV17 dc17 pm17 an17 cd17 ct17), sl17⟩) (c17 : PySem.W.codeIn K cd17 "_law_odd_host" = true) (k17 : PySem.W.keepIn K (.ref f17) = true)
    (a18 : PySem.W.nsIn K mainGlobals "_law_some" = some (some (.ref f18)))
    (l18 : K.lookup f18 = some ⟨oc18, od18, .func (PySem.W.fnOf "_law_some" "_law_some" (defArgs s__law_some) (defBody s__law_some) (defScope s__law_some) .none kV18 dc18 pm18 an18 cd18 ct18), sl18⟩) (c18 : PySem.W.codeIn K cd18 "_law_some" = true) (k18 : PySem.W.keepIn K (.ref f18) = true)
    (a19 : PySem.W.nsIn K mainGlobals "host_of" = some (some (.ref f19)))
    (l19 : K.lookup f19 = some ⟨oc19, od19, .func (PySem.W.fnOf "host_of" "host_of" (defArgs s_host_of) (defBody s_host_of) (defScope s_host_of) .none kV19 dc19 pm19 an19 cd19 ct19), sl19⟩) (c19 : PySem.W.codeIn K cd19 "host_of" = true) (k19 : PySem.W.keepIn K (.ref f19) = true)
    (a20 : PySem.W.nsIn K mainGlobals "host_text" = some (some (.ref f20)))
    (l20 : K.lookup f20 = some ⟨oc20, od20, .func (PySem.W.fnOf "host_text" "host_text" (defArgs s_host_text) (defBody s_host_text) (defScope s_host_text) .none kV20 dc20 pm20 an20 cd20 ct20), sl20⟩) (c20 : PySem.W.codeIn K cd20 "host_text" = true) (k20 : PySem.W.keepIn K (.ref f20) = true)
    (l21 : K.lookup f21 = some ⟨oc21, od21, .func (PySem.W.fnOf "translated" "Groups.translated" (defArgs s_Groups_translated) (defBody s_Groups_translated) (defScope s_Groups_translated) .none kV21 dc21 pm21 an21 cd21 ct21), sl21⟩) (c21 : PySem.W.codeIn K cd21 "Groups.translated" = true) (k21 : PySem.W.keepIn K (.ref f21) = true)
    (l22 : K.lookup f22 = some ⟨oc22, od22, .func (PySem.W.fnOf "origins" "Groups.origins" (defArgs s_Groups_origins) (defBody s_Groups_origins) (defScope s_Groups_origins) .none kV22 dc22 pm22 an22 cd22 ct22), sl22⟩) (c22 : PySem.W.codeIn K cd22 "Groups.origins" = true) (k22 : PySem.W.keepIn K (.ref f22) = true)
    (a23 : PySem.W.nsIn K mainGlobals "checked_group" = some (some (.ref f23)))
    (l23 : K.lookup f23 = some ⟨oc23, od23, .func (PySem.W.fnOf "checked_group" "checked_group" (defArgs s_checked_group) (defBody s_checked_group) (defScope s_checked_group) .none kV23 dc23 pm23 an23 cd23 ct23), sl23⟩) (c23 : PySem.W.codeIn K cd23 "checked_group" = true) (k23 : PySem.W.keepIn K (.ref f23) = true)
    (l24 : K.lookup f24 = some ⟨oc24, od24, .func (PySem.W.fnOf "member" "Groups.member" (defArgs s_Groups_member) (defBody s_Groups_member) (defScope s_Groups_member) .none kV24 dc24 pm24 an24 cd24 ct24), sl24⟩) (c24 : PySem.W.codeIn K cd24 "Groups.member" = true) (k24 : PySem.W.keepIn K (.ref f24) = true)
    (a25 : PySem.W.nsIn K mainGlobals "_law_wrong_hosts" = some (some (.ref f25)))
    (l25 : K.lookup f25 = some ⟨oc25, od25, .func (PySem.W.fnOf "_law_wrong_hosts" "_law_wrong_hosts" (defArgs s__law_wrong_hosts) (defBody s__law_wrong_hosts) (defScope s__law_wrong_hosts) .none kV25 dc25 pm25 an25 cd25 ct25), sl25⟩) (c25 : PySem.W.codeIn K cd25 "_law_wrong_hosts" = true) (k25 : PySem.W.keepIn K (.ref f25) = true)
    (l26 : K.lookup f26 = some ⟨oc26, od26, .func (PySem.W.fnOf "__init__" "Groups.__init__" (defArgs s_Groups_init) (defBody s_Groups_init) (defScope s_Groups_init) .none kV26 dc26 pm26 an26 cd26 ct26), sl26⟩) (c26 : PySem.W.codeIn K cd26 "Groups.__init__" = true) (k26 : PySem.W.keepIn K (.ref f26) = true)
    (a27 : PySem.W.nsIn K mainGlobals "_law_made" = some (some (.ref f27)))
    (l27 : K.lookup f27 = some ⟨oc27, od27, .func (PySem.W.fnOf "_law_made" "_law_made" (defArgs s__law_made) (defBody s__law_made) (defScope s__law_made) .none kV27 dc27 pm27 an27 cd27 ct27), sl27⟩) (c27 : PySem.W.codeIn K cd27 "_law_made" = true) (k27 : PySem.W.keepIn K (.ref f27) = true)
    (a28 : PySem.W.nsIn K mainGlobals "law" = some (some (.ref f28)))
    (l28 : K.lookup f28 = some ⟨oc28, od28, .func (PySem.W.fnOf "law" "law" (defArgs s_law) (defBody s_law) (defScope s_law) .none kV28 dc28 pm28 an28 cd28 ct28), sl28⟩) (c28 : PySem.W.codeIn K cd28 "law" = true) (k28 : PySem.W.keepIn K (.ref f28) = true)
    {Cx_BadGroup fx_BadGroup : Addr} {odx_BadGroup anx_BadGroup : Option Addr} {slx_BadGroup : Array (Option Value)} {ocx_BadGroup dcx_BadGroup pmx_BadGroup cdx_BadGroup ctx_BadGroup : Value}
    (aC_BadGroup : PySem.W.nsIn K mainGlobals "BadGroup" = some (some (.ref Cx_BadGroup))) (xL_BadGroup : ∃ (b : PySem.OwnX.XB) (nm q : Str) (N : Addr) (bs bm : List Value) (sn : List Str) (sub : List Value) (ab : Bool) (col : Option Bool) (dd : Option Addr) (k0 k1 k2 k3 k5 : Option Value), K.lookup Cx_BadGroup = some (excClassObj nm q Cx_BadGroup N bs bm true sn sub ab col dd k0 k1 k2 k3 k5 b.nw) ∧ PySem.OwnX.overB b bm = true)
    (sa_BadGroup : PySem.W.findIn K (.ref Cx_BadGroup) "__setattr__" = some (some (.builtin "object.__setattr__"))) (ga_BadGroup : PySem.W.findIn K (.ref Cx_BadGroup) "__getattribute__" = some (some (.builtin "BaseException.__getattribute__"))) (gg_BadGroup : PySem.W.findIn K (.ref Cx_BadGroup) "__getattr__" = some none) (nb_BadGroup : PySem.W.findIn K (.ref Cx_BadGroup) "group" = some none)
    (ai_BadGroup : PySem.W.findIn K (.ref Cx_BadGroup) "__init__" = some (some (.ref fx_BadGroup))) (ti_BadGroup : PySem.W.typeIn K (.ref fx_BadGroup) = some (.type "function"))
    (li_BadGroup : K.lookup fx_BadGroup = some ⟨ocx_BadGroup, odx_BadGroup, .func (PySem.W.fnOf "__init__" "BadGroup.__init__" (PySem.OwnX.iA "group" ⟨11, 17, 11, 21⟩ ⟨11, 23, 11, 28⟩) (PySem.OwnX.iB "group" ⟨12, 8, 12, 12⟩ ⟨12, 8, 12, 18⟩ ⟨12, 21, 12, 26⟩ ⟨12, 8, 12, 26⟩) (PySem.OwnX.iS "group") .none .none dcx_BadGroup pmx_BadGroup anx_BadGroup cdx_BadGroup ctx_BadGroup), slx_BadGroup⟩) (ci_BadGroup : PySem.W.codeIn K cdx_BadGroup "BadGroup.__init__" = true)
    (kC_BadGroup : PySem.W.keepIn K (.ref Cx_BadGroup) = true) (eC_BadGroup : PySem.W.subIn K (.ref Cx_BadGroup) (.type "BaseException") = some true) (tC_BadGroup : PySem.W.typeIn K (.ref Cx_BadGroup) = some (.type "type")) (hC_BadGroup : PySem.W.hasDictIn K Cx_BadGroup = true) (iC_BadGroup : PySem.W.isClsIn K Cx_BadGroup = true) (sC_BadGroup : PySem.W.subIn K (.ref Cx_BadGroup) (.ref Cx_BadGroup) = some true)
    {Cx_BadHost fx_BadHost : Addr} {odx_BadHost anx_BadHost : Option Addr} {slx_BadHost : Array (Option Value)} {ocx_BadHost dcx_BadHost pmx_BadHost cdx_BadHost ctx_BadHost : Value}
    (aC_BadHost : PySem.W.nsIn K mainGlobals "BadHost" = some (some (.ref Cx_BadHost))) (xL_BadHost : ∃ (b : PySem.OwnX.XB) (nm q : Str) (N : Addr) (bs bm : List Value) (sn : List Str) (sub : List Value) (ab : Bool) (col : Option Bool) (dd : Option Addr) (k0 k1 k2 k3 k5 : Option Value), K.lookup Cx_BadHost = some (excClassObj nm q Cx_BadHost N bs bm true sn sub ab col dd k0 k1 k2 k3 k5 b.nw) ∧ PySem.OwnX.overB b bm = true)
    (sa_BadHost : PySem.W.findIn K (.ref Cx_BadHost) "__setattr__" = some (some (.builtin "object.__setattr__"))) (ga_BadHost : PySem.W.findIn K (.ref Cx_BadHost) "__getattribute__" = some (some (.builtin "BaseException.__getattribute__"))) (gg_BadHost : PySem.W.findIn K (.ref Cx_BadHost) "__getattr__" = some none) (nb_BadHost : PySem.W.findIn K (.ref Cx_BadHost) "host" = some none)
    (ai_BadHost : PySem.W.findIn K (.ref Cx_BadHost) "__init__" = some (some (.ref fx_BadHost))) (ti_BadHost : PySem.W.typeIn K (.ref fx_BadHost) = some (.type "function"))
    (li_BadHost : K.lookup fx_BadHost = some ⟨ocx_BadHost, odx_BadHost, .func (PySem.W.fnOf "__init__" "BadHost.__init__" (PySem.OwnX.iA "host" ⟨7, 17, 7, 21⟩ ⟨7, 23, 7, 27⟩) (PySem.OwnX.iB "host" ⟨8, 8, 8, 12⟩ ⟨8, 8, 8, 17⟩ ⟨8, 20, 8, 24⟩ ⟨8, 8, 8, 24⟩) (PySem.OwnX.iS "host") .none .none dcx_BadHost pmx_BadHost anx_BadHost cdx_BadHost ctx_BadHost), slx_BadHost⟩) (ci_BadHost : PySem.W.codeIn K cdx_BadHost "BadHost.__init__" = true)
    (kC_BadHost : PySem.W.keepIn K (.ref Cx_BadHost) = true) (eC_BadHost : PySem.W.subIn K (.ref Cx_BadHost) (.type "BaseException") = some true) (tC_BadHost : PySem.W.typeIn K (.ref Cx_BadHost) = some (.type "type")) (hC_BadHost : PySem.W.hasDictIn K Cx_BadHost = true) (iC_BadHost : PySem.W.isClsIn K Cx_BadHost = true) (sC_BadHost : PySem.W.subIn K (.ref Cx_BadHost) (.ref Cx_BadHost) = some true)
    {Cx_TooMany fx_TooMany : Addr} {odx_TooMany anx_TooMany : Option Addr} {slx_TooMany : Array (Option Value)} {ocx_TooMany dcx_TooMany pmx_TooMany cdx_TooMany ctx_TooMany : Value}
    (aC_TooMany : PySem.W.nsIn K mainGlobals "TooMany" = some (some (.ref Cx_TooMany))) (xL_TooMany : ∃ (b : PySem.OwnX.XB) (nm q : Str) (N : Addr) (bs bm : List Value) (sn : List Str) (sub : List Value) (ab : Bool) (col : Option Bool) (dd : Option Addr) (k0 k1 k2 k3 k5 : Option Value), K.lookup Cx_TooMany = some (excClassObj nm q Cx_TooMany N bs bm true sn sub ab col dd k0 k1 k2 k3 k5 b.nw) ∧ PySem.OwnX.overB b bm = true)
    (sa_TooMany : PySem.W.findIn K (.ref Cx_TooMany) "__setattr__" = some (some (.builtin "object.__setattr__"))) (ga_TooMany : PySem.W.findIn K (.ref Cx_TooMany) "__getattribute__" = some (some (.builtin "BaseException.__getattribute__"))) (gg_TooMany : PySem.W.findIn K (.ref Cx_TooMany) "__getattr__" = some none) (nb_TooMany : PySem.W.findIn K (.ref Cx_TooMany) "limit" = some none)
    (ai_TooMany : PySem.W.findIn K (.ref Cx_TooMany) "__init__" = some (some (.ref fx_TooMany))) (ti_TooMany : PySem.W.typeIn K (.ref fx_TooMany) = some (.type "function"))
    (li_TooMany : K.lookup fx_TooMany = some ⟨ocx_TooMany, odx_TooMany, .func (PySem.W.fnOf "__init__" "TooMany.__init__" (PySem.OwnX.iA "limit" ⟨19, 17, 19, 21⟩ ⟨19, 23, 19, 28⟩) (PySem.OwnX.iB "limit" ⟨20, 8, 20, 12⟩ ⟨20, 8, 20, 18⟩ ⟨20, 21, 20, 26⟩ ⟨20, 8, 20, 26⟩) (PySem.OwnX.iS "limit") .none .none dcx_TooMany pmx_TooMany anx_TooMany cdx_TooMany ctx_TooMany), slx_TooMany⟩) (ci_TooMany : PySem.W.codeIn K cdx_TooMany "TooMany.__init__" = true)
    (kC_TooMany : PySem.W.keepIn K (.ref Cx_TooMany) = true) (eC_TooMany : PySem.W.subIn K (.ref Cx_TooMany) (.type "BaseException") = some true) (tC_TooMany : PySem.W.typeIn K (.ref Cx_TooMany) = some (.type "type")) (hC_TooMany : PySem.W.hasDictIn K Cx_TooMany = true) (iC_TooMany : PySem.W.isClsIn K Cx_TooMany = true) (sC_TooMany : PySem.W.subIn K (.ref Cx_TooMany) (.ref Cx_TooMany) = some true)
    {Cx_Twice fx_Twice : Addr} {odx_Twice anx_Twice : Option Addr} {slx_Twice : Array (Option Value)} {ocx_Twice dcx_Twice pmx_Twice cdx_Twice ctx_Twice : Value}
    (aC_Twice : PySem.W.nsIn K mainGlobals "Twice" = some (some (.ref Cx_Twice))) (xL_Twice : ∃ (b : PySem.OwnX.XB) (nm q : Str) (N : Addr) (bs bm : List Value) (sn : List Str) (sub : List Value) (ab : Bool) (col : Option Bool) (dd : Option Addr) (k0 k1 k2 k3 k5 : Option Value), K.lookup Cx_Twice = some (excClassObj nm q Cx_Twice N bs bm true sn sub ab col dd k0 k1 k2 k3 k5 b.nw) ∧ PySem.OwnX.overB b bm = true)
    (sa_Twice : PySem.W.findIn K (.ref Cx_Twice) "__setattr__" = some (some (.builtin "object.__setattr__"))) (ga_Twice : PySem.W.findIn K (.ref Cx_Twice) "__getattribute__" = some (some (.builtin "BaseException.__getattribute__"))) (gg_Twice : PySem.W.findIn K (.ref Cx_Twice) "__getattr__" = some none) (nb_Twice : PySem.W.findIn K (.ref Cx_Twice) "name" = some none)
    (ai_Twice : PySem.W.findIn K (.ref Cx_Twice) "__init__" = some (some (.ref fx_Twice))) (ti_Twice : PySem.W.typeIn K (.ref fx_Twice) = some (.type "function"))
    (li_Twice : K.lookup fx_Twice = some ⟨ocx_Twice, odx_Twice, .func (PySem.W.fnOf "__init__" "Twice.__init__" (PySem.OwnX.iA "name" ⟨15, 17, 15, 21⟩ ⟨15, 23, 15, 27⟩) (PySem.OwnX.iB "name" ⟨16, 8, 16, 12⟩ ⟨16, 8, 16, 17⟩ ⟨16, 20, 16, 24⟩ ⟨16, 8, 16, 24⟩) (PySem.OwnX.iS "name") .none .none dcx_Twice pmx_Twice anx_Twice cdx_Twice ctx_Twice), slx_Twice⟩) (ci_Twice : PySem.W.codeIn K cdx_Twice "Twice.__init__" = true)
    (kC_Twice : PySem.W.keepIn K (.ref Cx_Twice) = true) (eC_Twice : PySem.W.subIn K (.ref Cx_Twice) (.type "BaseException") = some true) (tC_Twice : PySem.W.typeIn K (.ref Cx_Twice) = some (.type "type")) (hC_Twice : PySem.W.hasDictIn K Cx_Twice = true) (iC_Twice : PySem.W.isClsIn K Cx_Twice = true) (sC_Twice : PySem.W.subIn K (.ref Cx_Twice) (.ref Cx_Twice) = some true)
    (ea_BadGroup : PySem.W.findIn K (.ref Cx_BadGroup) "__class__" = some (some (.builtin "object.__class__"))) (en_BadGroup : PySem.W.specialIn K (.builtin "object.__class__") "__get__" = some (some (.builtin "getset_descriptor.__get__"))) (et_BadGroup : PySem.W.takesIn K (.builtin "object.__class__") = some true) (em_BadGroup : PySem.W.mroIn K Cx_BadGroup (.type "object") = some true)
    (ea_BadHost : PySem.W.findIn K (.ref Cx_BadHost) "__class__" = some (some (.builtin "object.__class__"))) (en_BadHost : PySem.W.specialIn K (.builtin "object.__class__") "__get__" = some (some (.builtin "getset_descriptor.__get__"))) (et_BadHost : PySem.W.takesIn K (.builtin "object.__class__") = some true) (em_BadHost : PySem.W.mroIn K Cx_BadHost (.type "object") = some true)
    (ea_TooMany : PySem.W.findIn K (.ref Cx_TooMany) "__class__" = some (some (.builtin "object.__class__"))) (en_TooMany : PySem.W.specialIn K (.builtin "object.__class__") "__get__" = some (some (.builtin "getset_descriptor.__get__"))) (et_TooMany : PySem.W.takesIn K (.builtin "object.__class__") = some true) (em_TooMany : PySem.W.mroIn K Cx_TooMany (.type "object") = some true)
    (ea_Twice : PySem.W.findIn K (.ref Cx_Twice) "__class__" = some (some (.builtin "object.__class__"))) (en_Twice : PySem.W.specialIn K (.builtin "object.__class__") "__get__" = some (some (.builtin "getset_descriptor.__get__"))) (et_Twice : PySem.W.takesIn K (.builtin "object.__class__") = some true) (em_Twice : PySem.W.mroIn K Cx_Twice (.type "object") = some true)
    (ki_BadGroup_ValueError : PySem.W.subIn K (.ref Cx_BadGroup) (.type "ValueError") = some true)
    (ki_BadHost_ValueError : PySem.W.subIn K (.ref Cx_BadHost) (.type "ValueError") = some true)
    (ki_TooMany_OverflowError : PySem.W.subIn K (.ref Cx_TooMany) (.type "OverflowError") = some true)
    (ki_Twice_ValueError : PySem.W.subIn K (.ref Cx_Twice) (.type "ValueError") = some true)
    (kn_BadGroup_BadGroup : PySem.W.subIn K (.ref Cx_BadGroup) (.ref Cx_BadGroup) = some true)
    (kn_BadHost_BadGroup : PySem.W.subIn K (.ref Cx_BadHost) (.ref Cx_BadGroup) = some false)
    (kn_TooMany_BadGroup : PySem.W.subIn K (.ref Cx_TooMany) (.ref Cx_BadGroup) = some false)
    (kn_Twice_BadGroup : PySem.W.subIn K (.ref Cx_Twice) (.ref Cx_BadGroup) = some false)
    (kn_BadGroup_BadHost : PySem.W.subIn K (.ref Cx_BadGroup) (.ref Cx_BadHost) = some false)
    (kn_BadHost_BadHost : PySem.W.subIn K (.ref Cx_BadHost) (.ref Cx_BadHost) = some true)
    (kn_TooMany_BadHost : PySem.W.subIn K (.ref Cx_TooMany) (.ref Cx_BadHost) = some false)
    (kn_Twice_BadHost : PySem.W.subIn K (.ref Cx_Twice) (.ref Cx_BadHost) = some false)
    (kn_BadGroup_TooMany : PySem.W.subIn K (.ref Cx_BadGroup) (.ref Cx_TooMany) = some false)
    (kn_BadHost_TooMany : PySem.W.subIn K (.ref Cx_BadHost) (.ref Cx_TooMany) = some false)
    (kn_TooMany_TooMany : PySem.W.subIn K (.ref Cx_TooMany) (.ref Cx_TooMany) = some true)
    (kn_Twice_TooMany : PySem.W.subIn K (.ref Cx_Twice) (.ref Cx_TooMany) = some false)
    (kn_BadGroup_Twice : PySem.W.subIn K (.ref Cx_BadGroup) (.ref Cx_Twice) = some false)
    (kn_BadHost_Twice : PySem.W.subIn K (.ref Cx_BadHost) (.ref Cx_Twice) = some false)
    (kn_TooMany_Twice : PySem.W.subIn K (.ref Cx_TooMany) (.ref Cx_Twice) = some false)
    (kn_Twice_Twice : PySem.W.subIn K (.ref Cx_Twice) (.ref Cx_Twice) = some true)
    (z_BadRule : PySem.W.nsIn K mainGlobals "BadRule" = some none)
    (z_OverflowError : PySem.W.nsIn K mainGlobals "OverflowError" = some none)
    (z_ValueError : PySem.W.nsIn K mainGlobals "ValueError" = some none)
    (z_abs : PySem.W.nsIn K mainGlobals "abs" = some none)
    (z_bool : PySem.W.nsIn K mainGlobals "bool" = some none)
    (z_enumerate : PySem.W.nsIn K mainGlobals "enumerate" = some none)
    (z_int : PySem.W.nsIn K mainGlobals "int" = some none)
    (z_isinstance : PySem.W.nsIn K mainGlobals "isinstance" = some none)
    (z_len : PySem.W.nsIn K mainGlobals "len" = some none)
    (z_list : PySem.W.nsIn K mainGlobals "list" = some none)
    (z_range : PySem.W.nsIn K mainGlobals "range" = some none)
    (z_str : PySem.W.nsIn K mainGlobals "str" = some none)
    (z_tuple : PySem.W.nsIn K mainGlobals "tuple" = some none)
    {t_CHARACTERS : Tok} (g_CHARACTERS : PySem.W.nsIn K mainGlobals "CHARACTERS" = some (some (.str "0123456789abcdefghijklmnopqrstuvwxyz" t_CHARACTERS)))
    {t_LEAST_OF_GROUP : Tok} (g_LEAST_OF_GROUP : PySem.W.nsIn K mainGlobals "LEAST_OF_GROUP" = some (some (.int 2 t_LEAST_OF_GROUP)))
    {t_LONGEST_LABEL : Tok} (g_LONGEST_LABEL : PySem.W.nsIn K mainGlobals "LONGEST_LABEL" = some (some (.int 20 t_LONGEST_LABEL)))
    {t_MOST_GROUPS : Tok} (g_MOST_GROUPS : PySem.W.nsIn K mainGlobals "MOST_GROUPS" = some (some (.int 4 t_MOST_GROUPS)))
    {t_MOST_LABELS : Tok} (g_MOST_LABELS : PySem.W.nsIn K mainGlobals "MOST_LABELS" = some (some (.int 20 t_MOST_LABELS)))
    {t_MOST_LABELS_OF_MEMBER : Tok} (g_MOST_LABELS_OF_MEMBER : PySem.W.nsIn K mainGlobals "MOST_LABELS_OF_MEMBER" = some (some (.int 3 t_MOST_LABELS_OF_MEMBER)))
    {t_MOST_OF_GROUP : Tok} (g_MOST_OF_GROUP : PySem.W.nsIn K mainGlobals "MOST_OF_GROUP" = some (some (.int 4 t_MOST_OF_GROUP)))
    : ∃ fd : FuncData, (∀ (s : Shared) (v : Value), BindsTo s fd ⟨[v], []⟩ [("_law_script", v)]) ∧ ∀ base : Heap, K.In base → base.Ns mainGlobals mg → FnG l.prog w K mg base 9 fa fd ["_law_script"] (spR K mg false 1 m_law_ef94) := by
  have e := hfa.symm.trans (PySem.W.mg_of X G a28)
  cases e
  have F0 := fun_mk (st := s_is_label) l0 c0 k0
  have b0 := F0.binds (ps := ["thing"]) fun _ _ _ _ _ _ us hl => match us, hl with | [_], _ => rfl
  have F1 := fun_mk (st := s_row_key) l1 c1 k1
  have b1 := F1.binds (ps := ["row"]) fun _ _ _ _ _ _ us hl => match us, hl with | [_], _ => rfl
  have F2 := fun_mk (st := s_ends_with) l2 c2 k2
  have b2 := F2.binds (ps := ["host", "labels"]) fun _ _ _ _ _ _ us hl => match us, hl with | [_, _], _ => rfl
  have F3 := fun_mk (st := s__law_bag) l3 c3 k3
  have b3 := F3.binds (ps := ["_law_script"]) fun _ _ _ _ _ _ us hl => match us, hl with | [_], _ => rfl
  have F4 := fun_mk (st := s__law_take) l4 c4 k4
  have b4 := F4.binds (ps := ["_law_bag_here", "_law_many"]) fun _ _ _ _ _ _ us hl => match us, hl with | [_, _], _ => rfl
  have F5 := fun_mk (st := s__law_is_good) l5 c5 k5
  have b5 := F5.binds (ps := ["_law_thing"]) fun _ _ _ _ _ _ us hl => match us, hl with | [_], _ => rfl
  have F6 := fun_mk (st := s__law_same) l6 c6 k6
  have b6 := F6.binds (ps := ["_law_one", "_law_other"]) fun _ _ _ _ _ _ us hl => match us, hl with | [_, _], _ => rfl
  have F7 := fun_mk (st := s_is_path) l7 c7 k7
  have b7 := F7.binds (ps := ["thing"]) fun _ _ _ _ _ _ us hl => match us, hl with | [_], _ => rfl
  have F8 := fun_mk (st := s_host_key) l8 c8 k8
  have b8 := F8.binds (ps := ["host"]) fun _ _ _ _ _ _ us hl => match us, hl with | [_], _ => rfl
  have F9 := fun_mk (st := s_member_and_head) l9 c9 k9
  have b9 := F9.binds (ps := ["groups", "host"]) fun _ _ _ _ _ _ us hl => match us, hl with | [_, _], _ => rfl
  have F10 := fun_mk (st := s__law_of) l10 c10 k10
  have b10 := F10.binds (ps := ["_law_bag_here", "_law_some_here"]) fun _ _ _ _ _ _ us hl => match us, hl with | [_, _], _ => rfl
  have F11 := fun_mk (st := s__law_label) l11 c11 k11
  have b11 := F11.binds (ps := ["_law_bag_here", "_law_most"]) fun _ _ _ _ _ _ us hl => match us, hl with | [_, _], _ => rfl
  have F12 := fun_mk (st := s__law_due) l12 c12 k12
  have b12 := F12.binds (ps := ["_law_some_here"]) fun _ _ _ _ _ _ us hl => match us, hl with | [_], _ => rfl
  have F13 := fun_mk (st := s_is_host) l13 c13 k13
  have b13 := F13.binds (ps := ["thing"]) fun _ _ _ _ _ _ us hl => match us, hl with | [_], _ => rfl
  have F14 := fun_mk (st := s_moved) l14 c14 k14
  have b14 := F14.binds (ps := ["groups", "host"]) fun _ _ _ _ _ _ us hl => match us, hl with | [_, _], _ => rfl
  have F15 := fun_mk (st := s__law_pool) l15 c15 k15
  have b15 := F15.binds (ps := ["_law_bag_here", "_law_longest"]) fun _ _ _ _ _ _ us hl => match us, hl with | [_, _], _ => rfl
  have F16 := fun_mk (st := s__law_odd_group) l16 c16 k16
  have b16 := F16.binds (ps := ["_law_bag_here", "_law_text"]) fun _ _ _ _ _ _ us hl => match us, hl with | [_, _], _ => rfl
  have F17 := fun_mk (st := s__law_odd_host) l17 c17 k17
  have b17 := F17.binds (ps := ["_law_bag_here", "_law_text"]) fun _ _ _ _ _ _ us hl => match us, hl with | [_, _], _ => rfl
  have F18 := fun_mk (st := s__law_some) l18 c18 k18
  have b18 := F18.binds (ps := ["_law_bag_here", "_law_pool_here"]) fun _ _ _ _ _ _ us hl => match us, hl with | [_, _], _ => rfl
  have F19 := fun_mk (st := s_host_of) l19 c19 k19
  have b19 := F19.binds (ps := ["text"]) fun _ _ _ _ _ _ us hl => match us, hl with | [_], _ => rfl
  have F20 := fun_mk (st := s_host_text) l20 c20 k20
  have b20 := F20.binds (ps := ["host"]) fun _ _ _ _ _ _ us hl => match us, hl with | [_], _ => rfl
  have F21 := fun_mk (st := s_Groups_translated) l21 c21 k21
  have b21 := F21.binds (ps := ["self", "host"]) fun _ _ _ _ _ _ us hl => match us, hl with | [_, _], _ => rfl
  have F22 := fun_mk (st := s_Groups_origins) l22 c22 k22
  have b22 := F22.binds (ps := ["self", "host"]) fun _ _ _ _ _ _ us hl => match us, hl with | [_, _], _ => rfl
  have F23 := fun_mk (st := s_checked_group) l23 c23 k23
  have b23 := F23.binds (ps := ["group", "taken"]) fun _ _ _ _ _ _ us hl => match us, hl with | [_, _], _ => rfl
  have F24 := fun_mk (st := s_Groups_member) l24 c24 k24
  have b24 := F24.binds (ps := ["self", "host"]) fun _ _ _ _ _ _ us hl => match us, hl with | [_, _], _ => rfl
  have F25 := fun_mk (st := s__law_wrong_hosts) l25 c25 k25
  have b25 := F25.binds (ps := ["_law_made_here", "_law_thing"]) fun _ _ _ _ _ _ us hl => match us, hl with | [_, _], _ => rfl
  have F26 := fun_mk (st := s_Groups_init) l26 c26 k26
  have F27 := fun_mk (st := s__law_made) l27 c27 k27
  have b27 := F27.binds (ps := ["_law_some_here"]) fun _ _ _ _ _ _ us hl => match us, hl with | [_], _ => rfl
  have F28 := fun_mk (st := s_law) l28 c28 k28
  have b28 := F28.binds (ps := ["_law_script"]) fun _ _ _ _ _ _ us hl => match us, hl with | [_], _ => rfl
  have T : Txt K mg ⟨_, _, _, _, _, _, _, _, _, _, _, _, _, _, _, _, _, _, _, _, _, _, _, _, _, _, _, _, _, _, _, _, _, _, _, _, _, _, _, _, _, _, _, _, _, _, _, _, _, _, _, _, _, _, _, _, _, _, _, _, _, _, _, _, _, _, _⟩ := ⟨PySem.W.mg_of X G a0, F0, b0, PySem.W.mg_of X G a1, F1, b1, PySem.W.mg_of X G a2, F2, b2, PySem.W.mg_of X G a3, F3, b3, PySem.W.mg_of X G a4, F4, b4, PySem.W.mg_of X G a5, F5, b5, PySem.W.mg_of X G a6, F6, b6, PySem.W.mg_of X G a7, F7, b7, PySem.W.mg_of X G a8, F8, b8, PySem.W.mg_of X G a9, F9, b9, PySem.W.mg_of X G a10, F10, b10, PySem.W.mg_of X G a11, F11, b11, PySem.W.mg_of X G a12, F12, b12, PySem.W.mg_of X G a13, F13, b13, PySem.W.mg_of X G a14, F14, b14, PySem.W.mg_of X G a15, F15, b15, PySem.W.mg_of X G a16, F16, b16, PySem.W.mg_of X G a17, F17, b17, PySem.W.mg_of X G a18, F18, b18, PySem.W.mg_of X G a19, F19, b19, PySem.W.mg_of X G a20, F20, b20, F21, b21, F22, b22, PySem.W.mg_of X G a23, F23, b23, F24, b24, PySem.W.mg_of X G a25, F25, b25, F26, (StX.bind_star1 (B := fun xs => bindArgs _ ⟨xs, []⟩) (fun _ => rfl) (fun _ _ _ => rfl)), PySem.W.mg_of X G a27, F27, b27, PySem.W.mg_of X G a28, F28, b28, ⟨PySem.W.mg_of X G aC_Groups, ⟨pg_Groups, hd_Groups, po_Groups, sa_Groups⟩, ca_Groups, cn_Groups, ct_Groups, cm_Groups⟩, (fun f hf => by
      simp only [List.mem_cons, List.not_mem_nil, or_false] at hf
      rcases hf with rfl | rfl
      · exact nf_Groups_hosts
      · exact nf_Groups_groups), ⟨mk_Groups, ai_Groups, fi_Groups, kc_Groups⟩, ⟨mt_Groups_member, mf_Groups_member, k24⟩, ⟨mt_Groups_origins, mf_Groups_origins, k22⟩, ⟨mt_Groups_translated, mf_Groups_translated, k21⟩, ⟨(fun q hq => by
      simp only [List.mem_cons, List.not_mem_nil, or_false] at hq
      rcases hq with rfl
      · exact ⟨_, ⟨PySem.W.mg_of X G aC_Groups, ⟨pg_Groups, hd_Groups, po_Groups, sa_Groups⟩, ca_Groups, cn_Groups, ct_Groups, cm_Groups⟩, kit_subO ic_Groups tc_Groups sC_Groups_Groups sC_Groups_Groups⟩), (fun q hq => by
      simp only [noneOfB, List.mem_cons, List.not_mem_nil, or_false] at hq
      rcases hq with rfl | rfl | rfl | rfl | rfl | rfl | rfl
      · exact kit_subO ic_Groups tc_Groups sC_Groups_Groups sb_Groups_NoneType
      · exact kit_subO ic_Groups tc_Groups sC_Groups_Groups sb_Groups_bool
      · exact kit_subO ic_Groups tc_Groups sC_Groups_Groups sb_Groups_int
      · exact kit_subO ic_Groups tc_Groups sC_Groups_Groups sb_Groups_str
      · exact kit_subO ic_Groups tc_Groups sC_Groups_Groups sb_Groups_tuple
      · exact kit_subO ic_Groups tc_Groups sC_Groups_Groups sb_Groups_list
      · exact kit_subO ic_Groups tc_Groups sC_Groups_Groups sb_Groups_dict)⟩, { fs := by decide, fb := by decide, bind := fun _ _ _ _ _ _ _ _ _ _ _ _ _ => rfl, gC := PySem.W.mg_of X G aC_BadGroup, cls := xL_BadGroup, sa := sa_BadGroup, ga := ga_BadGroup, gg := gg_BadGroup, noN := nb_BadGroup, iC := ai_BadGroup, tC := ti_BadGroup, kC := kC_BadGroup, exC := eC_BadGroup, tyC := tC_BadGroup, hdC := hC_BadGroup, te := exm_self eC_BadGroup iC_BadGroup tC_BadGroup sC_BadGroup, fn := ⟨_, _, _, _, _, _, _, _, _, _, _, _, _, _, li_BadGroup, ci_BadGroup⟩ }, { fs := by decide, fb := by decide, bind := fun _ _ _ _ _ _ _ _ _ _ _ _ _ => rfl, gC := PySem.W.mg_of X G aC_BadHost, cls := xL_BadHost, sa := sa_BadHost, ga := ga_BadHost, gg := gg_BadHost, noN := nb_BadHost, iC := ai_BadHost, tC := ti_BadHost, kC := kC_BadHost, exC := eC_BadHost, tyC := tC_BadHost, hdC := hC_BadHost, te := exm_self eC_BadHost iC_BadHost tC_BadHost sC_BadHost, fn := ⟨_, _, _, _, _, _, _, _, _, _, _, _, _, _, li_BadHost, ci_BadHost⟩ }, { fs := by decide, fb := by decide, bind := fun _ _ _ _ _ _ _ _ _ _ _ _ _ => rfl, gC := PySem.W.mg_of X G aC_TooMany, cls := xL_TooMany, sa := sa_TooMany, ga := ga_TooMany, gg := gg_TooMany, noN := nb_TooMany, iC := ai_TooMany, tC := ti_TooMany, kC := kC_TooMany, exC := eC_TooMany, tyC := tC_TooMany, hdC := hC_TooMany, te := exm_self eC_TooMany iC_TooMany tC_TooMany sC_TooMany, fn := ⟨_, _, _, _, _, _, _, _, _, _, _, _, _, _, li_TooMany, ci_TooMany⟩ }, { fs := by decide, fb := by decide, bind := fun _ _ _ _ _ _ _ _ _ _ _ _ _ => rfl, gC := PySem.W.mg_of X G aC_Twice, cls := xL_Twice, sa := sa_Twice, ga := ga_Twice, gg := gg_Twice, noN := nb_Twice, iC := ai_Twice, tC := ti_Twice, kC := kC_Twice, exC := eC_Twice, tyC := tC_Twice, hdC := hC_Twice, te := exm_self eC_Twice iC_Twice tC_Twice sC_Twice, fn := ⟨_, _, _, _, _, _, _, _, _, _, _, _, _, _, li_Twice, ci_Twice⟩ }, ⟨ga_BadGroup, gg_BadGroup, eC_BadGroup, hC_BadGroup, ea_BadGroup, en_BadGroup, et_BadGroup, em_BadGroup⟩, ⟨ga_BadHost, gg_BadHost, eC_BadHost, hC_BadHost, ea_BadHost, en_BadHost, et_BadHost, em_BadHost⟩, ⟨ga_TooMany, gg_TooMany, eC_TooMany, hC_TooMany, ea_TooMany, en_TooMany, et_TooMany, em_TooMany⟩, ⟨ga_Twice, gg_Twice, eC_Twice, hC_Twice, ea_Twice, en_Twice, et_Twice, em_Twice⟩, (kit_subT (by decide +kernel) ki_BadGroup_ValueError), (kit_subT (by decide +kernel) ki_BadHost_ValueError), (kit_subT (by decide +kernel) ki_TooMany_OverflowError), (kit_subT (by decide +kernel) ki_Twice_ValueError), (kit_subO iC_BadHost tC_BadHost sC_BadHost kn_BadGroup_BadHost), (kit_subO iC_TooMany tC_TooMany sC_TooMany kn_BadGroup_TooMany), (kit_subO iC_Twice tC_Twice sC_Twice kn_BadGroup_Twice), (kit_subO iC_BadGroup tC_BadGroup sC_BadGroup kn_BadHost_BadGroup), (kit_subO iC_TooMany tC_TooMany sC_TooMany kn_BadHost_TooMany), (kit_subO iC_Twice tC_Twice sC_Twice kn_BadHost_Twice), (kit_subO iC_BadGroup tC_BadGroup sC_BadGroup kn_TooMany_BadGroup), (kit_subO iC_BadHost tC_BadHost sC_BadHost kn_TooMany_BadHost), (kit_subO iC_Twice tC_Twice sC_Twice kn_TooMany_Twice), (kit_subO iC_BadGroup tC_BadGroup sC_BadGroup kn_Twice_BadGroup), (kit_subO iC_BadHost tC_BadHost sC_BadHost kn_Twice_BadHost), (kit_subO iC_TooMany tC_TooMany sC_TooMany kn_Twice_TooMany), (fun q hq C1 hC1 => by
      simp only [List.mem_cons, List.not_mem_nil, or_false] at hq
      rcases hq with rfl | rfl | rfl | rfl
      · cases (PySem.W.mg_of X G aC_BadGroup).symm.trans hC1; exact (exm_sub eC_BadGroup iC_BadGroup tC_BadGroup kn_BadGroup_BadGroup).trans (by decide +kernel)
      · cases (PySem.W.mg_of X G aC_BadHost).symm.trans hC1; exact (exm_sub eC_BadGroup iC_BadGroup tC_BadGroup kn_BadHost_BadGroup).trans (by decide +kernel)
      · cases (PySem.W.mg_of X G aC_TooMany).symm.trans hC1; exact (exm_sub eC_BadGroup iC_BadGroup tC_BadGroup kn_TooMany_BadGroup).trans (by decide +kernel)
      · cases (PySem.W.mg_of X G aC_Twice).symm.trans hC1; exact (exm_sub eC_BadGroup iC_BadGroup tC_BadGroup kn_Twice_BadGroup).trans (by decide +kernel)), (fun q hq C1 hC1 => by
      simp only [List.mem_cons, List.not_mem_nil, or_false] at hq
      rcases hq with rfl | rfl | rfl | rfl
      · cases (PySem.W.mg_of X G aC_BadGroup).symm.trans hC1; exact (exm_sub eC_BadHost iC_BadHost tC_BadHost kn_BadGroup_BadHost).trans (by decide +kernel)
      · cases (PySem.W.mg_of X G aC_BadHost).symm.trans hC1; exact (exm_sub eC_BadHost iC_BadHost tC_BadHost kn_BadHost_BadHost).trans (by decide +kernel)
      · cases (PySem.W.mg_of X G aC_TooMany).symm.trans hC1; exact (exm_sub eC_BadHost iC_BadHost tC_BadHost kn_TooMany_BadHost).trans (by decide +kernel)
      · cases (PySem.W.mg_of X G aC_Twice).symm.trans hC1; exact (exm_sub eC_BadHost iC_BadHost tC_BadHost kn_Twice_BadHost).trans (by decide +kernel)), (fun q hq C1 hC1 => by
      simp only [List.mem_cons, List.not_mem_nil, or_false] at hq
      rcases hq with rfl | rfl | rfl | rfl
      · cases (PySem.W.mg_of X G aC_BadGroup).symm.trans hC1; exact (exm_sub eC_TooMany iC_TooMany tC_TooMany kn_BadGroup_TooMany).trans (by decide +kernel)
      · cases (PySem.W.mg_of X G aC_BadHost).symm.trans hC1; exact (exm_sub eC_TooMany iC_TooMany tC_TooMany kn_BadHost_TooMany).trans (by decide +kernel)
      · cases (PySem.W.mg_of X G aC_TooMany).symm.trans hC1; exact (exm_sub eC_TooMany iC_TooMany tC_TooMany kn_TooMany_TooMany).trans (by decide +kernel)
      · cases (PySem.W.mg_of X G aC_Twice).symm.trans hC1; exact (exm_sub eC_TooMany iC_TooMany tC_TooMany kn_Twice_TooMany).trans (by decide +kernel)), (fun q hq C1 hC1 => by
      simp only [List.mem_cons, List.not_mem_nil, or_false] at hq
      rcases hq with rfl | rfl | rfl | rfl
      · cases (PySem.W.mg_of X G aC_BadGroup).symm.trans hC1; exact (exm_sub eC_Twice iC_Twice tC_Twice kn_BadGroup_Twice).trans (by decide +kernel)
      · cases (PySem.W.mg_of X G aC_BadHost).symm.trans hC1; exact (exm_sub eC_Twice iC_Twice tC_Twice kn_BadHost_Twice).trans (by decide +kernel)
      · cases (PySem.W.mg_of X G aC_TooMany).symm.trans hC1; exact (exm_sub eC_Twice iC_Twice tC_Twice kn_TooMany_Twice).trans (by decide +kernel)
      · cases (PySem.W.mg_of X G aC_Twice).symm.trans hC1; exact (exm_sub eC_Twice iC_Twice tC_Twice kn_Twice_Twice).trans (by decide +kernel)), PySem.W.mg_none_of X G z_BadRule, PySem.W.mg_none_of X G z_OverflowError, PySem.W.mg_none_of X G z_ValueError, PySem.W.mg_none_of X G z_abs, PySem.W.mg_none_of X G z_bool, PySem.W.mg_none_of X G z_enumerate, PySem.W.mg_none_of X G z_int, PySem.W.mg_none_of X G z_isinstance, PySem.W.mg_none_of X G z_len, PySem.W.mg_none_of X G z_list, PySem.W.mg_none_of X G z_range, PySem.W.mg_none_of X G z_str, PySem.W.mg_none_of X G z_tuple, globS (PySem.W.mg_of X G g_CHARACTERS) (by decide +kernel) (by decide), globI (PySem.W.mg_of X G g_LEAST_OF_GROUP), globI (PySem.W.mg_of X G g_LONGEST_LABEL), globI (PySem.W.mg_of X G g_MOST_GROUPS), globI (PySem.W.mg_of X G g_MOST_LABELS), globI (PySem.W.mg_of X G g_MOST_LABELS_OF_MEMBER), globI (PySem.W.mg_of X G g_MOST_OF_GROUP)⟩
  exact ⟨_, fun s v => .of_eq rfl, fun base _ _ => g_law T⟩
end K71
namespace K71
open PySem L2 DL FN
def ex0 (K : PySem.W.Frag) : Bool := decide (PySem.W.nsIn K mainGlobals "Groups" = some (some (.ref (He.ga K "Groups")))) && (PySem.W.plainGet K (He.ga K "Groups") Str.empty && (PySem.W.hasDictIn K (He.ga K "Groups") && (PySem.W.plainOver K (He.ga K "Groups") && (decide (PySem.W.findIn K (.ref (He.ga K "Groups")) "__setattr__" = some (some (.builtin "object.__setattr__"))) && (decide (PySem.W.findIn K (.ref (He.ga K "Groups")) "__class__" = some (some (.builtin "object.__class__"))) && (decide (PySem.W.specialIn K (.builtin "object.__class__") "__get__" = some (some (.builtin "getset_descriptor.__get__"))) && (decide (PySem.W.takesIn K (.builtin "object.__class__") = some true) && (decide (PySem.W.mroIn K (He.ga K "Groups") (.type "object") = some true) && (decide (PySem.W.findIn K (.ref (He.ga K "Groups")) "hosts" = some none))))))))))
def ex1 (K : PySem.W.Frag) : Bool := decide (PySem.W.findIn K (.ref (He.ga K "Groups")) "groups" = some none) && (PySem.W.makesIn K (He.ga K "Groups") && (PySem.W.keepIn K (.ref (He.ga K "Groups")) && (decide (PySem.W.findIn K (.ref (He.ga K "Groups")) "__init__" = some (some (.ref (He.ma K (He.ga K "Groups") "__init__")))) && (PySem.W.isFn K (.ref (He.ma K (He.ga K "Groups") "__init__")) && (decide (PySem.W.findIn K (.ref (He.ga K "Groups")) "member" = some (some (.ref (He.ma K (He.ga K "Groups") "member")))) && (PySem.W.isFn K (.ref (He.ma K (He.ga K "Groups") "member")) && (decide (PySem.W.findIn K (.ref (He.ga K "Groups")) "origins" = some (some (.ref (He.ma K (He.ga K "Groups") "origins")))) && (PySem.W.isFn K (.ref (He.ma K (He.ga K "Groups") "origins")) && (decide (PySem.W.findIn K (.ref (He.ga K "Groups")) "translated" = some (some (.ref (He.ma K (He.ga K "Groups") "translated")))))))))))))
def ex2 (K : PySem.W.Frag) : Bool := PySem.W.isFn K (.ref (He.ma K (He.ga K "Groups") "translated")) && (PySem.W.isClsIn K (He.ga K "Groups") && (decide (PySem.W.typeIn K (.ref (He.ga K "Groups")) = some (.type "type")) && (decide (PySem.W.subIn K (.ref (He.ga K "Groups")) (.ref (He.ga K "Groups")) = some true) && (decide (PySem.W.subIn K (.type "NoneType") (.ref (He.ga K "Groups")) = some false) && (decide (PySem.W.subIn K (.type "bool") (.ref (He.ga K "Groups")) = some false) && (decide (PySem.W.subIn K (.type "int") (.ref (He.ga K "Groups")) = some false) && (decide (PySem.W.subIn K (.type "str") (.ref (He.ga K "Groups")) = some false) && (decide (PySem.W.subIn K (.type "tuple") (.ref (He.ga K "Groups")) = some false) && (decide (PySem.W.subIn K (.type "list") (.ref (He.ga K "Groups")) = some false))))))))))
def ex3 (K : PySem.W.Frag) : Bool := decide (PySem.W.subIn K (.type "dict") (.ref (He.ga K "Groups")) = some false) && (decide (PySem.W.nsIn K mainGlobals "is_label" = some (some (.ref (He.ga K "is_label")))) && (PySem.W.keepIn K (.ref (He.ga K "is_label")) && (decide (PySem.W.nsIn K mainGlobals "row_key" = some (some (.ref (He.ga K "row_key")))) && (PySem.W.keepIn K (.ref (He.ga K "row_key")) && (decide (PySem.W.nsIn K mainGlobals "ends_with" = some (some (.ref (He.ga K "ends_with")))) && (PySem.W.keepIn K (.ref (He.ga K "ends_with")) && (decide (PySem.W.nsIn K mainGlobals "_law_bag" = some (some (.ref (He.ga K "_law_bag")))) && (PySem.W.keepIn K (.ref (He.ga K "_law_bag")) && (decide (PySem.W.nsIn K mainGlobals "_law_take" = some (some (.ref (He.ga K "_law_take")))))))))))))
def ex4 (K : PySem.W.Frag) : Bool := PySem.W.keepIn K (.ref (He.ga K "_law_take")) && (decide (PySem.W.nsIn K mainGlobals "_law_is_good" = some (some (.ref (He.ga K "_law_is_good")))) && (PySem.W.keepIn K (.ref (He.ga K "_law_is_good")) && (decide (PySem.W.nsIn K mainGlobals "_law_same" = some (some (.ref (He.ga K "_law_same")))) && (PySem.W.keepIn K (.ref (He.ga K "_law_same")) && (decide (PySem.W.nsIn K mainGlobals "is_path" = some (some (.ref (He.ga K "is_path")))) && (PySem.W.keepIn K (.ref (He.ga K "is_path")) && (decide (PySem.W.nsIn K mainGlobals "host_key" = some (some (.ref (He.ga K "host_key")))) && (PySem.W.keepIn K (.ref (He.ga K "host_key")) && (decide (PySem.W.nsIn K mainGlobals "member_and_head" = some (some (.ref (He.ga K "member_and_head")))))))))))))
def ex5 (K : PySem.W.Frag) : Bool := PySem.W.keepIn K (.ref (He.ga K "member_and_head")) && (decide (PySem.W.nsIn K mainGlobals "_law_of" = some (some (.ref (He.ga K "_law_of")))) && (PySem.W.keepIn K (.ref (He.ga K "_law_of")) && (decide (PySem.W.nsIn K mainGlobals "_law_label" = some (some (.ref (He.ga K "_law_label")))) && (PySem.W.keepIn K (.ref (He.ga K "_law_label")) && (decide (PySem.W.nsIn K mainGlobals "_law_due" = some (some (.ref (He.ga K "_law_due")))) && (PySem.W.keepIn K (.ref (He.ga K "_law_due")) && (decide (PySem.W.nsIn K mainGlobals "is_host" = some (some (.ref (He.ga K "is_host")))) && (PySem.W.keepIn K (.ref (He.ga K "is_host")) && (decide (PySem.W.nsIn K mainGlobals "moved" = some (some (.ref (He.ga K "moved")))))))))))))
def ex6 (K : PySem.W.Frag) : Bool := PySem.W.keepIn K (.ref (He.ga K "moved")) && (decide (PySem.W.nsIn K mainGlobals "_law_pool" = some (some (.ref (He.ga K "_law_pool")))) && (PySem.W.keepIn K (.ref (He.ga K "_law_pool")) && (decide (PySem.W.nsIn K mainGlobals "_law_odd_group" = some (some (.ref (He.ga K "_law_odd_group")))) && (PySem.W.keepIn K (.ref (He.ga K "_law_odd_group")) && (decide (PySem.W.nsIn K mainGlobals "_law_odd_host" = some (some (.ref (He.ga K "_law_odd_host")))) && (PySem.W.keepIn K (.ref (He.ga K "_law_odd_host")) && (decide (PySem.W.nsIn K mainGlobals "_law_some" = some (some (.ref (He.ga K "_law_some")))) && (PySem.W.keepIn K (.ref (He.ga K "_law_some")) && (decide (PySem.W.nsIn K mainGlobals "host_of" = some (some (.ref (He.ga K "host_of")))))))))))))
def ex7 (K : PySem.W.Frag) : Bool := PySem.W.keepIn K (.ref (He.ga K "host_of")) && (decide (PySem.W.nsIn K mainGlobals "host_text" = some (some (.ref (He.ga K "host_text")))) && (PySem.W.keepIn K (.ref (He.ga K "host_text")) && (PySem.W.keepIn K (.ref (He.ma K (He.ga K "Groups") "translated")) && (PySem.W.keepIn K (.ref (He.ma K (He.ga K "Groups") "origins")) && (decide (PySem.W.nsIn K mainGlobals "checked_group" = some (some (.ref (He.ga K "checked_group")))) && (PySem.W.keepIn K (.ref (He.ga K "checked_group")) && (PySem.W.keepIn K (.ref (He.ma K (He.ga K "Groups") "member")) && (decide (PySem.W.nsIn K mainGlobals "_law_wrong_hosts" = some (some (.ref (He.ga K "_law_wrong_hosts")))) && (PySem.W.keepIn K (.ref (He.ga K "_law_wrong_hosts")))))))))))
def ex8 (K : PySem.W.Frag) : Bool := PySem.W.keepIn K (.ref (He.ma K (He.ga K "Groups") "__init__")) && (decide (PySem.W.nsIn K mainGlobals "_law_made" = some (some (.ref (He.ga K "_law_made")))) && (PySem.W.keepIn K (.ref (He.ga K "_law_made")) && (decide (PySem.W.nsIn K mainGlobals "law" = some (some (.ref (He.ga K "law")))) && (PySem.W.keepIn K (.ref (He.ga K "law")) && (decide (PySem.W.nsIn K mainGlobals "BadGroup" = some (some (.ref (He.ga K "BadGroup")))) && (xcB K (He.ga K "BadGroup") .ve && (decide (PySem.W.findIn K (.ref (He.ga K "BadGroup")) "__setattr__" = some (some (.builtin "object.__setattr__"))) && (decide (PySem.W.findIn K (.ref (He.ga K "BadGroup")) "__getattribute__" = some (some (.builtin "BaseException.__getattribute__"))) && (decide (PySem.W.findIn K (.ref (He.ga K "BadGroup")) "__getattr__" = some none))))))))))
def ex9 (K : PySem.W.Frag) : Bool := decide (PySem.W.findIn K (.ref (He.ga K "BadGroup")) "group" = some none) && (decide (PySem.W.findIn K (.ref (He.ga K "BadGroup")) "__init__" = some (some (.ref (He.ma K (He.ga K "BadGroup") "__init__")))) && (decide (PySem.W.typeIn K (.ref (He.ma K (He.ga K "BadGroup") "__init__")) = some (.type "function")) && (codB K (He.ma K (He.ga K "BadGroup") "__init__") "BadGroup.__init__" && (kwN K (He.ma K (He.ga K "BadGroup") "__init__") && (PySem.W.keepIn K (.ref (He.ga K "BadGroup")) && (decide (PySem.W.subIn K (.ref (He.ga K "BadGroup")) (.type "BaseException") = some true) && (decide (PySem.W.typeIn K (.ref (He.ga K "BadGroup")) = some (.type "type")) && (PySem.W.hasDictIn K (He.ga K "BadGroup") && (PySem.W.isClsIn K (He.ga K "BadGroup"))))))))))
def ex10 (K : PySem.W.Frag) : Bool := decide (PySem.W.subIn K (.ref (He.ga K "BadGroup")) (.ref (He.ga K "BadGroup")) = some true) && (decide (PySem.W.nsIn K mainGlobals "BadHost" = some (some (.ref (He.ga K "BadHost")))) && (xcB K (He.ga K "BadHost") .ve && (decide (PySem.W.findIn K (.ref (He.ga K "BadHost")) "__setattr__" = some (some (.builtin "object.__setattr__"))) && (decide (PySem.W.findIn K (.ref (He.ga K "BadHost")) "__getattribute__" = some (some (.builtin "BaseException.__getattribute__"))) && (decide (PySem.W.findIn K (.ref (He.ga K "BadHost")) "__getattr__" = some none) && (decide (PySem.W.findIn K (.ref (He.ga K "BadHost")) "host" = some none) && (decide (PySem.W.findIn K (.ref (He.ga K "BadHost")) "__init__" = some (some (.ref (He.ma K (He.ga K "BadHost") "__init__")))) && (decide (PySem.W.typeIn K (.ref (He.ma K (He.ga K "BadHost") "__init__")) = some (.type "function")) && (codB K (He.ma K (He.ga K "BadHost") "__init__") "BadHost.__init__")))))))))
def ex11 (K : PySem.W.Frag) : Bool := kwN K (He.ma K (He.ga K "BadHost") "__init__") && (PySem.W.keepIn K (.ref (He.ga K "BadHost")) && (decide (PySem.W.subIn K (.ref (He.ga K "BadHost")) (.type "BaseException") = some true) && (decide (PySem.W.typeIn K (.ref (He.ga K "BadHost")) = some (.type "type")) && (PySem.W.hasDictIn K (He.ga K "BadHost") && (PySem.W.isClsIn K (He.ga K "BadHost") && (decide (PySem.W.subIn K (.ref (He.ga K "BadHost")) (.ref (He.ga K "BadHost")) = some true) && (decide (PySem.W.nsIn K mainGlobals "TooMany" = some (some (.ref (He.ga K "TooMany")))) && (xcB K (He.ga K "TooMany") .oe && (decide (PySem.W.findIn K (.ref (He.ga K "TooMany")) "__setattr__" = some (some (.builtin "object.__setattr__"))))))))))))
def ex12 (K : PySem.W.Frag) : Bool := decide (PySem.W.findIn K (.ref (He.ga K "TooMany")) "__getattribute__" = some (some (.builtin "BaseException.__getattribute__"))) && (decide (PySem.W.findIn K (.ref (He.ga K "TooMany")) "__getattr__" = some none) && (decide (PySem.W.findIn K (.ref (He.ga K "TooMany")) "limit" = some none) && (decide (PySem.W.findIn K (.ref (He.ga K "TooMany")) "__init__" = some (some (.ref (He.ma K (He.ga K "TooMany") "__init__")))) && (decide (PySem.W.typeIn K (.ref (He.ma K (He.ga K "TooMany") "__init__")) = some (.type "function")) && (codB K (He.ma K (He.ga K "TooMany") "__init__") "TooMany.__init__" && (kwN K (He.ma K (He.ga K "TooMany") "__init__") && (PySem.W.keepIn K (.ref (He.ga K "TooMany")) && (decide (PySem.W.subIn K (.ref (He.ga K "TooMany")) (.type "BaseException") = some true) && (decide (PySem.W.typeIn K (.ref (He.ga K "TooMany")) = some (.type "type")))))))))))
def ex13 (K : PySem.W.Frag) : Bool := PySem.W.hasDictIn K (He.ga K "TooMany") && (PySem.W.isClsIn K (He.ga K "TooMany") && (decide (PySem.W.subIn K (.ref (He.ga K "TooMany")) (.ref (He.ga K "TooMany")) = some true) && (decide (PySem.W.nsIn K mainGlobals "Twice" = some (some (.ref (He.ga K "Twice")))) && (xcB K (He.ga K "Twice") .ve && (decide (PySem.W.findIn K (.ref (He.ga K "Twice")) "__setattr__" = some (some (.builtin "object.__setattr__"))) && (decide (PySem.W.findIn K (.ref (He.ga K "Twice")) "__getattribute__" = some (some (.builtin "BaseException.__getattribute__"))) && (decide (PySem.W.findIn K (.ref (He.ga K "Twice")) "__getattr__" = some none) && (decide (PySem.W.findIn K (.ref (He.ga K "Twice")) "name" = some none) && (decide (PySem.W.findIn K (.ref (He.ga K "Twice")) "__init__" = some (some (.ref (He.ma K (He.ga K "Twice") "__init__")))))))))))))
def ex14 (K : PySem.W.Frag) : Bool := decide (PySem.W.typeIn K (.ref (He.ma K (He.ga K "Twice") "__init__")) = some (.type "function")) && (codB K (He.ma K (He.ga K "Twice") "__init__") "Twice.__init__" && (kwN K (He.ma K (He.ga K "Twice") "__init__") && (PySem.W.keepIn K (.ref (He.ga K "Twice")) && (decide (PySem.W.subIn K (.ref (He.ga K "Twice")) (.type "BaseException") = some true) && (decide (PySem.W.typeIn K (.ref (He.ga K "Twice")) = some (.type "type")) && (PySem.W.hasDictIn K (He.ga K "Twice") && (PySem.W.isClsIn K (He.ga K "Twice") && (decide (PySem.W.subIn K (.ref (He.ga K "Twice")) (.ref (He.ga K "Twice")) = some true) && (decide (PySem.W.findIn K (.ref (He.ga K "BadGroup")) "__class__" = some (some (.builtin "object.__class__"))))))))))))
def ex15 (K : PySem.W.Frag) : Bool := decide (PySem.W.specialIn K (.builtin "object.__class__") "__get__" = some (some (.builtin "getset_descriptor.__get__"))) && (decide (PySem.W.takesIn K (.builtin "object.__class__") = some true) && (decide (PySem.W.mroIn K (He.ga K "BadGroup") (.type "object") = some true) && (decide (PySem.W.findIn K (.ref (He.ga K "BadHost")) "__class__" = some (some (.builtin "object.__class__"))) && (decide (PySem.W.specialIn K (.builtin "object.__class__") "__get__" = some (some (.builtin "getset_descriptor.__get__"))) && (decide (PySem.W.takesIn K (.builtin "object.__class__") = some true) && (decide (PySem.W.mroIn K (He.ga K "BadHost") (.type "object") = some true) && (decide (PySem.W.findIn K (.ref (He.ga K "TooMany")) "__class__" = some (some (.builtin "object.__class__"))) && (decide (PySem.W.specialIn K (.builtin "object.__class__") "__get__" = some (some (.builtin "getset_descriptor.__get__"))) && (decide (PySem.W.takesIn K (.builtin "object.__class__") = some true))))))))))
def ex16 (K : PySem.W.Frag) : Bool := decide (PySem.W.mroIn K (He.ga K "TooMany") (.type "object") = some true) && (decide (PySem.W.findIn K (.ref (He.ga K "Twice")) "__class__" = some (some (.builtin "object.__class__"))) && (decide (PySem.W.specialIn K (.builtin "object.__class__") "__get__" = some (some (.builtin "getset_descriptor.__get__"))) && (decide (PySem.W.takesIn K (.builtin "object.__class__") = some true) && (decide (PySem.W.mroIn K (He.ga K "Twice") (.type "object") = some true) && (decide (PySem.W.subIn K (.ref (He.ga K "BadGroup")) (.type "ValueError") = some true) && (decide (PySem.W.subIn K (.ref (He.ga K "BadHost")) (.type "ValueError") = some true) && (decide (PySem.W.subIn K (.ref (He.ga K "TooMany")) (.type "OverflowError") = some true) && (decide (PySem.W.subIn K (.ref (He.ga K "Twice")) (.type "ValueError") = some true) && (decide (PySem.W.subIn K (.ref (He.ga K "BadGroup")) (.ref (He.ga K "BadGroup")) = some true))))))))))
def ex17 (K : PySem.W.Frag) : Bool := decide (PySem.W.subIn K (.ref (He.ga K "BadHost")) (.ref (He.ga K "BadGroup")) = some false) && (decide (PySem.W.subIn K (.ref (He.ga K "TooMany")) (.ref (He.ga K "BadGroup")) = some false) && (decide (PySem.W.subIn K (.ref (He.ga K "Twice")) (.ref (He.ga K "BadGroup")) = some false) && (decide (PySem.W.subIn K (.ref (He.ga K "BadGroup")) (.ref (He.ga K "BadHost")) = some false) && (decide (PySem.W.subIn K (.ref (He.ga K "BadHost")) (.ref (He.ga K "BadHost")) = some true) && (decide (PySem.W.subIn K (.ref (He.ga K "TooMany")) (.ref (He.ga K "BadHost")) = some false) && (decide (PySem.W.subIn K (.ref (He.ga K "Twice")) (.ref (He.ga K "BadHost")) = some false) && (decide (PySem.W.subIn K (.ref (He.ga K "BadGroup")) (.ref (He.ga K "TooMany")) = some false) && (decide (PySem.W.subIn K (.ref (He.ga K "BadHost")) (.ref (He.ga K "TooMany")) = some false) && (decide (PySem.W.subIn K (.ref (He.ga K "TooMany")) (.ref (He.ga K "TooMany")) = some true))))))))))
def ex18 (K : PySem.W.Frag) : Bool := decide (PySem.W.subIn K (.ref (He.ga K "Twice")) (.ref (He.ga K "TooMany")) = some false) && (decide (PySem.W.subIn K (.ref (He.ga K "BadGroup")) (.ref (He.ga K "Twice")) = some false) && (decide (PySem.W.subIn K (.ref (He.ga K "BadHost")) (.ref (He.ga K "Twice")) = some false) && (decide (PySem.W.subIn K (.ref (He.ga K "TooMany")) (.ref (He.ga K "Twice")) = some false) && (decide (PySem.W.subIn K (.ref (He.ga K "Twice")) (.ref (He.ga K "Twice")) = some true) && (decide (PySem.W.nsIn K mainGlobals "BadRule" = some none) && (decide (PySem.W.nsIn K mainGlobals "OverflowError" = some none) && (decide (PySem.W.nsIn K mainGlobals "ValueError" = some none) && (decide (PySem.W.nsIn K mainGlobals "abs" = some none) && (decide (PySem.W.nsIn K mainGlobals "bool" = some none))))))))))
def ex19 (K : PySem.W.Frag) : Bool := decide (PySem.W.nsIn K mainGlobals "enumerate" = some none) && (decide (PySem.W.nsIn K mainGlobals "int" = some none) && (decide (PySem.W.nsIn K mainGlobals "isinstance" = some none) && (decide (PySem.W.nsIn K mainGlobals "len" = some none) && (decide (PySem.W.nsIn K mainGlobals "list" = some none) && (decide (PySem.W.nsIn K mainGlobals "range" = some none) && (decide (PySem.W.nsIn K mainGlobals "str" = some none) && (decide (PySem.W.nsIn K mainGlobals "tuple" = some none) && (strB (PySem.W.nsIn K mainGlobals "CHARACTERS") "0123456789abcdefghijklmnopqrstuvwxyz" && (intB (PySem.W.nsIn K mainGlobals "LEAST_OF_GROUP") (2))))))))))
def ex20 (K : PySem.W.Frag) : Bool := intB (PySem.W.nsIn K mainGlobals "LONGEST_LABEL") (20) && (intB (PySem.W.nsIn K mainGlobals "MOST_GROUPS") (4) && (intB (PySem.W.nsIn K mainGlobals "MOST_LABELS") (20) && (intB (PySem.W.nsIn K mainGlobals "MOST_LABELS_OF_MEMBER") (3) && (intB (PySem.W.nsIn K mainGlobals "MOST_OF_GROUP") (4) && (codB K (He.ga K "is_label") "is_label" && (codB K (He.ga K "row_key") "row_key" && (codB K (He.ga K "ends_with") "ends_with" && (codB K (He.ga K "_law_bag") "_law_bag" && (codB K (He.ga K "_law_take") "_law_take")))))))))
def ex21 (K : PySem.W.Frag) : Bool := codB K (He.ga K "_law_is_good") "_law_is_good" && (codB K (He.ga K "_law_same") "_law_same" && (codB K (He.ga K "is_path") "is_path" && (codB K (He.ga K "host_key") "host_key" && (codB K (He.ga K "member_and_head") "member_and_head" && (codB K (He.ga K "_law_of") "_law_of" && (codB K (He.ga K "_law_label") "_law_label" && (codB K (He.ga K "_law_due") "_law_due" && (codB K (He.ga K "is_host") "is_host" && (codB K (He.ga K "moved") "moved")))))))))
def ex22 (K : PySem.W.Frag) : Bool := codB K (He.ga K "_law_pool") "_law_pool" && (codB K (He.ga K "_law_odd_group") "_law_odd_group" && (codB K (He.ga K "_law_odd_host") "_law_odd_host" && (codB K (He.ga K "_law_some") "_law_some" && (codB K (He.ga K "host_of") "host_of" && (codB K (He.ga K "host_text") "host_text" && (codB K (He.ma K (He.ga K "Groups") "translated") "Groups.translated" && (codB K (He.ma K (He.ga K "Groups") "origins") "Groups.origins" && (codB K (He.ga K "checked_group") "checked_group" && (codB K (He.ma K (He.ga K "Groups") "member") "Groups.member")))))))))
def ex23 (K : PySem.W.Frag) : Bool := codB K (He.ga K "_law_wrong_hosts") "_law_wrong_hosts" && (codB K (He.ma K (He.ga K "Groups") "__init__") "Groups.__init__" && (codB K (He.ga K "_law_made") "_law_made" && (codB K (He.ga K "law") "law")))
def exs (K : PySem.W.Frag) : Bool := ex0 K && (ex1 K && (ex2 K && (ex3 K && (ex4 K && (ex5 K && (ex6 K && (ex7 K && (ex8 K && (ex9 K && (ex10 K && (ex11 K && (ex12 K && (ex13 K && (ex14 K && (ex15 K && (ex16 K && (ex17 K && (ex18 K && (ex19 K && (ex20 K && (ex21 K && (ex22 K && (ex23 K)))))))))))))))))))))))
def fs0 (K : PySem.W.Frag) : List FnV := [fnV K (He.ma K (He.ga K "BadGroup") "__init__"), fnV K (He.ma K (He.ga K "BadHost") "__init__"), fnV K (He.ma K (He.ga K "TooMany") "__init__"), fnV K (He.ma K (He.ga K "Twice") "__init__"), fnV K (He.ga K "is_label"), fnV K (He.ga K "row_key"), fnV K (He.ga K "ends_with"), fnV K (He.ga K "_law_bag"), fnV K (He.ga K "_law_take"), fnV K (He.ga K "_law_is_good")]
def fv0 : List FnV := [some ("__init__", "BadGroup.__init__", PySem.OwnX.iA "group" ⟨11, 17, 11, 21⟩ ⟨11, 23, 11, 28⟩, .stmts (PySem.OwnX.iB "group" ⟨12, 8, 12, 12⟩ ⟨12, 8, 12, 18⟩ ⟨12, 21, 12, 26⟩ ⟨12, 8, 12, 26⟩), PySem.OwnX.iS "group", mainGlobals, [], builtinsNs), some ("__init__", "BadHost.__init__", PySem.OwnX.iA "host" ⟨7, 17, 7, 21⟩ ⟨7, 23, 7, 27⟩, .stmts (PySem.OwnX.iB "host" ⟨8, 8, 8, 12⟩ ⟨8, 8, 8, 17⟩ ⟨8, 20, 8, 24⟩ ⟨8, 8, 8, 24⟩), PySem.OwnX.iS "host", mainGlobals, [], builtinsNs), some ("__init__", "TooMany.__init__", PySem.OwnX.iA "limit" ⟨19, 17, 19, 21⟩ ⟨19, 23, 19, 28⟩, .stmts (PySem.OwnX.iB "limit" ⟨20, 8, 20, 12⟩ ⟨20, 8, 20, 18⟩ ⟨20, 21, 20, 26⟩ ⟨20, 8, 20, 26⟩), PySem.OwnX.iS "limit", mainGlobals, [], builtinsNs), some ("__init__", "Twice.__init__", PySem.OwnX.iA "name" ⟨15, 17, 15, 21⟩ ⟨15, 23, 15, 27⟩, .stmts (PySem.OwnX.iB "name" ⟨16, 8, 16, 12⟩ ⟨16, 8, 16, 17⟩ ⟨16, 20, 16, 24⟩ ⟨16, 8, 16, 24⟩), PySem.OwnX.iS "name", mainGlobals, [], builtinsNs), fnT "is_label" "is_label" s_is_label [], fnT "row_key" "row_key" s_row_key [], fnT "ends_with" "ends_with" s_ends_with [], fnT "_law_bag" "_law_bag" s__law_bag [], fnT "_law_take" "_law_take" s__law_take [], fnT "_law_is_good" "_law_is_good" s__law_is_good []]
def fs1 (K : PySem.W.Frag) : List FnV := [fnV K (He.ga K "_law_same"), fnV K (He.ga K "is_path"), fnV K (He.ga K "host_key"), fnV K (He.ga K "member_and_head"), fnV K (He.ga K "_law_of"), fnV K (He.ga K "_law_label"), fnV K (He.ga K "_law_due"), fnV K (He.ga K "is_host"), fnV K (He.ga K "moved"), fnV K (He.ga K "_law_pool")]
def fv1 : List FnV := [fnT "_law_same" "_law_same" s__law_same [], fnT "is_path" "is_path" s_is_path [], fnT "host_key" "host_key" s_host_key [], fnT "member_and_head" "member_and_head" s_member_and_head [], fnT "_law_of" "_law_of" s__law_of [], fnT "_law_label" "_law_label" s__law_label [], fnT "_law_due" "_law_due" s__law_due [], fnT "is_host" "is_host" s_is_host [], fnT "moved" "moved" s_moved [], fnT "_law_pool" "_law_pool" s__law_pool []]
def fs2 (K : PySem.W.Frag) : List FnV := [fnV K (He.ga K "_law_odd_group"), fnV K (He.ga K "_law_odd_host"), fnV K (He.ga K "_law_some"), fnV K (He.ga K "host_of"), fnV K (He.ga K "host_text"), fnV K (He.ma K (He.ga K "Groups") "translated"), fnV K (He.ma K (He.ga K "Groups") "origins"), fnV K (He.ga K "checked_group"), fnV K (He.ma K (He.ga K "Groups") "member"), fnV K (He.ga K "_law_wrong_hosts")]
def fv2 : List FnV := [fnT "_law_odd_group" "_law_odd_group" s__law_odd_group [], fnT "_law_odd_host" "_law_odd_host" s__law_odd_host [], fnT "_law_some" "_law_some" s__law_some [], fnT "host_of" "host_of" s_host_of [], fnT "host_text" "host_text" s_host_text [], fnT "translated" "Groups.translated" s_Groups_translated [], fnT "origins" "Groups.origins" s_Groups_origins [], fnT "checked_group" "checked_group" s_checked_group [], fnT "member" "Groups.member" s_Groups_member [], fnT "_law_wrong_hosts" "_law_wrong_hosts" s__law_wrong_hosts []]
def fs3 (K : PySem.W.Frag) : List FnV := [fnV K (He.ma K (He.ga K "Groups") "__init__"), fnV K (He.ga K "_law_made"), fnV K (He.ga K "law")]
def fv3 : List FnV := [fnT "__init__" "Groups.__init__" s_Groups_init [], fnT "_law_made" "_law_made" s__law_made [], fnT "law" "law" s_law []]
def fss (K : PySem.W.Frag) : List FnV := fs0 K ++ (fs1 K ++ (fs2 K ++ (fs3 K)))
def fvs : List FnV := fv0 ++ (fv1 ++ (fv2 ++ (fv3)))
theorem facts {w : World} {K : PySem.W.Frag} {h : Heap} {mg : Str → Option Value} {fa : Addr} (X : K.In h) (G : h.Ns mainGlobals mg) (hfa : mg "law" = some (.ref fa)) (ce : exs K = true) (cf : fss K = fvs)
    : ∃ fd : FuncData, (∀ (s : Shared) (v : Value), BindsTo s fd ⟨[v], []⟩ [("_law_script", v)]) ∧ ∀ base : Heap, K.In base → base.Ns mainGlobals mg → FnG PySem.Challenge.rw_offeredentry_k71_groups_refused.prog w K mg base 9 fa fd ["_law_script"] (spR K mg false 1 FN.m_law_ef94) := by
  obtain ⟨ce0, ce⟩ := He.ba ce
  obtain ⟨ce1, ce⟩ := He.ba ce
  obtain ⟨ce2, ce⟩ := He.ba ce
  obtain ⟨ce3, ce⟩ := He.ba ce
  obtain ⟨ce4, ce⟩ := He.ba ce
  obtain ⟨ce5, ce⟩ := He.ba ce
  obtain ⟨ce6, ce⟩ := He.ba ce
  obtain ⟨ce7, ce⟩ := He.ba ce
  obtain ⟨ce8, ce⟩ := He.ba ce
  obtain ⟨ce9, ce⟩ := He.ba ce
  obtain ⟨ce10, ce⟩ := He.ba ce
  obtain ⟨ce11, ce⟩ := He.ba ce
  obtain ⟨ce12, ce⟩ := He.ba ce
  obtain ⟨ce13, ce⟩ := He.ba ce
  obtain ⟨ce14, ce⟩ := He.ba ce
  obtain ⟨ce15, ce⟩ := He.ba ce
  obtain ⟨ce16, ce⟩ := He.ba ce
  obtain ⟨ce17, ce⟩ := He.ba ce
  obtain ⟨ce18, ce⟩ := He.ba ce
  obtain ⟨ce19, ce⟩ := He.ba ce
  obtain ⟨ce20, ce⟩ := He.ba ce
  obtain ⟨ce21, ce⟩ := He.ba ce
  obtain ⟨ce22, ce⟩ := He.ba ce
  have ce23 := ce
  obtain ⟨b_aC_Groups, ce0⟩ := He.ba ce0
  obtain ⟨b_pg_Groups, ce0⟩ := He.ba ce0
  obtain ⟨b_hd_Groups, ce0⟩ := He.ba ce0
  obtain ⟨b_po_Groups, ce0⟩ := He.ba ce0
  obtain ⟨b_sa_Groups, ce0⟩ := He.ba ce0
  obtain ⟨b_ca_Groups, ce0⟩ := He.ba ce0
  obtain ⟨b_cn_Groups, ce0⟩ := He.ba ce0
  obtain ⟨b_ct_Groups, ce0⟩ := He.ba ce0
  obtain ⟨b_cm_Groups, ce0⟩ := He.ba ce0
  have b_nf_Groups_hosts := ce0
  obtain ⟨b_nf_Groups_groups, ce1⟩ := He.ba ce1
  obtain ⟨b_mk_Groups, ce1⟩ := He.ba ce1
  obtain ⟨b_kc_Groups, ce1⟩ := He.ba ce1
  obtain ⟨b_ai_Groups, ce1⟩ := He.ba ce1
  obtain ⟨b_fi_Groups, ce1⟩ := He.ba ce1
  obtain ⟨b_mt_Groups_member, ce1⟩ := He.ba ce1
  obtain ⟨b_mf_Groups_member, ce1⟩ := He.ba ce1
  obtain ⟨b_mt_Groups_origins, ce1⟩ := He.ba ce1
  obtain ⟨b_mf_Groups_origins, ce1⟩ := He.ba ce1
  have b_mt_Groups_translated := ce1
  obtain ⟨b_mf_Groups_translated, ce2⟩ := He.ba ce2
  obtain ⟨b_ic_Groups, ce2⟩ := He.ba ce2
  obtain ⟨b_tc_Groups, ce2⟩ := He.ba ce2
  obtain ⟨b_sC_Groups_Groups, ce2⟩ := He.ba ce2
  obtain ⟨b_sb_Groups_NoneType, ce2⟩ := He.ba ce2
  obtain ⟨b_sb_Groups_bool, ce2⟩ := He.ba ce2
  obtain ⟨b_sb_Groups_int, ce2⟩ := He.ba ce2
  obtain ⟨b_sb_Groups_str, ce2⟩ := He.ba ce2
  obtain ⟨b_sb_Groups_tuple, ce2⟩ := He.ba ce2
  have b_sb_Groups_list := ce2
  obtain ⟨b_sb_Groups_dict, ce3⟩ := He.ba ce3
  obtain ⟨b_a0, ce3⟩ := He.ba ce3
  obtain ⟨b_k0, ce3⟩ := He.ba ce3
  obtain ⟨b_a1, ce3⟩ := He.ba ce3
  obtain ⟨b_k1, ce3⟩ := He.ba ce3
  obtain ⟨b_a2, ce3⟩ := He.ba ce3
  obtain ⟨b_k2, ce3⟩ := He.ba ce3
  obtain ⟨b_a3, ce3⟩ := He.ba ce3
  obtain ⟨b_k3, ce3⟩ := He.ba ce3
  have b_a4 := ce3
  obtain ⟨b_k4, ce4⟩ := He.ba ce4
  obtain ⟨b_a5, ce4⟩ := He.ba ce4
  obtain ⟨b_k5, ce4⟩ := He.ba ce4
  obtain ⟨b_a6, ce4⟩ := He.ba ce4
  obtain ⟨b_k6, ce4⟩ := He.ba ce4
  obtain ⟨b_a7, ce4⟩ := He.ba ce4
  obtain ⟨b_k7, ce4⟩ := He.ba ce4
  obtain ⟨b_a8, ce4⟩ := He.ba ce4
  obtain ⟨b_k8, ce4⟩ := He.ba ce4
  have b_a9 := ce4
  obtain ⟨b_k9, ce5⟩ := He.ba ce5
  obtain ⟨b_a10, ce5⟩ := He.ba ce5
  obtain ⟨b_k10, ce5⟩ := He.ba ce5
  obtain ⟨b_a11, ce5⟩ := He.ba ce5
  obtain ⟨b_k11, ce5⟩ := He.ba ce5
  obtain ⟨b_a12, ce5⟩ := He.ba ce5
  obtain ⟨b_k12, ce5⟩ := He.ba ce5
  obtain ⟨b_a13, ce5⟩ := He.ba ce5
  obtain ⟨b_k13, ce5⟩ := He.ba ce5
  have b_a14 := ce5
  obtain ⟨b_k14, ce6⟩ := He.ba ce6
  obtain ⟨b_a15, ce6⟩ := He.ba ce6
  obtain ⟨b_k15, ce6⟩ := He.ba ce6
  obtain ⟨b_a16, ce6⟩ := He.ba ce6
  obtain ⟨b_k16, ce6⟩ := He.ba ce6
  obtain ⟨b_a17, ce6⟩ := He.ba ce6
  obtain ⟨b_k17, ce6⟩ := He.ba ce6
  obtain ⟨b_a18, ce6⟩ := He.ba ce6
  obtain ⟨b_k18, ce6⟩ := He.ba ce6
  have b_a19 := ce6
  obtain ⟨b_k19, ce7⟩ := He.ba ce7
  obtain ⟨b_a20, ce7⟩ := He.ba ce7
  obtain ⟨b_k20, ce7⟩ := He.ba ce7
  obtain ⟨b_k21, ce7⟩ := He.ba ce7
  obtain ⟨b_k22, ce7⟩ := He.ba ce7
  obtain ⟨b_a23, ce7⟩ := He.ba ce7
  obtain ⟨b_k23, ce7⟩ := He.ba ce7
  obtain ⟨b_k24, ce7⟩ := He.ba ce7
  obtain ⟨b_a25, ce7⟩ := He.ba ce7
  have b_k25 := ce7
  obtain ⟨b_k26, ce8⟩ := He.ba ce8
  obtain ⟨b_a27, ce8⟩ := He.ba ce8
  obtain ⟨b_k27, ce8⟩ := He.ba ce8
  obtain ⟨b_a28, ce8⟩ := He.ba ce8
  obtain ⟨b_k28, ce8⟩ := He.ba ce8
  obtain ⟨b_aC_BadGroup, ce8⟩ := He.ba ce8
  obtain ⟨b_xL_BadGroup, ce8⟩ := He.ba ce8
  obtain ⟨b_sa_BadGroup, ce8⟩ := He.ba ce8
  obtain ⟨b_ga_BadGroup, ce8⟩ := He.ba ce8
  have b_gg_BadGroup := ce8
  obtain ⟨b_nb_BadGroup, ce9⟩ := He.ba ce9
  obtain ⟨b_ai_BadGroup, ce9⟩ := He.ba ce9
  obtain ⟨b_ti_BadGroup, ce9⟩ := He.ba ce9
  obtain ⟨b_cb_BadGroup, ce9⟩ := He.ba ce9
  obtain ⟨b_cn_BadGroup, ce9⟩ := He.ba ce9
  obtain ⟨b_kC_BadGroup, ce9⟩ := He.ba ce9
  obtain ⟨b_eC_BadGroup, ce9⟩ := He.ba ce9
  obtain ⟨b_tC_BadGroup, ce9⟩ := He.ba ce9
  obtain ⟨b_hC_BadGroup, ce9⟩ := He.ba ce9
  have b_iC_BadGroup := ce9
  obtain ⟨b_sC_BadGroup, ce10⟩ := He.ba ce10
  obtain ⟨b_aC_BadHost, ce10⟩ := He.ba ce10
  obtain ⟨b_xL_BadHost, ce10⟩ := He.ba ce10
  obtain ⟨b_sa_BadHost, ce10⟩ := He.ba ce10
  obtain ⟨b_ga_BadHost, ce10⟩ := He.ba ce10
  obtain ⟨b_gg_BadHost, ce10⟩ := He.ba ce10
  obtain ⟨b_nb_BadHost, ce10⟩ := He.ba ce10
  obtain ⟨b_ai_BadHost, ce10⟩ := He.ba ce10
  obtain ⟨b_ti_BadHost, ce10⟩ := He.ba ce10
  have b_cb_BadHost := ce10
  obtain ⟨b_cn_BadHost, ce11⟩ := He.ba ce11
  obtain ⟨b_kC_BadHost, ce11⟩ := He.ba ce11
  obtain ⟨b_eC_BadHost, ce11⟩ := He.ba ce11
  obtain ⟨b_tC_BadHost, ce11⟩ := He.ba ce11
  obtain ⟨b_hC_BadHost, ce11⟩ := He.ba ce11
  obtain ⟨b_iC_BadHost, ce11⟩ := He.ba ce11
  obtain ⟨b_sC_BadHost, ce11⟩ := He.ba ce11
  obtain ⟨b_aC_TooMany, ce11⟩ := He.ba ce11
  obtain ⟨b_xL_TooMany, ce11⟩ := He.ba ce11
  have b_sa_TooMany := ce11
  obtain ⟨b_ga_TooMany, ce12⟩ := He.ba ce12
  obtain ⟨b_gg_TooMany, ce12⟩ := He.ba ce12
  obtain ⟨b_nb_TooMany, ce12⟩ := He.ba ce12
  obtain ⟨b_ai_TooMany, ce12⟩ := He.ba ce12
  obtain ⟨b_ti_TooMany, ce12⟩ := He.ba ce12
  obtain ⟨b_cb_TooMany, ce12⟩ := He.ba ce12
  obtain ⟨b_cn_TooMany, ce12⟩ := He.ba ce12
  obtain ⟨b_kC_TooMany, ce12⟩ := He.ba ce12
  obtain ⟨b_eC_TooMany, ce12⟩ := He.ba ce12
  have b_tC_TooMany := ce12
  obtain ⟨b_hC_TooMany, ce13⟩ := He.ba ce13
  obtain ⟨b_iC_TooMany, ce13⟩ := He.ba ce13
  obtain ⟨b_sC_TooMany, ce13⟩ := He.ba ce13
  obtain ⟨b_aC_Twice, ce13⟩ := He.ba ce13
  obtain ⟨b_xL_Twice, ce13⟩ := He.ba ce13
  obtain ⟨b_sa_Twice, ce13⟩ := He.ba ce13
  obtain ⟨b_ga_Twice, ce13⟩ := He.ba ce13
  obtain ⟨b_gg_Twice, ce13⟩ := He.ba ce13
  obtain ⟨b_nb_Twice, ce13⟩ := He.ba ce13
  have b_ai_Twice := ce13
  obtain ⟨b_ti_Twice, ce14⟩ := He.ba ce14
  obtain ⟨b_cb_Twice, ce14⟩ := He.ba ce14
  obtain ⟨b_cn_Twice, ce14⟩ := He.ba ce14
  obtain ⟨b_kC_Twice, ce14⟩ := He.ba ce14
  obtain ⟨b_eC_Twice, ce14⟩ := He.ba ce14
  obtain ⟨b_tC_Twice, ce14⟩ := He.ba ce14
  obtain ⟨b_hC_Twice, ce14⟩ := He.ba ce14
  obtain ⟨b_iC_Twice, ce14⟩ := He.ba ce14
  obtain ⟨b_sC_Twice, ce14⟩ := He.ba ce14
  have b_ea_BadGroup := ce14
  obtain ⟨b_en_BadGroup, ce15⟩ := He.ba ce15
  obtain ⟨b_et_BadGroup, ce15⟩ := He.ba ce15
  obtain ⟨b_em_BadGroup, ce15⟩ := He.ba ce15
  obtain ⟨b_ea_BadHost, ce15⟩ := He.ba ce15
  obtain ⟨b_en_BadHost, ce15⟩ := He.ba ce15
  obtain ⟨b_et_BadHost, ce15⟩ := He.ba ce15
  obtain ⟨b_em_BadHost, ce15⟩ := He.ba ce15
  obtain ⟨b_ea_TooMany, ce15⟩ := He.ba ce15
  obtain ⟨b_en_TooMany, ce15⟩ := He.ba ce15
  have b_et_TooMany := ce15
  obtain ⟨b_em_TooMany, ce16⟩ := He.ba ce16
  obtain ⟨b_ea_Twice, ce16⟩ := He.ba ce16
  obtain ⟨b_en_Twice, ce16⟩ := He.ba ce16
  obtain ⟨b_et_Twice, ce16⟩ := He.ba ce16
  obtain ⟨b_em_Twice, ce16⟩ := He.ba ce16
  obtain ⟨b_ki_BadGroup_ValueError, ce16⟩ := He.ba ce16
  obtain ⟨b_ki_BadHost_ValueError, ce16⟩ := He.ba ce16
  obtain ⟨b_ki_TooMany_OverflowError, ce16⟩ := He.ba ce16
  obtain ⟨b_ki_Twice_ValueError, ce16⟩ := He.ba ce16
  have b_kn_BadGroup_BadGroup := ce16
  obtain ⟨b_kn_BadHost_BadGroup, ce17⟩ := He.ba ce17
  obtain ⟨b_kn_TooMany_BadGroup, ce17⟩ := He.ba ce17
  obtain ⟨b_kn_Twice_BadGroup, ce17⟩ := He.ba ce17
  obtain ⟨b_kn_BadGroup_BadHost, ce17⟩ := He.ba ce17
  obtain ⟨b_kn_BadHost_BadHost, ce17⟩ := He.ba ce17
  obtain ⟨b_kn_TooMany_BadHost, ce17⟩ := He.ba ce17
  obtain ⟨b_kn_Twice_BadHost, ce17⟩ := He.ba ce17
  obtain ⟨b_kn_BadGroup_TooMany, ce17⟩ := He.ba ce17
  obtain ⟨b_kn_BadHost_TooMany, ce17⟩ := He.ba ce17
  have b_kn_TooMany_TooMany := ce17
  obtain ⟨b_kn_Twice_TooMany, ce18⟩ := He.ba ce18
  obtain ⟨b_kn_BadGroup_Twice, ce18⟩ := He.ba ce18
  obtain ⟨b_kn_BadHost_Twice, ce18⟩ := He.ba ce18
  obtain ⟨b_kn_TooMany_Twice, ce18⟩ := He.ba ce18
  obtain ⟨b_kn_Twice_Twice, ce18⟩ := He.ba ce18
  obtain ⟨b_z_BadRule, ce18⟩ := He.ba ce18
  obtain ⟨b_z_OverflowError, ce18⟩ := He.ba ce18
  obtain ⟨b_z_ValueError, ce18⟩ := He.ba ce18
  obtain ⟨b_z_abs, ce18⟩ := He.ba ce18
  have b_z_bool := ce18
  obtain ⟨b_z_enumerate, ce19⟩ := He.ba ce19
  obtain ⟨b_z_int, ce19⟩ := He.ba ce19
  obtain ⟨b_z_isinstance, ce19⟩ := He.ba ce19
  obtain ⟨b_z_len, ce19⟩ := He.ba ce19
  obtain ⟨b_z_list, ce19⟩ := He.ba ce19
  obtain ⟨b_z_range, ce19⟩ := He.ba ce19
  obtain ⟨b_z_str, ce19⟩ := He.ba ce19
  obtain ⟨b_z_tuple, ce19⟩ := He.ba ce19
  obtain ⟨b_g_CHARACTERS, ce19⟩ := He.ba ce19
  have b_g_LEAST_OF_GROUP := ce19
  obtain ⟨b_g_LONGEST_LABEL, ce20⟩ := He.ba ce20
  obtain ⟨b_g_MOST_GROUPS, ce20⟩ := He.ba ce20
  obtain ⟨b_g_MOST_LABELS, ce20⟩ := He.ba ce20
  obtain ⟨b_g_MOST_LABELS_OF_MEMBER, ce20⟩ := He.ba ce20
  obtain ⟨b_g_MOST_OF_GROUP, ce20⟩ := He.ba ce20
  obtain ⟨b_cb0, ce20⟩ := He.ba ce20
  obtain ⟨b_cb1, ce20⟩ := He.ba ce20
  obtain ⟨b_cb2, ce20⟩ := He.ba ce20
  obtain ⟨b_cb3, ce20⟩ := He.ba ce20
  have b_cb4 := ce20
  obtain ⟨b_cb5, ce21⟩ := He.ba ce21
  obtain ⟨b_cb6, ce21⟩ := He.ba ce21
  obtain ⟨b_cb7, ce21⟩ := He.ba ce21
  obtain ⟨b_cb8, ce21⟩ := He.ba ce21
  obtain ⟨b_cb9, ce21⟩ := He.ba ce21
  obtain ⟨b_cb10, ce21⟩ := He.ba ce21
  obtain ⟨b_cb11, ce21⟩ := He.ba ce21
  obtain ⟨b_cb12, ce21⟩ := He.ba ce21
  obtain ⟨b_cb13, ce21⟩ := He.ba ce21
  have b_cb14 := ce21
  obtain ⟨b_cb15, ce22⟩ := He.ba ce22
  obtain ⟨b_cb16, ce22⟩ := He.ba ce22
  obtain ⟨b_cb17, ce22⟩ := He.ba ce22
  obtain ⟨b_cb18, ce22⟩ := He.ba ce22
  obtain ⟨b_cb19, ce22⟩ := He.ba ce22
  obtain ⟨b_cb20, ce22⟩ := He.ba ce22
  obtain ⟨b_cb21, ce22⟩ := He.ba ce22
  obtain ⟨b_cb22, ce22⟩ := He.ba ce22
  obtain ⟨b_cb23, ce22⟩ := He.ba ce22
  have b_cb24 := ce22
  obtain ⟨b_cb25, ce23⟩ := He.ba ce23
  obtain ⟨b_cb26, ce23⟩ := He.ba ce23
  obtain ⟨b_cb27, ce23⟩ := He.ba ce23
  have b_cb28 := ce23
  obtain ⟨cf0, cf⟩ := List.append_inj (show fs0 K ++ _ = fv0 ++ _ from cf) rfl
  obtain ⟨cf1, cf⟩ := List.append_inj (show fs1 K ++ _ = fv1 ++ _ from cf) rfl
  obtain ⟨cf2, cf⟩ := List.append_inj (show fs2 K ++ _ = fv2 ++ _ from cf) rfl
  have cf3 := cf
  obtain ⟨d0, cf0⟩ := List.cons.inj cf0
  obtain ⟨d1, cf0⟩ := List.cons.inj cf0
  obtain ⟨d2, cf0⟩ := List.cons.inj cf0
  obtain ⟨d3, cf0⟩ := List.cons.inj cf0
  obtain ⟨d4, cf0⟩ := List.cons.inj cf0
  obtain ⟨d5, cf0⟩ := List.cons.inj cf0
  obtain ⟨d6, cf0⟩ := List.cons.inj cf0
  obtain ⟨d7, cf0⟩ := List.cons.inj cf0
  obtain ⟨d8, cf0⟩ := List.cons.inj cf0
  obtain ⟨d9, cf0⟩ := List.cons.inj cf0
  obtain ⟨d10, cf1⟩ := List.cons.inj cf1
  obtain ⟨d11, cf1⟩ := List.cons.inj cf1
  obtain ⟨d12, cf1⟩ := List.cons.inj cf1
  obtain ⟨d13, cf1⟩ := List.cons.inj cf1
  obtain ⟨d14, cf1⟩ := List.cons.inj cf1
  obtain ⟨d15, cf1⟩ := List.cons.inj cf1
  obtain ⟨d16, cf1⟩ := List.cons.inj cf1
  obtain ⟨d17, cf1⟩ := List.cons.inj cf1
  obtain ⟨d18, cf1⟩ := List.cons.inj cf1
  obtain ⟨d19, cf1⟩ := List.cons.inj cf1
  obtain ⟨d20, cf2⟩ := List.cons.inj cf2
  obtain ⟨d21, cf2⟩ := List.cons.inj cf2
  obtain ⟨d22, cf2⟩ := List.cons.inj cf2
  obtain ⟨d23, cf2⟩ := List.cons.inj cf2
  obtain ⟨d24, cf2⟩ := List.cons.inj cf2
  obtain ⟨d25, cf2⟩ := List.cons.inj cf2
  obtain ⟨d26, cf2⟩ := List.cons.inj cf2
  obtain ⟨d27, cf2⟩ := List.cons.inj cf2
  obtain ⟨d28, cf2⟩ := List.cons.inj cf2
  obtain ⟨d29, cf2⟩ := List.cons.inj cf2
  obtain ⟨d30, cf3⟩ := List.cons.inj cf3
  obtain ⟨d31, cf3⟩ := List.cons.inj cf3
  obtain ⟨d32, cf3⟩ := List.cons.inj cf3
  obtain ⟨ocx_BadGroup, odx_BadGroup, dcx_BadGroup, pmx_BadGroup, anx_BadGroup, cdx_BadGroup, ctx_BadGroup, slx_BadGroup, li_BadGroup, ci_BadGroup⟩ := funN_of d0 b_cb_BadGroup b_cn_BadGroup
  obtain ⟨ocx_BadHost, odx_BadHost, dcx_BadHost, pmx_BadHost, anx_BadHost, cdx_BadHost, ctx_BadHost, slx_BadHost, li_BadHost, ci_BadHost⟩ := funN_of d1 b_cb_BadHost b_cn_BadHost
  obtain ⟨ocx_TooMany, odx_TooMany, dcx_TooMany, pmx_TooMany, anx_TooMany, cdx_TooMany, ctx_TooMany, slx_TooMany, li_TooMany, ci_TooMany⟩ := funN_of d2 b_cb_TooMany b_cn_TooMany
  obtain ⟨ocx_Twice, odx_Twice, dcx_Twice, pmx_Twice, anx_Twice, cdx_Twice, ctx_Twice, slx_Twice, li_Twice, ci_Twice⟩ := funN_of d3 b_cb_Twice b_cn_Twice
  obtain ⟨t_CHARACTERS, h_g_CHARACTERS⟩ := strB_ok b_g_CHARACTERS
  obtain ⟨t_LEAST_OF_GROUP, h_g_LEAST_OF_GROUP⟩ := intB_ok b_g_LEAST_OF_GROUP
  obtain ⟨t_LONGEST_LABEL, h_g_LONGEST_LABEL⟩ := intB_ok b_g_LONGEST_LABEL
  obtain ⟨t_MOST_GROUPS, h_g_MOST_GROUPS⟩ := intB_ok b_g_MOST_GROUPS
  obtain ⟨t_MOST_LABELS, h_g_MOST_LABELS⟩ := intB_ok b_g_MOST_LABELS
  obtain ⟨t_MOST_LABELS_OF_MEMBER, h_g_MOST_LABELS_OF_MEMBER⟩ := intB_ok b_g_MOST_LABELS_OF_MEMBER
  obtain ⟨t_MOST_OF_GROUP, h_g_MOST_OF_GROUP⟩ := intB_ok b_g_MOST_OF_GROUP
  obtain ⟨oc0, od0, kV0, dc0, pm0, an0, cd0, ct0, sl0, l0, c0⟩ := fun_of (pa := defArgs s_is_label) (bo := defBody s_is_label) (sc := defScope s_is_label) d4 b_cb0
  obtain ⟨oc1, od1, kV1, dc1, pm1, an1, cd1, ct1, sl1, l1, c1⟩ := fun_of (pa := defArgs s_row_key) (bo := defBody s_row_key) (sc := defScope s_row_key) d5 b_cb1
  obtain ⟨oc2, od2, kV2, dc2, pm2, an2, cd2, ct2, sl2, l2, c2⟩ := fun_of (pa := defArgs s_ends_with) (bo := defBody s_ends_with) (sc := defScope s_ends_with) d6 b_cb2
  obtain ⟨oc3, od3, kV3, dc3, pm3, an3, cd3, ct3, sl3, l3, c3⟩ := fun_of (pa := defArgs s__law_bag) (bo := defBody s__law_bag) (sc := defScope s__law_bag) d7 b_cb3
  obtain ⟨oc4, od4, kV4, dc4, pm4, an4, cd4, ct4, sl4, l4, c4⟩ := fun_of (pa := defArgs s__law_take) (bo := defBody s__law_take) (sc := defScope s__law_take) d8 b_cb4
  obtain ⟨oc5, od5, kV5, dc5, pm5, an5, cd5, ct5, sl5, l5, c5⟩ := fun_of (pa := defArgs s__law_is_good) (bo := defBody s__law_is_good) (sc := defScope s__law_is_good) d9 b_cb5
  obtain ⟨oc6, od6, kV6, dc6, pm6, an6, cd6, ct6, sl6, l6, c6⟩ := fun_of (pa := defArgs s__law_same) (bo := defBody s__law_same) (sc := defScope s__law_same) d10 b_cb6
  obtain ⟨oc7, od7, kV7, dc7, pm7, an7, cd7, ct7, sl7, l7, c7⟩ := fun_of (pa := defArgs s_is_path) (bo := defBody s_is_path) (sc := defScope s_is_path) d11 b_cb7
  obtain ⟨oc8, od8, kV8, dc8, pm8, an8, cd8, ct8, sl8, l8, c8⟩ := fun_of (pa := defArgs s_host_key) (bo := defBody s_host_key) (sc := defScope s_host_key) d12 b_cb8
  obtain ⟨oc9, od9, kV9, dc9, pm9, an9, cd9, ct9, sl9, l9, c9⟩ := fun_of (pa := defArgs s_member_and_head) (bo := defBody s_member_and_head) (sc := defScope s_member_and_head) d13 b_cb9
  obtain ⟨oc10, od10, kV10, dc10, pm10, an10, cd10, ct10, sl10, l10, c10⟩ := fun_of (pa := defArgs s__law_of) (bo := defBody s__law_of) (sc := defScope s__law_of) d14 b_cb10
  obtain ⟨oc11, od11, kV11, dc11, pm11, an11, cd11, ct11, sl11, l11, c11⟩ := fun_of (pa := defArgs s__law_label) (bo := defBody s__law_label) (sc := defScope s__law_label) d15 b_cb11
  obtain ⟨oc12, od12, kV12, dc12, pm12, an12, cd12, ct12, sl12, l12, c12⟩ := fun_of (pa := defArgs s__law_due) (bo := defBody s__law_due) (sc := defScope s__law_due) d16 b_cb12
  obtain ⟨oc13, od13, kV13, dc13, pm13, an13, cd13, ct13, sl13, l13, c13⟩ := fun_of (pa := defArgs s_is_host) (bo := defBody s_is_host) (sc := defScope s_is_host) d17 b_cb13
  obtain ⟨oc14, od14, kV14, dc14, pm14, an14, cd14, ct14, sl14, l14, c14⟩ := fun_of (pa := defArgs s_moved) (bo := defBody s_moved) (sc := defScope s_moved) d18 b_cb14
  obtain ⟨oc15, od15, kV15, dc15, pm15, an15, cd15, ct15, sl15, l15, c15⟩ := fun_of (pa := defArgs s__law_pool) (bo := defBody s__law_pool) (sc := defScope s__law_pool) d19 b_cb15
  obtain ⟨oc16, od16, kV16, dc16, pm16, an16, cd16, ct16, sl16, l16, c16⟩ := fun_of (pa := defArgs s__law_odd_group) (bo := defBody s__law_odd_group) (sc := defScope s__law_odd_group) d20 b_cb16
  obtain ⟨oc17, od17, kV17, dc17, pm17, an17, cd17, ct17, sl17, l17, c17⟩ := fun_of (pa := defArgs s__law_odd_host) (bo := defBody s__law_odd_host) (sc := defScope s__law_odd_host) d21 b_cb17
  obtain ⟨oc18, od18, kV18, dc18, pm18, an18, cd18, ct18, sl18, l18, c18⟩ := fun_of (pa := defArgs s__law_some) (bo := defBody s__law_some) (sc := defScope s__law_some) d22 b_cb18
  obtain ⟨oc19, od19, kV19, dc19, pm19, an19, cd19, ct19, sl19, l19, c19⟩ := fun_of (pa := defArgs s_host_of) (bo := defBody s_host_of) (sc := defScope s_host_of) d23 b_cb19
  obtain ⟨oc20, od20, kV20, dc20, pm20, an20, cd20, ct20, sl20, l20, c20⟩ := fun_of (pa := defArgs s_host_text) (bo := defBody s_host_text) (sc := defScope s_host_text) d24 b_cb20
  obtain ⟨oc21, od21, kV21, dc21, pm21, an21, cd21, ct21, sl21, l21, c21⟩ := fun_of (pa := defArgs s_Groups_translated) (bo := defBody s_Groups_translated) (sc := defScope s_Groups_translated) d25 b_cb21
  obtain ⟨oc22, od22, kV22, dc22, pm22, an22, cd22, ct22, sl22, l22, c22⟩ := fun_of (pa := defArgs s_Groups_origins) (bo := defBody s_Groups_origins) (sc := defScope s_Groups_origins) d26 b_cb22
  obtain ⟨oc23, od23, kV23, dc23, pm23, an23, cd23, ct23, sl23, l23, c23⟩ := fun_of (pa := defArgs s_checked_group) (bo := defBody s_checked_group) (sc := defScope s_checked_group) d27 b_cb23
  obtain ⟨oc24, od24, kV24, dc24, pm24, an24, cd24, ct24, sl24, l24, c24⟩ := fun_of (pa := defArgs s_Groups_member) (bo := defBody s_Groups_member) (sc := defScope s_Groups_member) d28 b_cb24
  obtain ⟨oc25, od25, kV25, dc25, pm25, an25, cd25, ct25, sl25, l25, c25⟩ := fun_of (pa := defArgs s__law_wrong_hosts) (bo := defBody s__law_wrong_hosts) (sc := defScope s__law_wrong_hosts) d29 b_cb25
  obtain ⟨oc26, od26, kV26, dc26, pm26, an26, cd26, ct26, sl26, l26, c26⟩ := fun_of (pa := defArgs s_Groups_init) (bo := defBody s_Groups_init) (sc := defScope s_Groups_init) d30 b_cb26
  obtain ⟨oc27, od27, kV27, dc27, pm27, an27, cd27, ct27, sl27, l27, c27⟩ := fun_of (pa := defArgs s__law_made) (bo := defBody s__law_made) (sc := defScope s__law_made) d31 b_cb27
  obtain ⟨oc28, od28, kV28, dc28, pm28, an28, cd28, ct28, sl28, l28, c28⟩ := fun_of (pa := defArgs s_law) (bo := defBody s_law) (sc := defScope s_law) d32 b_cb28
  exact all_mk (l := PySem.Challenge.rw_offeredentry_k71_groups_refused) X G hfa (of_decide_eq_true b_aC_Groups) b_pg_Groups b_hd_Groups b_po_Groups (of_decide_eq_true b_sa_Groups) (of_decide_eq_true b_ca_Groups) (of_decide_eq_true b_cn_Groups) (of_decide_eq_true b_ct_Groups) (of_decide_eq_true b_cm_Groups) (of_decide_eq_true b_nf_Groups_hosts) (of_decide_eq_true b_nf_Groups_groups) b_mk_Groups b_kc_Groups (of_decide_eq_true b_ai_Groups) b_fi_Groups (of_decide_eq_true b_mt_Groups_member) b_mf_Groups_member (of_decide_eq_true b_mt_Groups_origins) b_mf_Groups_origins (of_decide_eq_true b_mt_Groups_translated) b_mf_Groups_translated b_ic_Groups (of_decide_eq_true b_tc_Groups) (of_decide_eq_true b_sC_Groups_Groups) (of_decide_eq_true b_sb_Groups_NoneType) (of_decide_eq_true b_sb_Groups_bool) (of_decide_eq_true b_sb_Groups_int) (of_decide_eq_true b_sb_Groups_str) (of_decide_eq_true b_sb_Groups_tuple) (of_decide_eq_true b_sb_Groups_list) (of_decide_eq_true b_sb_Groups_dict) (of_decide_eq_true b_a0) l0 c0 b_k0 (of_decide_eq_true b_a1) l1 c1 b_k1 (of_decide_eq_true b_a2) l2 c2 b_k2 (of_decide_eq_true b_a3) l3 c3 b_k3 (of_decide_eq_true b_a4) l4 c4 b_k4 (of_decide_eq_true b_a5) l5 c5 b_k5 (of_decide_eq_true b_a6) l6 c6 b_k6 (of_decide_eq_true b_a7) l7 c7 b_k7 (of_decide_eq_true b_a8) l8 c8 b_k8 (of_decide_eq_true b_a9) l9 c9 b_k9 (of_decide_eq_true b_a10) l10 c10 b_k10 (of_decide_eq_true b_a11) l11 c11 b_k11 (of_decide_eq_true b_a12) l12 c12 b_k12 (of_decide_eq_true b_a13) l13 c13 b_k13 (of_decide_eq_true b_a14) l14 c14 b_k14 (of_decide_eq_true b_a15) l15 c15 b_k15 (of_decide_eq_true b_a16) l16 c16 b_k16 (of_decide_eq_true b_a17) l17 c17 b_k17 (of_decide_eq_true b_a18) l18 c18 b_k18 (of_decide_eq_true b_a19) l19 c19 b_k19 (of_decide_eq_true b_a20) l20 c20 b_k20 l21 c21 b_k21 l22 c22 b_k22 (of_decide_eq_true b_a23) l23 c23 b_k23 l24 c24 b_k24 (of_decide_eq_true b_a25) l25 c25 b_k25 l26 c26 b_k26 (of_decide_eq_true b_a27) l27 c27 b_k27 (of_decide_eq_true b_a28) l28 c28 b_k28 (of_decide_eq_true b_aC_BadGroup) (xc_of b_xL_BadGroup) (of_decide_eq_true b_sa_BadGroup) (of_decide_eq_true b_ga_BadGroup) (of_decide_eq_true b_gg_BadGroup) (of_decide_eq_true b_nb_BadGroup) (of_decide_eq_true b_ai_BadGroup) (of_decide_eq_true b_ti_BadGroup) li_BadGroup ci_BadGroup b_kC_BadGroup (of_decide_eq_true b_eC_BadGroup) (of_decide_eq_true b_tC_BadGroup) b_hC_BadGroup b_iC_BadGroup (of_decide_eq_true b_sC_BadGroup) (of_decide_eq_true b_aC_BadHost) (xc_of b_xL_BadHost) (of_decide_eq_true b_sa_BadHost) (of_decide_eq_true b_ga_BadHost) (of_decide_eq_true b_gg_BadHost) (of_decide_eq_true b_nb_BadHost) (of_decide_eq_true b_ai_BadHost) (of_decide_eq_true b_ti_BadHost) li_BadHost ci_BadHost b_kC_BadHost (of_decide_eq_true b_eC_BadHost) (of_decide_eq_true b_tC_BadHost) b_hC_BadHost b_iC_BadHost (of_decide_eq_true b_sC_BadHost) (of_decide_eq_true b_aC_TooMany) (xc_of b_xL_TooMany) (of_decide_eq_true b_sa_TooMany) (of_decide_eq_true b_ga_TooMany) (of_decide_eq_true b_gg_TooMany) (of_decide_eq_true b_nb_TooMany) (of_decide_eq_true b_ai_TooMany) (of_decide_eq_true b_ti_TooMany) li_TooMany ci_TooMany b_kC_TooMany (of_decide_eq_true b_eC_TooMany) (of_decide_eq_true b_tC_TooMany) b_hC_TooMany b_iC_TooMany (of_decide_eq_true b_sC_TooMany) (of_decide_eq_true b_aC_Twice) (xc_of b_xL_Twice) (of_decide_eq_true b_sa_Twice) (of_decide_eq_true b_ga_Twice) (of_decide_eq_true b_gg_Twice) (of_decide_eq_true b_nb_Twice) (of_decide_eq_true b_ai_Twice) (of_decide_eq_true b_ti_Twice) li_Twice ci_Twice b_kC_Twice (of_decide_eq_true b_eC_Twice) (of_decide_eq_true b_tC_Twice) b_hC_Twice b_iC_Twice (of_decide_eq_true b_sC_Twice) (of_decide_eq_true b_ea_BadGroup) (of_decide_eq_true b_en_BadGroup) (of_decide_eq_true b_et_BadGroup) (of_decide_eq_true b_em_BadGroup) (of_decide_eq_true b_ea_BadHost) (of_decide_eq_true b_en_BadHost) (of_decide_eq_true b_et_BadHost) (of_decide_eq_true b_em_BadHost) (of_decide_eq_true b_ea_TooMany) (of_decide_eq_true b_en_TooMany) (of_decide_eq_true b_et_TooMany) (of_decide_eq_true b_em_TooMany) (of_decide_eq_true b_ea_Twice) (of_decide_eq_true b_en_Twice) (of_decide_eq_true b_et_Twice) (of_decide_eq_true b_em_Twice) (of_decide_eq_true b_ki_BadGroup_ValueError) (of_decide_eq_true b_ki_BadHost_ValueError) (of_decide_eq_true b_ki_TooMany_OverflowError) (of_decide_eq_true b_ki_Twice_ValueError) (of_decide_eq_true b_kn_BadGroup_BadGroup) (of_decide_eq_true b_kn_BadHost_BadGroup) (of_decide_eq_true b_kn_TooMany_BadGroup) (of_decide_eq_true b_kn_Twice_BadGroup) (of_decide_eq_true b_kn_BadGroup_BadHost) (of_decide_eq_true b_kn_BadHost_BadHost) (of_decide_eq_true b_kn_TooMany_BadHost) (of_decide_eq_true b_kn_Twice_BadHost) (of_decide_eq_true b_kn_BadGroup_TooMany) (of_decide_eq_true b_kn_BadHost_TooMany) (of_decide_eq_true b_kn_TooMany_TooMany) (of_decide_eq_true b_kn_Twice_TooMany) (of_decide_eq_true b_kn_BadGroup_Twice) (of_decide_eq_true b_kn_BadHost_Twice) (of_decide_eq_true b_kn_TooMany_Twice) (of_decide_eq_true b_kn_Twice_Twice) (of_decide_eq_true b_z_BadRule) (of_decide_eq_true b_z_OverflowError) (of_decide_eq_true b_z_ValueError) (of_decide_eq_true b_z_abs) (of_decide_eq_true b_z_bool) (of_decide_eq_true b_z_enumerate) (of_decide_eq_true b_z_int) (of_decide_eq_true b_z_isinstance) (of_decide_eq_true b_z_len) (of_decide_eq_true b_z_list) (of_decide_eq_true b_z_range) (of_decide_eq_true b_z_str) (of_decide_eq_true b_z_tuple) h_g_CHARACTERS h_g_LEAST_OF_GROUP h_g_LONGEST_LABEL h_g_MOST_GROUPS h_g_MOST_LABELS h_g_MOST_LABELS_OF_MEMBER h_g_MOST_OF_GROUP
end K71
namespace K71
open PySem PySem.W PySem.Calls PyProof.Rows
def names0 : List PySem.Str := ["_wall", "__name__", "BadHost", "BadGroup", "Twice", "TooMany", "CHARACTERS", "LONGEST_LABEL", "MOST_LABELS", "is_label", "is_path", "is_host", "host_of", "host_text", "row_key", "host_key", "ends_with", "MOST_GROUPS", "LEAST_OF_GROUP", "MOST_OF_GROUP", "MOST_LABELS_OF_MEMBER", "member_and_head", "moved", "checked_group", "Groups", "_law_bag", "_law_take", "_law_of", "_law_label", "_law_pool"]
def names1 : List PySem.Str := ["_law_made", "_law_odd_group", "_law_odd_host", "_law_is_good", "_law_due", "_law_same", "_law_wrong_hosts", "_law_some"]
def names : List PySem.Str := names0 ++ (names1)
abbrev RR : OpenRow := OpenLaw.row PySem.Challenge.rw_offeredentry_k71_groups_refused
set_option maxHeartbeats 0 in
theorem run0 (w : World) : DL.PartEq RR 40000 w (fun s => (HandSHeadRun.looksF RR.prog (boot_heap w.params) s.abs, HandSHeadRun.seenQ (view RR.prog [42]) names (importedModules RR.prog.main.body) (fun s => xlAt (view RR.prog [42]) [] s && recOk RR.toRowW.records s) s.abs)) (true, openGood (view RR.prog [42]) names) := by
  intro os
  kernel_rfl
set_option maxHeartbeats 0 in
theorem runF (w : World) : DL.PartEq RR 40000 w (fun s => DL.obF fss (HandSHeadRun.getT s)) fvs := by
  intro os
  kernel_rfl
def gx0 (K : PySem.W.Frag) : Bool := ex0 K && (ex1 K && (ex2 K && (ex3 K && (ex4 K && (ex5 K && (ex6 K && (ex7 K && (ex8 K && (ex9 K && (ex10 K && (ex11 K && (ex12 K && (ex13 K && (ex14 K && (ex15 K && (ex16 K && (ex17 K && (ex18 K && (ex19 K && (ex20 K && (ex21 K && (ex22 K && (ex23 K)))))))))))))))))))))))
set_option maxHeartbeats 0 in
theorem runG0 (w : World) : DL.PartEq RR 40000 w (fun s => DL.obF gx0 (HandSHeadRun.getT s)) true := by
  intro os
  kernel_rfl
def gxs (K : PySem.W.Frag) : Bool := gx0 K
theorem run (w : World) : HandSHeadRun.RunEq RR (view RR.prog [42]) (DL.hookH gxs fss fvs) (DL.obH gxs fss) 40000 names w := DL.PartEq.run (run0 w) (runG0 w) (runF w)
theorem gxs_all {K : PySem.W.Frag} (c : gxs K = true) : exs K = true := by
  unfold gxs gx0 at c
  simp only [Bool.and_eq_true] at c
  unfold exs
  simp only [Bool.and_eq_true, c, and_self]
end K71
open PySem PySem.W PyProof.Rows in
set_option maxRecDepth 100000 in
set_option maxHeartbeats 0 in
theorem PySem.Challenge.cw_offeredentry_k71_groups_refused_holds : PySem.Challenge.rw_offeredentry_k71_groups_refused.Holds := by
  w_on; o_law
  refine HandSHeadRun.head_any (r := OpenLaw.row PySem.Challenge.rw_offeredentry_k71_groups_refused) (q := view (OpenLaw.row PySem.Challenge.rw_offeredentry_k71_groups_refused).prog [42]) (H := DL.hookH K71.gxs K71.fss K71.fvs) (ob := DL.obH K71.gxs K71.fss) (M := 40000) (loose := K71.names) (d := HandSHeadRun.topDef (OpenLaw.row PySem.Challenge.rw_offeredentry_k71_groups_refused).prog 42) (kwd := []) DL.obH_eq
    (by kernel_rfl) (fun s => by kernel_rfl) K71.run (by kernel_rfl) (by kernel_rfl) (by kernel_rfl) (by rfl) (by first | assumption | decide +kernel) (by decide +kernel) ⟨rfl, rfl, rfl, rfl, rfl, by decide +kernel⟩ ?hw ?hc
  case hw => w_witness2
  case hc =>
    refine DL.walk_gE (l := PySem.Challenge.rw_offeredentry_k71_groups_refused) (n := 63) (k := 9) (x := "_law_script") (g := FN.m_law_ef94) rfl (by decide) (by kernel_rfl) ⟨rfl, by decide, by decide⟩ ?F FN.law_ef94_true
    intro w mg fa h Y G hmg0
    obtain ⟨K, KX, ce, cf⟩ := Y
    have hmg : mg ("law" : PySem.Str) = some (.ref fa) := by
      have e : (HandSHeadRun.topDef (OpenLaw.row PySem.Challenge.rw_offeredentry_k71_groups_refused).prog 42).name = ("law" : PySem.Str) := by kernel_rfl
      rw [← e]
      exact hmg0
    obtain ⟨fd, hb, hF⟩ := K71.facts (w := w) KX G hmg (K71.gxs_all ce) cf
    exact ⟨K, fd, KX, hb, hF⟩
